import PyProof.Rows.All
import Wide.All
import OpenK.AllK
import Wide.FinOn
import HandS.ForMost
import HandS.ForExc
import HandS.Walk
import HandS.Lambda
import HandS.ExcOwn
import HandS.CallSlots
import HandS.TupAny
import HandS.TupMul
import HandS.IsInst
import HandS.Deep
import HandS.WordsDict
import HandS.Text
import HandS.ExcIs
import KE.KExcIs
import HandS.Defaults
import HandS.Zip
import HandS.Conv
import HandS.TupLen
import HandS.DictTup
import HandS.Small
import PyProof.Rows.BitMore
import KE.KDictCopyH
import KE.KDictKeyed
import KE.KDictPairs
import PyProof.DictMoreH
import KE.SortData
import HandS.SortInts
import KE.GoesEnum
import KE.DataFind
import HandS.Style
import HandS.ListItems
import HandS.TupSets
import HandS.SetKeys
import HandS.TryOnly
import HandS.NestedK
import HandS.EndTab
import KE.KEqDict
import HandS.DictEq
import HandS.SortKw
import KE.DataMinMax
import HandS.SetTxt0
import HandS.SuiteRaise
import HandS.Iter
import HandS.More
import PyProof.StrOps2
import HandS.Flt
import HandS.ExcInit
import HandS.ClsMeth
import HandS.ExcField
import HandS.Comp
import HandS.FStr
import HandS.RaiseMore
import PySem.Challenge.RW_boardlay_k32_waves
set_option Elab.async false
set_option linter.all false
set_option maxRecDepth 100000
set_option maxHeartbeats 4000000
/-! The data layer: contracts over plain data instead of heaps. -/
namespace DL
open PySem L2
/-- an exception: its class, its fields (of a class with an own __init__) -/
structure Exn where
  c : Addr
  fs : Option (List (Str × PyData))
/-- a value that stays what it is, whatever comes behind -/
structure Per where
  φ : PySem.W.Frag → Hp → V → Prop
  mono : ∀ {K : PySem.W.Frag} {F F' : Hp} {v : V}, Same F F' → φ K F v → φ K F' v
/-- what a node of a tree is -/
inductive Knd where
  | lst
  | tup
  | dck (ks : List Key)
  | dct (ks : List (List Key))
  | ins (C : Addr) (fs : List Str)
  | gho
/-- what a cell owns, its parts told by their addresses -/
inductive Tree where
  | dat (d : PyData)
  | per (c : Per)
  | nod (k : Knd) (b : Addr) (ts : List Tree)
/-- a value as the contracts see it: data, a cell of the store, a list that nobody else has, any other -/
inductive EV where
  | dat (d : PyData)
  | loc (n : Nat)
  | new (xs : List PyData)
  | raw (v : V)
  | exc (x : Exn)
  | ro (xs : List PyData)
  | newd (kvs : List (List Key × PyData))
  | newk (kvs : List (Key × PyData))
  | at (n : Nat) (p : List Nat) (b : Addr)
  | newo (t : Tree)
  | per (c : Per)
/-- a cell: a list that may change, one that may not any more, a dict -/
inductive Cell where
  | lst (xs : List PyData)
  | frz (xs : List PyData)
  | dct (kvs : List (List Key × PyData))
  | dck (kvs : List (Key × PyData))
  | abs (P : List PyData → Prop)
  | tab (P : Addr) (nm : Str)
  | own (t : Tree)
  | dead
abbrev Mu := List Cell
abbrev DEnv := List (Option EV)
/-- dicts' keys: ints and texts, or tuples of such -/
def keyD : Key → PyData
  | .inl i => .int i
  | .inr x => .str x
/-- a key's text can be laid -/
def keyOk : Key → Prop
  | .inl _ => True
  | .inr x => PyData.strOk x = true
/-- the keys are alike -/
def sameT (ks : List (List Key × V)) (kvs : List (List Key × PyData)) : Prop := ks.map (·.1) = kvs.map (·.1) ∧ ∀ p ∈ kvs, ∀ k ∈ p.1, keyOk k
def sameK (ks : List (Key × V)) (kvs : List (Key × PyData)) : Prop := ks.map (·.1) = kvs.map (·.1) ∧ ∀ p ∈ kvs, keyOk p.1
/-- .. as data -/
def kvT (kvs : List (List Key × PyData)) : List (PyData × PyData) := kvs.map fun p => (.tuple (p.1.map keyD), p.2)
def kvK (kvs : List (Key × PyData)) : List (PyData × PyData) := kvs.map fun p => (keyD p.1, p.2)
mutual
/-- a value that is data, in the still part F of the heap -/
inductive DR (K : PySem.W.Frag) (F : Hp) : V → PyData → Prop
  | non : DR K F .non .none
  | bl (b : Bool) : DR K F (.bl b) (.bool b)
  | int (i : Int) : DR K F (.int i) (.int i)
  | str (x : Str) : PyData.strOk x = true → DR K F (.str x) (.str x)
  | lst {a : Addr} {vs : List V} {ds : List PyData} : F a = some (.lst vs) → DRs K F vs ds → DR K F (.ref a) (.list ds)
  | tup {a : Addr} {vs : List V} {ds : List PyData} : F a = some (.tup vs) → DRs K F vs ds → DR K F (.ref a) (.tuple ds)
  | dcT {a : Addr} {od : Obj} {ks : List (List Key × V)} {kvs : List (List Key × PyData)} {d : List (PyData × PyData)} : F a = some (.frz od (.dT ks)) → sameT ks kvs → DRs K F (ks.map (·.2)) (kvs.map (·.2)) → d = kvT kvs → DR K F (.ref a) (.dict d)
  | dcK {a : Addr} {od : Obj} {ks : List (Key × V)} {kvs : List (Key × PyData)} {d : List (PyData × PyData)} : F a = some (.frz od (.dK ks)) → sameK ks kvs → DRs K F (ks.map (·.2)) (kvs.map (·.2)) → d = kvK kvs → kvs ≠ [] → DR K F (.ref a) (.dict d)
inductive DRs (K : PySem.W.Frag) (F : Hp) : List V → List PyData → Prop
  | nil : DRs K F [] []
  | cons {v : V} {vs : List V} {d : PyData} {ds : List PyData} : DR K F v d → DRs K F vs ds → DRs K F (v :: vs) (d :: ds)
end
mutual
theorem DR.mono {K : PySem.W.Frag} {F F' : Hp} (e : Same F F') : ∀ {v : V} {d : PyData}, DR K F v d → DR K F' v d
  | _, _, .non => .non
  | _, _, .bl b => .bl b
  | _, _, .int i => .int i
  | _, _, .str x h => .str x h
  | _, _, .lst h hs => .lst (e _ _ h) (DRs.mono e hs)
  | _, _, .tup h hs => .tup (e _ _ h) (DRs.mono e hs)
  | _, _, .dcT h k hs e' => .dcT (e _ _ h) k (DRs.mono e hs) e'
  | _, _, .dcK h k hs e' n' => .dcK (e _ _ h) k (DRs.mono e hs) e' n'
theorem DRs.mono {K : PySem.W.Frag} {F F' : Hp} (e : Same F F') : ∀ {vs : List V} {ds : List PyData}, DRs K F vs ds → DRs K F' vs ds
  | _, _, .nil => .nil
  | _, _, .cons h hs => .cons (DR.mono e h) (DRs.mono e hs)
end
mutual
/-- no dict in it -/
def noD : PyData → Bool
  | .dict _ => false
  | .list xs => noDs xs
  | .tuple xs => noDs xs
  | .none => true
  | .bool _ => true
  | .int _ => true
  | .str _ => true
def noDs : List PyData → Bool
  | [] => true
  | x :: xs => noD x && noDs xs
end
mutual
theorem DR.dp {K : PySem.W.Frag} {F : Hp} : ∀ {v : V} {d : PyData}, DR K F v d → noD d = true → Dp K F v d
  | _, _, .non, _ => .non
  | _, _, .bl b, _ => .bl b
  | _, _, .int i, _ => .int i
  | _, _, .str x _, _ => .str x
  | _, _, .lst h hs, n => .lst (SqL.of h) (DRs.dp hs (by simpa [noD] using n))
  | _, _, .tup h hs, n => .tup (SqT.of h) (DRs.dp hs (by simpa [noD] using n))
  | _, _, .dcT _ _ _ _, n => by simp [noD] at n
  | _, _, .dcK _ _ _ _ _, n => by simp [noD] at n
theorem DRs.dp {K : PySem.W.Frag} {F : Hp} : ∀ {vs : List V} {ds : List PyData}, DRs K F vs ds → noDs ds = true → DpAll K F vs ds
  | _, _, .nil, _ => .nil
  | _, _, .cons h hs, n => .cons (DR.dp h (by simp [noDs] at n; exact n.1)) (DRs.dp hs (by simp [noDs] at n; exact n.2))
end
mutual
theorem DR.lay {K : PySem.W.Frag} {F : Hp} : ∀ {v : V} {d : PyData}, DR K F v d → noD d = true → d.canLay0 = true
  | _, _, .non, _ => by simp [PyData.canLay0]
  | _, _, .bl b, _ => by simp [PyData.canLay0]
  | _, _, .int i, _ => by simp [PyData.canLay0]
  | _, _, .str x h, _ => by simpa [PyData.canLay0] using h
  | _, _, .lst h hs, n => by simpa [PyData.canLay0] using DRs.lay hs (by simpa [noD] using n)
  | _, _, .tup h hs, n => by simpa [PyData.canLay0] using DRs.lay hs (by simpa [noD] using n)
  | _, _, .dcT _ _ _ _, n => by simp [noD] at n
  | _, _, .dcK _ _ _ _ _, n => by simp [noD] at n
theorem DRs.lay {K : PySem.W.Frag} {F : Hp} : ∀ {vs : List V} {ds : List PyData}, DRs K F vs ds → noDs ds = true → PyData.canLayAll0 ds = true
  | _, _, .nil, _ => by simp [PyData.canLayAll0]
  | _, _, .cons h hs, n => by
    simp [noDs] at n
    simp [PyData.canLayAll0, DR.lay h n.1, DRs.lay hs n.2]
end
theorem DRs.length {K : PySem.W.Frag} {F : Hp} : ∀ {vs : List V} {ds : List PyData}, DRs K F vs ds → vs.length = ds.length
  | _, _, .nil => rfl
  | _, _, .cons _ hs => by rw [List.length_cons, List.length_cons, DRs.length hs]
theorem DRs.append {K : PySem.W.Frag} {F : Hp} : ∀ {vs ws : List V} {ds es : List PyData}, DRs K F vs ds → DRs K F ws es → DRs K F (vs ++ ws) (ds ++ es)
  | _, _, _, _, .nil, s => s
  | _, _, _, _, .cons h hs, s => .cons h (DRs.append hs s)
theorem DRs.get {K : PySem.W.Frag} {F : Hp} : ∀ {vs : List V} {ds : List PyData} {i : Nat} {d : PyData}, DRs K F vs ds → ds[i]? = some d → ∃ v, vs[i]? = some v ∧ DR K F v d
  | _, _, _, _, .nil, e => by simp at e
  | _, _, 0, _, .cons h _, e => by simp at e; subst e; exact ⟨_, rfl, h⟩
  | _, _, i + 1, d, .cons _ hs, e => by
    obtain ⟨v, h1, h2⟩ := DRs.get (i := i) (d := d) hs (by simpa using e)
    exact ⟨v, by simpa using h1, h2⟩
theorem DRs.getV {K : PySem.W.Frag} {F : Hp} : ∀ {vs : List V} {ds : List PyData} {i : Nat} {v : V}, DRs K F vs ds → vs[i]? = some v → ∃ d, ds[i]? = some d ∧ DR K F v d
  | _, _, _, _, .nil, e => by simp at e
  | _, _, 0, _, .cons h _, e => by simp at e; subst e; exact ⟨_, rfl, h⟩
  | _, _, i + 1, v, .cons _ hs, e => by
    obtain ⟨d, h1, h2⟩ := DRs.getV (i := i) (v := v) hs (by simpa using e)
    exact ⟨d, by simpa using h1, h2⟩
theorem DRs.set {K : PySem.W.Frag} {F : Hp} {v : V} {d : PyData} (r : DR K F v d) : ∀ {vs : List V} {ds : List PyData} (i : Nat), DRs K F vs ds → DRs K F (vs.set i v) (ds.set i d)
  | _, _, _, .nil => .nil
  | _, _, 0, .cons _ hs => .cons r hs
  | _, _, i + 1, .cons h hs => .cons h (DRs.set r i hs)
theorem DRs.take {K : PySem.W.Frag} {F : Hp} : ∀ {vs : List V} {ds : List PyData} (i : Nat), DRs K F vs ds → DRs K F (vs.take i) (ds.take i)
  | _, _, 0, _ => .nil
  | _, _, _ + 1, .nil => .nil
  | _, _, i + 1, .cons h hs => .cons h (DRs.take i hs)
theorem DRs.drop {K : PySem.W.Frag} {F : Hp} : ∀ {vs : List V} {ds : List PyData} (i : Nat), DRs K F vs ds → DRs K F (vs.drop i) (ds.drop i)
  | _, _, 0, h => h
  | _, _, _ + 1, .nil => .nil
  | _, _, i + 1, .cons _ hs => DRs.drop i hs
/-! trees -/
mutual
/-- the addresses of a tree's own parts -/
def addrs : Tree → List Addr
  | .dat _ => []
  | .per _ => []
  | .nod _ b ts => b :: addrsL ts
def addrsL : List Tree → List Addr
  | [] => []
  | t :: ts => addrs t ++ addrsL ts
end
theorem addrs_dat {d : PyData} : addrs (.dat d) = [] := by rw [addrs]
theorem addrs_per {d : Per} : addrs (.per d) = [] := by rw [addrs]
theorem addrs_nod {k : Knd} {b : Addr} {ts : List Tree} : addrs (.nod k b ts) = b :: addrsL ts := by rw [addrs]
theorem addrsL_nil : addrsL [] = [] := by rw [addrsL]
theorem addrsL_cons {t : Tree} {ts : List Tree} : addrsL (t :: ts) = addrs t ++ addrsL ts := by rw [addrsL]
/-- what stands at a node's address -/
def HeapIs (H : Hp) (b : Addr) : Knd → List V → Prop
  | .lst, vs => H b = some (.lst vs)
  | .tup, vs => H b = some (.tup vs)
  | .dck ks, vs => H b = some (.dK (ks.zip vs)) ∧ ks.length = vs.length ∧ ks.Nodup ∧ ∀ k ∈ ks, keyOk k
  | .dct ks, vs => H b = some (.dT (ks.zip vs)) ∧ ks.length = vs.length ∧ ks.Nodup ∧ ∀ k ∈ ks, ∀ x ∈ k, keyOk x
  | .ins C fs, vs => ∃ dx, H b = some (.ins C dx (fs.zip vs)) ∧ fs.length = vs.length
  | .gho, _ => ∃ o, H b = some o ∧ ∀ ws, o ≠ .tup ws
theorem HeapIs.congr {H H' : Hp} {b : Addr} {k : Knd} {vs : List V} (h : HeapIs H b k vs) (e : H' b = H b) : HeapIs H' b k vs := by
  cases k with
  | lst => exact e.trans h
  | tup => exact e.trans h
  | dck ks => exact ⟨e.trans h.1, h.2⟩
  | dct ks => exact ⟨e.trans h.1, h.2⟩
  | ins C fs => obtain ⟨dx, h1, h2⟩ := h; exact ⟨dx, e.trans h1, h2⟩
  | gho => obtain ⟨o, h1, h2⟩ := h; exact ⟨o, e.trans h1, h2⟩
theorem HeapIs.here {H : Hp} {b : Addr} {k : Knd} {vs : List V} (h : HeapIs H b k vs) : H b ≠ none := by
  cases k with
  | lst => intro z; rw [show H b = some (.lst vs) from h] at z; cases z
  | tup => intro z; rw [show H b = some (.tup vs) from h] at z; cases z
  | dck ks => intro z; rw [h.1] at z; cases z
  | dct ks => intro z; rw [h.1] at z; cases z
  | ins C fs => obtain ⟨dx, h1, h2⟩ := h; intro z; rw [h1] at z; cases z
  | gho => obtain ⟨o, h1, h2⟩ := h; intro z; rw [h1] at z; cases z
def isTupK : Knd → Prop
  | .tup => True
  | _ => False
mutual
/-- a value that is the root of a tree -/
inductive TreeR (K : PySem.W.Frag) (F H : Hp) : V → Tree → Prop
  | dat {v : V} {d : PyData} : DR K F v d → TreeR K F H v (.dat d)
  | per {v : V} {c : Per} : c.φ K F v → TreeR K F H v (.per c)
  | nod {k : Knd} {b : Addr} {vs : List V} {ts : List Tree} : HeapIs H b k vs → (isTupK k ∨ F b = none) → TreesR K F H vs ts → TreeR K F H (.ref b) (.nod k b ts)
inductive TreesR (K : PySem.W.Frag) (F H : Hp) : List V → List Tree → Prop
  | nil : TreesR K F H [] []
  | cons {v : V} {vs : List V} {t : Tree} {ts : List Tree} : TreeR K F H v t → TreesR K F H vs ts → TreesR K F H (v :: vs) (t :: ts)
end
/-- F grows, nothing at the tree's own addresses changes -/
def Keeps (F H F' H' : Hp) (a : Addr) : Prop := H' a = H a ∧ (F a = none → (∀ vs, H a ≠ some (.tup vs)) → F' a = none)
mutual
theorem TreeR.keeps {K : PySem.W.Frag} {F H F' H' : Hp} (e : Same F F') : ∀ {v : V} {t : Tree}, TreeR K F H v t → (∀ a ∈ addrs t, Keeps F H F' H' a) → TreeR K F' H' v t
  | _, _, .dat h, _ => .dat (h.mono e)
  | _, _, .per (c := c) h, _ => .per (c.mono e h)
  | _, _, .nod (k := k) (b := b) (vs := vs) (ts := ts) h n hs, q => by
    have q0 := q b (by rw [addrs_nod]; exact List.mem_cons_self)
    refine .nod (h.congr q0.1) ?_ (TreesR.keeps e hs fun a ha => q a (by rw [addrs_nod]; exact List.mem_cons_of_mem _ ha))
    rcases n with n | n
    · exact .inl n
    · cases k with
      | tup => exact .inl trivial
      | lst => exact .inr (q0.2 n fun ws z => by rw [show H b = some (.lst vs) from h] at z; cases z)
      | dck ks => exact .inr (q0.2 n fun ws z => by rw [h.1] at z; cases z)
      | dct ks => exact .inr (q0.2 n fun ws z => by rw [h.1] at z; cases z)
      | ins C fs => exact .inr (q0.2 n fun ws z => by obtain ⟨dx, h1, h2⟩ := h; rw [h1] at z; cases z)
      | gho => exact .inr (q0.2 n fun ws z => by obtain ⟨o, h1, h2⟩ := h; rw [h1] at z; cases z; exact h2 _ rfl)
theorem TreesR.keeps {K : PySem.W.Frag} {F H F' H' : Hp} (e : Same F F') : ∀ {vs : List V} {ts : List Tree}, TreesR K F H vs ts → (∀ a ∈ addrsL ts, Keeps F H F' H' a) → TreesR K F' H' vs ts
  | _, _, .nil, _ => .nil
  | _, _, .cons h hs, q => .cons (TreeR.keeps e h fun a ha => q a (by rw [addrsL_cons]; exact List.mem_append_left _ ha)) (TreesR.keeps e hs fun a ha => q a (by rw [addrsL_cons]; exact List.mem_append_right _ ha))
end
mutual
theorem TreeR.live {K : PySem.W.Frag} {F H : Hp} : ∀ {v : V} {t : Tree}, TreeR K F H v t → ∀ a ∈ addrs t, H a ≠ none
  | _, _, .dat _, a, ha => by rw [addrs_dat] at ha; cases ha
  | _, _, .per _, a, ha => by rw [addrs_per] at ha; cases ha
  | _, _, .nod h _ hs, a, ha => by
    rw [addrs_nod] at ha
    rcases List.mem_cons.mp ha with rfl | ha
    · exact h.here
    · exact TreesR.live hs a ha
theorem TreesR.live {K : PySem.W.Frag} {F H : Hp} : ∀ {vs : List V} {ts : List Tree}, TreesR K F H vs ts → ∀ a ∈ addrsL ts, H a ≠ none
  | _, _, .nil, a, ha => by rw [addrsL_nil] at ha; cases ha
  | _, _, .cons h hs, a, ha => by
    rw [addrsL_cons] at ha
    rcases List.mem_append.mp ha with ha | ha
    · exact TreeR.live h a ha
    · exact TreesR.live hs a ha
end
/-- a world: the tracked heap, its still part, where the cells lie, what each owns -/
structure Wd where
  H : Hp
  F : Hp
  L : Nat → Addr
  O : Nat → Addr → Prop
/-- the addresses that a cell of the first N owns -/
abbrev NL (s : Wd) (N : Nat) (a : Addr) : Prop := ∀ m, m < N → ¬ s.O m a
/-- a table of code objects at P, each of the name nm -/
structure TabAt (F H : Hp) (a : Addr) (nm : Str) : Prop where
  nf : F a = none
  ex : ∃ ps : Array Value, H a = some (.tbl ps) ∧ TriplesOk ps.toList ∧ ∀ (pos : Pos) (cv : Value), codeAmong pos ps.toList = some cv → ∃ c, cv = .ref c ∧ F c = some (LamX.CodeO c nm)
theorem TabAt.to {F H F' H' : Hp} {a : Addr} {nm : Str} (h : TabAt F H a nm) (e : Same F F') (hf : F' a = none) (hh : ∀ ps, H a = some (.tbl ps) → H' a = some (.tbl ps)) : TabAt F' H' a nm := by
  obtain ⟨_, ps, h1, h2, h3⟩ := h
  refine ⟨hf, ps, hh _ h1, h2, fun pos cv hc => ?_⟩
  obtain ⟨c, e1, e2⟩ := h3 pos cv hc
  exact ⟨c, e1, e _ _ e2⟩
def CellAt (K : PySem.W.Frag) (s : Wd) (a : Addr) : Cell → Prop
  | .lst xs => s.F a = none ∧ ∃ vs, s.H a = some (.lst vs) ∧ DRs K s.F vs xs
  | .frz xs => ∃ vs, s.F a = some (.lst vs) ∧ DRs K s.F vs xs
  | .dct kvs => s.F a = none ∧ ∃ ks : List (List Key × V), s.H a = some (.dT ks) ∧ sameT ks kvs ∧ DRs K s.F (ks.map (·.2)) (kvs.map (·.2))
  | .dck kvs => s.F a = none ∧ ∃ ks : List (Key × V), s.H a = some (.dK ks) ∧ sameK ks kvs ∧ DRs K s.F (ks.map (·.2)) (kvs.map (·.2))
  | .abs P => ∃ xs, P xs ∧ s.F a = none ∧ ∃ vs, s.H a = some (.lst vs) ∧ DRs K s.F vs xs
  | .tab P nm => a = P ∧ TabAt s.F s.H a nm
  | .own _ => s.H a ≠ none
  | .dead => s.H a ≠ none
/-- the tree that cell n owns -/
structure OwnAt (K : PySem.W.Frag) (s : Wd) (n : Nat) (t : Tree) : Prop where
  is : TreeR K s.F s.H (.ref (s.L n)) t
  nd : (addrs t).Nodup
  own : ∀ a ∈ addrs t, s.O n a
structure Rep (K : PySem.W.Frag) (s : Wd) (μ : Mu) : Prop where
  sub : Same s.F s.H
  cell : ∀ n c, μ[n]? = some c → CellAt K s (s.L n) c
  dis : ∀ m n a, m < μ.length → n < μ.length → s.O m a → s.O n a → m = n
  root : ∀ n, n < μ.length → s.O n (s.L n)
  live : ∀ n a, n < μ.length → s.O n a → s.H a ≠ none
  tree : ∀ n t, μ[n]? = some (.own t) → OwnAt K s n t
theorem Rep.inj {K : PySem.W.Frag} {s : Wd} {μ : Mu} (R : Rep K s μ) (m n : Nat) (hm : m < μ.length) (hn : n < μ.length) (e : s.L m = s.L n) : m = n :=
  R.dis m n (s.L m) hm hn (R.root m hm) (by rw [e]; exact R.root n hn)
theorem Rep.rootNe {K : PySem.W.Frag} {s : Wd} {μ : Mu} (R : Rep K s μ) {p : Addr} (h : NL s μ.length p) : ∀ m, m < μ.length → s.L m ≠ p := fun m hm e => h m hm (e ▸ R.root m hm)
theorem CellAt.here {K : PySem.W.Frag} {s : Wd} {a : Addr} {c : Cell} (h : CellAt K s a c) (sub : Same s.F s.H) : s.H a ≠ none := by
  cases c with
  | lst xs => obtain ⟨_, vs, e, _⟩ := h; rw [e]; simp
  | frz xs => obtain ⟨vs, e, _⟩ := h; rw [sub _ _ e]; simp
  | dct kvs =>
    obtain ⟨_, ks, e, _⟩ := h
    rw [e]; simp
  | dck kvs =>
    obtain ⟨_, ks, e, _⟩ := h
    rw [e]; simp
  | abs P => obtain ⟨xs, _, _, vs, e, _⟩ := h; rw [e]; simp
  | tab P nm => obtain ⟨_, _, ps, e, _⟩ := h; rw [e]; simp
  | own t => exact h
  | dead => exact h
theorem Rep.here {K : PySem.W.Frag} {s : Wd} {μ : Mu} (R : Rep K s μ) {n : Nat} (h : n < μ.length) : s.H (s.L n) ≠ none := R.live n _ h (R.root n h)
/-- from s with N cells to s' with N' -/
structure Ext (s : Wd) (N : Nat) (s' : Wd) (N' : Nat) : Prop where
  f : Same s.F s'.F
  l : ∀ n, n < N → s'.L n = s.L n
  le : N ≤ N'
  keep : ∀ a o, s.H a = some o → NL s N a → s'.H a = some o
  fnew : ∀ a, s.F a = none → NL s N a → s.H a ≠ none → (∀ vs, s.H a ≠ some (.tup vs)) → s'.F a = none
  lnew : ∀ n, N ≤ n → n < N' → s.H (s'.L n) = none
  onew : ∀ n a, n < N' → s'.O n a → s.H a = none ∨ (n < N ∧ s.O n a)
  alive : ∀ a, s.H a ≠ none → s'.H a ≠ none
theorem Ext.refl (s : Wd) (N : Nat) : Ext s N s N := ⟨fun _ _ h => h, fun _ _ => rfl, Nat.le_refl _, fun _ _ h _ => h, fun _ h _ _ _ => h, fun n h1 h2 => absurd h1 (Nat.not_le_of_lt h2), fun n a h1 h2 => .inr ⟨h1, h2⟩, fun _ h => h⟩
theorem Ext.out {s s1 : Wd} {N N1 : Nat} (a : Ext s N s1 N1) {c : Addr} (hc : s.H c ≠ none) (hn : NL s N c) : NL s1 N1 c := fun n hn1 e => by
  rcases a.onew n c hn1 e with h | ⟨h1, h2⟩
  · exact hc h
  · exact hn n h1 h2
theorem Ext.trans {s s1 s2 : Wd} {N N1 N2 : Nat} (a : Ext s N s1 N1) (b : Ext s1 N1 s2 N2) (_h1 : ∀ n, n < N1 → s1.H (s1.L n) ≠ none) : Ext s N s2 N2 := by
  refine ⟨fun x o h => b.f x o (a.f x o h), fun n h => (b.l n (Nat.lt_of_lt_of_le h a.le)).trans (a.l n h), Nat.le_trans a.le b.le, fun x o h hn => b.keep x o (a.keep x o h hn) (a.out (by rw [h]; simp) hn), fun x hf hn hx ht => ?_, fun n hn hn2 => ?_, fun n x hn hx => ?_, fun x h => b.alive x (a.alive x h)⟩
  · have kx : ∀ o, s.H x = some o → s1.H x = some o := fun o q => a.keep x o q hn
    refine b.fnew x (a.fnew x hf hn hx ht) (a.out hx hn) ?_ ?_
    · exact a.alive x hx
    · cases q : s.H x with
      | none => exact absurd q hx
      | some o =>
        intro vs z
        rw [kx o q] at z
        exact ht vs (by rw [q]; exact z)
  · by_cases h : n < N1
    · rw [b.l n h]
      exact a.lnew n hn h
    · have q := b.lnew n (Nat.le_of_not_lt h) hn2
      cases e : s.H (s2.L n) with
      | none => rfl
      | some o => exact absurd q (a.alive _ (by rw [e]; simp))
  · rcases b.onew n x hn hx with h | ⟨h1, h2⟩
    · left
      cases e : s.H x with
      | none => rfl
      | some o => exact absurd h (a.alive _ (by rw [e]; simp))
    · exact a.onew n x h1 h2
/-- an exception's object -/
def excO (a : Addr) (cls : Value) (d : Option Addr) : HO := .ext fun h => ∃ (oe : Obj) (vs : Array Value), h.get? a = some oe ∧ Zc cls d oe ∧ oe.data = .fields vs
def excAt (K : PySem.W.Frag) (s : Wd) (v : V) (x : Exn) : Prop := ∃ a d, v = .ref a ∧ s.F a = some (excO a (.ref x.c) d) ∧ (x.fs = none → d = none) ∧ ∀ fs, x.fs = some fs → ∃ dd vs, d = some dd ∧ s.F dd = some (.xd vs) ∧ vs.map (·.1) = fs.map (·.1) ∧ DRs K s.F (vs.map (·.2)) (fs.map (·.2))
/-- a value as it is seen in a world with N cells -/
def VR (K : PySem.W.Frag) (s : Wd) (N : Nat) (v : V) : EV → Prop
  | .dat d => DR K s.F v d
  | .loc n => n < N ∧ v = .ref (s.L n)
  | .new xs => ∃ p vs, v = .ref p ∧ s.H p = some (.lst vs) ∧ s.F p = none ∧ NL s N p ∧ DRs K s.F vs xs
  | .raw u => v = u
  | .exc x => excAt K s v x
  | .ro xs => ∃ a vs, v = .ref a ∧ SqL K s.F a vs ∧ DRs K s.F vs xs
  | .newd kvs => ∃ p ks, v = .ref p ∧ s.H p = some (.dT ks) ∧ s.F p = none ∧ NL s N p ∧ sameT ks kvs ∧ DRs K s.F (ks.map (·.2)) (kvs.map (·.2))
  | .newk kvs => ∃ p ks, v = .ref p ∧ s.H p = some (.dK ks) ∧ s.F p = none ∧ NL s N p ∧ sameK ks kvs ∧ DRs K s.F (ks.map (·.2)) (kvs.map (·.2))
  | .at _ _ b => v = .ref b
  | .newo t => (∃ p, v = .ref p ∧ p ∈ addrs t) ∧ TreeR K s.F s.H v t ∧ (addrs t).Nodup ∧ ∀ a ∈ addrs t, NL s N a
  | .per c => c.φ K s.F v
theorem VR.ext {K : PySem.W.Frag} {s s' : Wd} {N N' : Nat} {v : V} {e : EV} (h : VR K s N v e) (x : Ext s N s' N') : VR K s' N' v e := by
  cases e with
  | dat d => exact DR.mono x.f h
  | loc n => exact ⟨Nat.lt_of_lt_of_le h.1 x.le, by rw [x.l n h.1]; exact h.2⟩
  | new xs =>
    obtain ⟨p, vs, e1, e2, e3, e4, e5⟩ := h
    exact ⟨p, vs, e1, x.keep p _ e2 e4, x.fnew p e3 e4 (by rw [e2]; simp) (by intro vs z; rw [e2] at z; cases z), x.out (by rw [e2]; simp) e4, e5.mono x.f⟩
  | raw u => exact h
  | exc y =>
    obtain ⟨a, d, e1, e2, e3, e4⟩ := h
    refine ⟨a, d, e1, x.f _ _ e2, e3, fun fs hf => ?_⟩
    obtain ⟨dd, vs, h1, h2, h3, h4⟩ := e4 fs hf
    exact ⟨dd, vs, h1, x.f _ _ h2, h3, h4.mono x.f⟩
  | ro xs =>
    obtain ⟨a, vs, e1, e2, e3⟩ := h
    exact ⟨a, vs, e1, x.f.seq e2, e3.mono x.f⟩
  | newd kvs =>
    obtain ⟨p, ks, e1, e2, e3, e4, e5, e6⟩ := h
    exact ⟨p, ks, e1, x.keep p _ e2 e4, x.fnew p e3 e4 (by rw [e2]; simp) (by intro vs z; rw [e2] at z; cases z), x.out (by rw [e2]; simp) e4, e5, e6.mono x.f⟩
  | newk kvs =>
    obtain ⟨p, ks, e1, e2, e3, e4, e5, e6⟩ := h
    exact ⟨p, ks, e1, x.keep p _ e2 e4, x.fnew p e3 e4 (by rw [e2]; simp) (by intro vs z; rw [e2] at z; cases z), x.out (by rw [e2]; simp) e4, e5, e6.mono x.f⟩
  | «at» n p b => exact h
  | newo t =>
    obtain ⟨e1, e2, e3, e4⟩ := h
    refine ⟨e1, e2.keeps x.f fun a ha => ⟨?_, fun hf ht => x.fnew a hf (e4 a ha) (e2.live a ha) ht⟩, e3, fun a ha => x.out (e2.live a ha) (e4 a ha)⟩
    cases q : s.H a with
    | none => exact absurd q (e2.live a ha)
    | some o => exact x.keep a o q (e4 a ha)
  | per c => exact c.mono x.f h
/-- a list that nobody else has was not there ahead -/
def Frsh (H : Hp) (v : V) : EV → Prop
  | .new _ => ∀ p, v = .ref p → H p = none
  | .newd _ => ∀ p, v = .ref p → H p = none
  | .newk _ => ∀ p, v = .ref p → H p = none
  | .newo t => ∀ a ∈ addrs t, H a = none
  | _ => True
theorem Ext.wasNone {s s1 : Wd} {N N1 : Nat} (x : Ext s N s1 N1) {p : Addr} (h : s1.H p = none) : s.H p = none := by
  cases e : s.H p with
  | none => rfl
  | some o => exact absurd h (x.alive p (by rw [e]; simp))
theorem Frsh.back {s s1 : Wd} {N N1 : Nat} {v : V} {e : EV} {K : PySem.W.Frag} (x : Ext s N s1 N1) (h : Frsh s1.H v e) (_r : ∀ n, n < N1 → s1.H (s1.L n) ≠ none) : Frsh s.H v e := by
  cases e with
  | new xs => exact fun p hp => x.wasNone (h p hp)
  | newd xs => exact fun p hp => x.wasNone (h p hp)
  | newk xs => exact fun p hp => x.wasNone (h p hp)
  | newo t => exact fun a ha => x.wasNone (h a ha)
  | _ => trivial
/-- the slots -/
structure ER (K : PySem.W.Frag) (s : Wd) (N : Nat) (σ : L2.St) (η : DEnv) : Prop where
  len : σ.length = η.length
  get : ∀ (i : Nat) (e : EV), η[i]? = some (some e) → ∃ v, σ[i]? = some (some v) ∧ VR K s N v e
theorem ER.ext {K : PySem.W.Frag} {s s' : Wd} {N N' : Nat} {σ : L2.St} {η : DEnv} (h : ER K s N σ η) (x : Ext s N s' N') : ER K s' N' σ η :=
  ⟨h.len, fun i e q => let ⟨v, h1, h2⟩ := h.get i e q; ⟨v, h1, h2.ext x⟩⟩
theorem ER.set {K : PySem.W.Frag} {s : Wd} {N : Nat} {σ : L2.St} {η : DEnv} (h : ER K s N σ η) (i : Nat) {v : V} {e : EV} (r : VR K s N v e) : ER K s N (σ.set i (some v)) (η.set i (some e)) := by
  refine ⟨by simp [h.len], fun j e' q => ?_⟩
  by_cases hj : i = j
  · subst hj
    by_cases hl : i < η.length
    · rw [List.getElem?_set_self hl] at q
      cases q
      exact ⟨v, List.getElem?_set_self (by rw [h.len]; exact hl), r⟩
    · rw [List.getElem?_eq_none (by simpa using hl)] at q
      cases q
  · rw [List.getElem?_set_ne hj] at q
    obtain ⟨w, h1, h2⟩ := h.get j e' q
    exact ⟨w, by rw [List.getElem?_set_ne hj]; exact h1, h2⟩
theorem ER.wipe1 {K : PySem.W.Frag} {s : Wd} {N : Nat} {σ : L2.St} {η : DEnv} (h : ER K s N σ η) (i : Nat) : ER K s N (σ.set i none) (η.set i none) := by
  refine ⟨by simp [h.len], fun j e' q => ?_⟩
  by_cases hj : i = j
  · subst hj
    by_cases hl : i < η.length
    · rw [List.getElem?_set_self hl] at q
      cases q
    · rw [List.getElem?_eq_none (by simpa using hl)] at q
      cases q
  · rw [List.getElem?_set_ne hj] at q
    obtain ⟨w, h1, h2⟩ := h.get j e' q
    exact ⟨w, by rw [List.getElem?_set_ne hj]; exact h1, h2⟩
def wipeD (η : DEnv) : List Nat → DEnv
  | [] => η
  | v :: vs => (wipeD η vs).set v none
theorem ER.wipe {K : PySem.W.Frag} {s : Wd} {N : Nat} {σ : L2.St} {η : DEnv} (h : ER K s N σ η) : ∀ vs : List Nat, ER K s N (L2.wipe σ vs) (wipeD η vs)
  | [] => h
  | v :: vs => by
    unfold L2.wipe wipeD
    exact (ER.wipe h vs).wipe1 v
/-- fewer slots are known -/
theorem ER.sub {K : PySem.W.Frag} {s : Wd} {N : Nat} {σ : L2.St} {η η' : DEnv} (h : ER K s N σ η) (hl : η'.length = η.length) (hs : ∀ (i : Nat) (e : EV), η'[i]? = some (some e) → η[i]? = some (some e)) : ER K s N σ η' :=
  ⟨by rw [h.len, hl], fun i e q => h.get i e (hs i e q)⟩
/-! ### making cells, making still -/
section
variable {K : PySem.W.Frag} {s0 s : Wd} {N0 : Nat} {μ : Mu}
theorem cell_still {s : Wd} {a b : Addr} {o : HO} {c : Cell} (h : CellAt K s b c) (ne : b ≠ a) (hn : s.F a = none) : CellAt K { s with F := upd s.F a o } b c := by
  have e : Same s.F (upd s.F a o) := fun x o' q => by rw [upd_ne (ne_of_none q hn)]; exact q
  cases c with
  | lst xs => obtain ⟨h1, ws, h2, h3⟩ := h; exact ⟨(upd_ne ne).trans h1, ws, h2, h3.mono e⟩
  | frz xs => obtain ⟨ws, h2, h3⟩ := h; exact ⟨ws, e _ _ h2, h3.mono e⟩
  | dct kvs =>
    obtain ⟨h1, ks, h2, h3, h4⟩ := h
    exact ⟨(upd_ne ne).trans h1, ks, h2, h3, h4.mono e⟩
  | dck kvs =>
    obtain ⟨h1, ks, h2, h3, h4⟩ := h
    exact ⟨(upd_ne ne).trans h1, ks, h2, h3, h4.mono e⟩
  | abs P => obtain ⟨xs, hP, h1, ws, h2, h3⟩ := h; exact ⟨xs, hP, (upd_ne ne).trans h1, ws, h2, h3.mono e⟩
  | tab P nm => exact ⟨h.1, h.2.to e ((upd_ne ne).trans h.2.nf) fun _ z => z⟩
  | own t => exact h
  | dead => exact h
/-- the trees when the world changes beside them -/
theorem OwnAt.keeps {s' : Wd} {n : Nat} {t : Tree} (h : OwnAt K s n t) (e : Same s.F s'.F) (hL : s'.L n = s.L n) (hO : ∀ a, s.O n a → s'.O n a) (k : ∀ a, s.O n a → Keeps s.F s.H s'.F s'.H a) : OwnAt K s' n t :=
  ⟨by rw [hL]; exact h.is.keeps e fun a ha => k a (h.own a ha), h.nd, fun a ha => hO a (h.own a ha)⟩
theorem keeps_same {F H : Hp} {a : Addr} : Keeps F H F H a := ⟨rfl, fun h _ => h⟩
/-- the still part grows at one address that no cell's tree has, or by a tuple -/
theorem keeps_F {F H : Hp} {a b : Addr} {o : HO} (h : a ≠ b ∨ ∃ vs, H b = some (.tup vs)) : Keeps F H (upd F b o) H a := ⟨rfl, fun hf ht => by
  rcases h with h | ⟨vs, h⟩
  · rw [upd_ne h]; exact hf
  · by_cases e : a = b
    · rw [e] at ht; exact absurd h (ht vs)
    · rw [upd_ne e]; exact hf⟩
/-- a list that nobody else has becomes still -/
theorem still_new {p : Addr} {vs : List V} {xs : List PyData} (R : Rep K s μ) (x : Ext s0 N0 s μ.length) (hp : s.H p = some (.lst vs)) (hf : s.F p = none) (hl : NL s μ.length p) (hd : DRs K s.F vs xs) (h0 : s0.H p = none) :
    Rep K { s with F := upd s.F p (.lst vs) } μ ∧ Ext s0 N0 { s with F := upd s.F p (.lst vs) } μ.length ∧ DR K (upd s.F p (.lst vs)) (.ref p) (.list xs) := by
  have e : Same s.F (upd s.F p (.lst vs)) := fun y o q => by rw [upd_ne (ne_of_none q hf)]; exact q
  refine ⟨⟨fun a o q => ?_, fun n c q => cell_still (R.cell n c q) (R.rootNe hl n (List.getElem?_eq_some_iff.mp q).1) hf, R.dis, R.root, R.live, fun n t q => (R.tree n t q).keeps e rfl (fun _ z => z) fun a ha => keeps_F (.inl fun z => hl n (List.getElem?_eq_some_iff.mp q).1 (z ▸ ha))⟩, ⟨fun a o q => e a o (x.f a o q), x.l, x.le, x.keep, fun a h1 h2 h3 h4 => ?_, x.lnew, x.onew, x.alive⟩, .lst upd_same (hd.mono e)⟩
  · have q' : upd s.F p (.lst vs) a = some o := q
    by_cases ha : a = p
    · subst ha
      rw [upd_same] at q'
      cases q'
      exact hp
    · rw [upd_ne ha] at q'
      exact R.sub a o q'
  · have ha : a ≠ p := fun z => h3 (z ▸ h0)
    show upd s.F p (.lst vs) a = none
    rw [upd_ne ha]
    exact x.fnew a h1 h2 h3 h4
theorem CellAt.atL {K : PySem.W.Frag} {s : Wd} {L' : Nat → Addr} {O' : Nat → Addr → Prop} {a : Addr} {c : Cell} (h : CellAt K s a c) : CellAt K { s with L := L', O := O' } a c := by
  cases c <;> exact h
/-- the world with one cell more, at p, owning S -/
abbrev newL (s : Wd) (N : Nat) (p : Addr) (S : Addr → Prop) : Wd := { s with L := fun n => if n = N then p else s.L n, O := fun n a => if n = N then S a else s.O n a }
theorem newL_L {s : Wd} {N : Nat} {p : Addr} {S : Addr → Prop} : (newL s N p S).L N = p := by
  show (if N = N then p else _) = p
  rw [if_pos rfl]
theorem newL_Ln {s : Wd} {N n : Nat} {p : Addr} {S : Addr → Prop} (h : n ≠ N) : (newL s N p S).L n = s.L n := by
  show (if n = N then p else _) = _
  rw [if_neg h]
theorem newL_O {s : Wd} {N : Nat} {p a : Addr} {S : Addr → Prop} : (newL s N p S).O N a = S a := by
  show (if N = N then S a else _) = _
  rw [if_pos rfl]
theorem newL_On {s : Wd} {N n : Nat} {p a : Addr} {S : Addr → Prop} (h : n ≠ N) : (newL s N p S).O n a = s.O n a := by
  show (if n = N then S a else _) = _
  rw [if_neg h]
theorem upd_live {H : Hp} {p a : Addr} {o : HO} (h : H a ≠ none) : upd H p o a ≠ none := by
  by_cases e : a = p
  · rw [e, upd_same]; simp
  · rw [upd_ne e]; exact h
/-- the world changes, the cells lie as they lay -/
theorem Rep.of {H' F' : Hp} {μ' : Mu} (R : Rep K s μ) (hlen : μ'.length = μ.length) (hs : Same F' H') (hc : ∀ n c, μ'[n]? = some c → CellAt K { s with H := H', F := F' } (s.L n) c) (ha : ∀ a, s.H a ≠ none → H' a ≠ none)
    (hT : ∀ n t, μ'[n]? = some (.own t) → OwnAt K { s with H := H', F := F' } n t) : Rep K { s with H := H', F := F' } μ' :=
  ⟨hs, hc, fun m n a h1 h2 => R.dis m n a (hlen ▸ h1) (hlen ▸ h2), fun n h => R.root n (hlen ▸ h), fun n a h z => ha a (R.live n a (hlen ▸ h) z), hT⟩
/-- .. trees beside what changes -/
theorem Rep.beside {H' F' : Hp} (R : Rep K s μ) (e : Same s.F F') (k : ∀ n a, n < μ.length → s.O n a → Keeps s.F s.H F' H' a) : ∀ n t, μ[n]? = some (.own t) → OwnAt K { s with H := H', F := F' } n t := fun n t q =>
  (R.tree n t q).keeps (s' := { s with H := H', F := F' }) e rfl (fun _ z => z) fun a ha => k n a (List.getElem?_eq_some_iff.mp q).1 ha
theorem keeps_put {F H : Hp} {a p : Addr} {o : HO} (h : a ≠ p) : Keeps F H F (upd H p o) a := ⟨upd_ne h, fun z _ => z⟩
theorem keeps_putF {F H : Hp} {a p : Addr} {o o' : HO} (h : a ≠ p) : Keeps F H (upd F p o') (upd H p o) a := ⟨upd_ne h, fun z _ => by rw [upd_ne h]; exact z⟩
/-- .. becomes a cell -/
theorem cell_newG {p : Addr} {c : Cell} (S : Addr → Prop) (R : Rep K s μ) (x : Ext s0 N0 s μ.length) (hC : CellAt K s p c) (hS : ∀ a, S a → s.H a ≠ none ∧ NL s μ.length a ∧ s0.H a = none) (hp : S p) (hT : ∀ t, c = .own t → TreeR K s.F s.H (.ref p) t ∧ (addrs t).Nodup ∧ ∀ a ∈ addrs t, S a) :
    Rep K (newL s μ.length p S) (μ ++ [c]) ∧ Ext s0 N0 (newL s μ.length p S) (μ ++ [c]).length := by
  have lt2 : ∀ n, n < (μ ++ [c]).length → n ≠ μ.length → n < μ.length := fun n h h2 => by simp at h; omega
  have at2 : ∀ {n c'}, (μ ++ [c])[n]? = some c' → n ≠ μ.length → μ[n]? = some c' := fun {n c'} q h => by
    rw [List.getElem?_append_left (lt2 n (List.getElem?_eq_some_iff.mp q).1 h)] at q
    exact q
  refine ⟨⟨R.sub, fun n c' q => ?_, fun m n a hm hn h1 h2 => ?_, fun n hn => ?_, fun n a hn ha => ?_, fun n t q => ?_⟩, ⟨x.f, fun n hn => ?_, by simp; exact Nat.le_trans x.le (Nat.le_succ _), x.keep, x.fnew, fun n h1 h2 => ?_, fun n a hn ha => ?_, x.alive⟩⟩
  · by_cases hn : n = μ.length
    · subst hn
      simp at q
      subst q
      rw [newL_L]
      exact hC.atL
    · rw [newL_Ln hn]
      exact (R.cell n c' (at2 q hn)).atL
  · by_cases e1 : m = μ.length
    · by_cases e2 : n = μ.length
      · omega
      · rw [e1, newL_O] at h1
        rw [newL_On e2] at h2
        exact absurd h2 ((hS a h1).2.1 n (lt2 n hn e2))
    · by_cases e2 : n = μ.length
      · rw [e2, newL_O] at h2
        rw [newL_On e1] at h1
        exact absurd h1 ((hS a h2).2.1 m (lt2 m hm e1))
      · rw [newL_On e1] at h1
        rw [newL_On e2] at h2
        exact R.dis m n a (lt2 m hm e1) (lt2 n hn e2) h1 h2
  · by_cases e : n = μ.length
    · rw [e, newL_L, newL_O]; exact hp
    · rw [newL_Ln e, newL_On e]; exact R.root n (lt2 n hn e)
  · by_cases e : n = μ.length
    · rw [e, newL_O] at ha; exact (hS a ha).1
    · rw [newL_On e] at ha; exact R.live n a (lt2 n hn e) ha
  · by_cases e : n = μ.length
    · subst e
      simp at q
      obtain ⟨t1, t2, t3⟩ := hT t q
      exact ⟨by rw [newL_L]; exact t1, t2, fun a ha => by rw [newL_O]; exact t3 a ha⟩
    · exact (R.tree n t (at2 q e)).keeps (fun _ _ z => z) (newL_Ln e) (fun a z => by rw [newL_On e]; exact z) fun a _ => keeps_same
  · rw [newL_Ln (by have := x.le; omega)]
    exact x.l n hn
  · by_cases e : n = μ.length
    · rw [e, newL_L]; exact (hS p hp).2.2
    · rw [newL_Ln e]; exact x.lnew n h1 (lt2 n h2 e)
  · by_cases e : n = μ.length
    · rw [e, newL_O] at ha; exact .inl (hS a ha).2.2
    · rw [newL_On e] at ha; exact x.onew n a (lt2 n hn e) ha
theorem cell_newC {p : Addr} {c : Cell} (R : Rep K s μ) (x : Ext s0 N0 s μ.length) (hC : CellAt K s p c) (hl : NL s μ.length p) (h0 : s0.H p = none) (hn : ∀ t, c ≠ .own t := by intro t z; cases z) :
    Rep K (newL s μ.length p (· = p)) (μ ++ [c]) ∧ Ext s0 N0 (newL s μ.length p (· = p)) (μ ++ [c]).length :=
  cell_newG _ R x hC (fun a ha => by subst ha; exact ⟨hC.here R.sub, hl, h0⟩) rfl fun t e => absurd e (hn t)
theorem cell_new {p : Addr} {vs : List V} {xs : List PyData} (R : Rep K s μ) (x : Ext s0 N0 s μ.length) (hp : s.H p = some (.lst vs)) (hf : s.F p = none) (hl : NL s μ.length p) (hd : DRs K s.F vs xs) (h0 : s0.H p = none) :
    Rep K (newL s μ.length p (· = p)) (μ ++ [.lst xs]) ∧ Ext s0 N0 (newL s μ.length p (· = p)) (μ ++ [Cell.lst xs]).length := cell_newC R x ⟨hf, vs, hp, hd⟩ hl h0
/-- a tree that nobody else has becomes a cell -/
theorem cell_newO {p : Addr} {t : Tree} (R : Rep K s μ) (x : Ext s0 N0 s μ.length) (hp : p ∈ addrs t) (ht : TreeR K s.F s.H (.ref p) t) (hn : (addrs t).Nodup) (hl : ∀ a ∈ addrs t, NL s μ.length a) (h0 : ∀ a ∈ addrs t, s0.H a = none) :
    Rep K (newL s μ.length p (· ∈ addrs t)) (μ ++ [.own t]) ∧ Ext s0 N0 (newL s μ.length p (· ∈ addrs t)) (μ ++ [Cell.own t]).length :=
  cell_newG _ R x (ht.live p hp) (fun a ha => ⟨ht.live a ha, hl a ha, h0 a ha⟩) hp fun t' e => by cases e; exact ⟨ht, hn, fun _ z => z⟩
/-- a cell becomes still -/
theorem still_cell {n : Nat} {xs : List PyData} (R : Rep K s μ) (x : Ext s0 N0 s μ.length) (hn : μ[n]? = some (.lst xs)) :
    ∃ F', Rep K { s with F := F' } (μ.set n (.frz xs)) ∧ Ext s0 N0 { s with F := F' } (μ.set n (.frz xs)).length ∧ DR K F' (.ref (s.L n)) (.list xs) := by
  obtain ⟨hf, vs, hp, hd⟩ := R.cell n _ hn
  have hlt := (List.getElem?_eq_some_iff.mp hn).1
  have e : Same s.F (upd s.F (s.L n) (.lst vs)) := fun y o q => by rw [upd_ne (ne_of_none q hf)]; exact q
  refine ⟨upd s.F (s.L n) (.lst vs), ⟨fun a o q => ?_, fun m c q => ?_, fun m n a hm hn => R.dis m n a (by simpa using hm) (by simpa using hn), fun n hn => R.root n (by simpa using hn), fun n a hn => R.live n a (by simpa using hn), fun m t q => ?_⟩, ⟨fun a o q => e a o (x.f a o q), x.l, by rw [List.length_set]; exact x.le, x.keep, fun a h1 h2 h3 h4 => ?_, fun i h1 h2 => x.lnew i h1 (by simpa using h2), fun i a h1 => x.onew i a (by simpa using h1), x.alive⟩, .lst upd_same (hd.mono e)⟩
  · by_cases ha : a = s.L n
    · subst ha
      have q' : upd s.F (s.L n) (.lst vs) (s.L n) = some o := q
      rw [upd_same] at q'
      cases q'
      exact hp
    · have q' : upd s.F (s.L n) (.lst vs) a = some o := q
      rw [upd_ne ha] at q'
      exact R.sub a o q'
  · by_cases hm : n = m
    · subst hm
      rw [List.getElem?_set_self hlt] at q
      cases q
      exact ⟨vs, upd_same, hd.mono e⟩
    · rw [List.getElem?_set_ne hm] at q
      exact cell_still (R.cell m c q) (fun z => hm (R.inj m n (List.getElem?_eq_some_iff.mp q).1 hlt z).symm) hf
  · by_cases hm : n = m
    · subst hm
      rw [List.getElem?_set_self hlt] at q
      cases q
    · rw [List.getElem?_set_ne hm] at q
      exact (R.tree m t q).keeps e rfl (fun _ z => z) fun a ha => keeps_F (.inl fun z => hm (R.dis n m a hlt (List.getElem?_eq_some_iff.mp q).1 (by rw [z]; exact R.root n hlt) ha))
  · by_cases ha : a = s.L n
    · exfalso
      rcases x.onew n a hlt (by rw [ha]; exact R.root n hlt) with h5 | ⟨h5, h6⟩
      · exact h3 h5
      · exact h2 n h5 h6
    · show upd s.F (s.L n) (.lst vs) a = none
      rw [upd_ne ha]
      exact x.fnew a h1 h2 h3 h4
theorem CellAt.mutH {a b : Addr} {o : HO} {c : Cell} (h : CellAt K s a c) (ne : a ≠ b) : CellAt K { s with H := upd s.H b o } a c := by
  cases c with
  | lst xs => obtain ⟨h1, vs, h2, h3⟩ := h; exact ⟨h1, vs, (upd_ne ne).trans h2, h3⟩
  | frz xs => exact h
  | dct kvs => obtain ⟨h1, ks, h2, h3, h4⟩ := h; exact ⟨h1, ks, (upd_ne ne).trans h2, h3, h4⟩
  | dck kvs => obtain ⟨h1, ks, h2, h3, h4⟩ := h; exact ⟨h1, ks, (upd_ne ne).trans h2, h3, h4⟩
  | abs P => obtain ⟨xs, hP, h1, vs, h2, h3⟩ := h; exact ⟨xs, hP, h1, vs, (upd_ne ne).trans h2, h3⟩
  | tab P nm => exact ⟨h.1, h.2.to (fun _ _ z => z) h.2.nf fun _ z => (upd_ne ne).trans z⟩
  | own t => exact upd_live h
  | dead => exact upd_live h
theorem get_set_ne {m n : Nat} {c c2 : Cell} (hm : n ≠ m) (q : (μ.set n c)[m]? = some c2) : μ[m]? = some c2 := by rwa [List.getElem?_set_ne hm] at q
/-- a cell that owns no tree is written -/
theorem mut_g {n : Nat} {c' : Cell} {o : HO} (R : Rep K s μ) (x : Ext s0 N0 s μ.length) (hlt : n < μ.length) (hf : s.F (s.L n) = none) (hc : CellAt K { s with H := upd s.H (s.L n) o } (s.L n) c') (ho : ∀ t, c' ≠ .own t) :
    Rep K { s with H := upd s.H (s.L n) o } (μ.set n c') ∧ Ext s0 N0 { s with H := upd s.H (s.L n) o } (μ.set n c').length := by
  refine ⟨R.of (by simp) (fun a u q => ?_) (fun m c2 q => ?_) (fun a h => upd_live h) (fun m t q => ?_), ⟨x.f, x.l, by rw [List.length_set]; exact x.le, fun a u q hL => ?_, x.fnew, fun i h1 h2 => x.lnew i h1 (by simpa using h2), fun i a h1 => x.onew i a (by simpa using h1), fun a h => upd_live (x.alive a h)⟩⟩
  · have q' : s.F a = some u := q
    show upd s.H (s.L n) o a = some u
    rw [upd_ne (ne_of_none q' hf)]
    exact R.sub a u q'
  · by_cases hm : n = m
    · subst hm
      rw [List.getElem?_set_self hlt] at q
      cases q
      exact hc
    · exact (R.cell m c2 (get_set_ne hm q)).mutH fun z => hm (R.inj m n (List.getElem?_eq_some_iff.mp (get_set_ne hm q)).1 hlt z).symm
  · by_cases hm : n = m
    · subst hm
      rw [List.getElem?_set_self hlt] at q
      cases q
      exact absurd rfl (ho t)
    · have q' := get_set_ne hm q
      have hm' := (List.getElem?_eq_some_iff.mp q').1
      exact (R.tree m t q').keeps (s' := { s with H := upd s.H (s.L n) o }) (fun _ _ z => z) rfl (fun _ z => z) fun a ha => keeps_put fun z => hm (R.dis m n a hm' hlt ha (by rw [z]; exact R.root n hlt)).symm
  · have q' := x.keep a u q hL
    show upd s.H (s.L n) o a = some u
    rw [upd_ne fun z => x.out (by rw [q]; simp) hL n hlt (by rw [z]; exact R.root n hlt)]
    exact q'
/-- only the first N cells are kept -/
theorem Rep.take (R : Rep K s μ) (N : Nat) : Rep K s (μ.take N) := by
  have at2 : ∀ {n c}, (μ.take N)[n]? = some c → μ[n]? = some c := fun {n c} q => by
    rw [List.getElem?_take] at q
    split at q
    · exact q
    · cases q
  have lt2 : ∀ {n}, n < (μ.take N).length → n < μ.length := fun {n} h => by rw [List.length_take] at h; omega
  exact ⟨R.sub, fun n c q => R.cell n c (at2 q), fun m n a hm hn => R.dis m n a (lt2 hm) (lt2 hn), fun n hn => R.root n (lt2 hn), fun n a hn => R.live n a (lt2 hn), fun n t q => R.tree n t (at2 q)⟩
theorem Ext.take {N N' : Nat} (x : Ext s0 N0 s N) (h1 : N0 ≤ N') (h2 : N' ≤ N) : Ext s0 N0 s N' := ⟨x.f, x.l, h1, x.keep, x.fnew, fun n a b => x.lnew n a (by omega), fun n a b => x.onew n a (by omega), x.alive⟩
end
/-! ### a tree's parts by their paths -/
def Tree.kid : Tree → Nat → Option Tree
  | .nod _ _ ts, i => ts[i]?
  | _, _ => none
def Tree.get : List Nat → Tree → Option Tree
  | [], t => some t
  | i :: p, t => match t.kid i with
    | some u => Tree.get p u
    | none => none
def Tree.put (u : Tree) : List Nat → Tree → Tree
  | [], _ => u
  | i :: p, .nod k b ts => match ts[i]? with
    | some c => .nod k b (ts.set i (Tree.put u p c))
    | none => .nod k b ts
  | _ :: _, t => t
section
variable {K : PySem.W.Frag} {F H F' H' : Hp}
theorem TreesR.get : ∀ {vs : List V} {ts : List Tree} {i : Nat} {c : Tree}, TreesR K F H vs ts → ts[i]? = some c → ∃ v, vs[i]? = some v ∧ TreeR K F H v c
  | _, _, _, _, .nil, h => by simp at h
  | _, _, 0, _, .cons r _, h => by simp at h; subst h; exact ⟨_, rfl, r⟩
  | _, _, i + 1, c, .cons _ rs, h => by
    obtain ⟨v, h1, h2⟩ := TreesR.get (i := i) (c := c) rs (by simpa using h)
    exact ⟨v, by simpa using h1, h2⟩
/-- a part is a tree -/
theorem TreeR.get : ∀ {p : List Nat} {v : V} {t u : Tree}, TreeR K F H v t → Tree.get p t = some u → ∃ w, TreeR K F H w u
  | [], v, t, u, r, h => by cases h; exact ⟨v, r⟩
  | i :: p, v, t, u, r, h => by
    unfold Tree.get at h
    cases r with
    | dat _ => simp [Tree.kid] at h
    | per _ => simp [Tree.kid] at h
    | @nod k b vs ts h1 h2 h3 =>
      cases hc : ts[i]? with
      | none => simp [Tree.kid, hc] at h
      | some c =>
        simp only [Tree.kid, hc] at h
        obtain ⟨w, _, r'⟩ := h3.get hc
        exact r'.get h
theorem TreeR.node {v : V} {k : Knd} {b : Addr} {ts : List Tree} (r : TreeR K F H v (.nod k b ts)) : v = .ref b ∧ ∃ vs, HeapIs H b k vs ∧ (isTupK k ∨ F b = none) ∧ TreesR K F H vs ts := by
  cases r with
  | nod h1 h2 h3 => exact ⟨rfl, _, h1, h2, h3⟩
end
def nodeAt (μ : Mu) (n : Nat) (p : List Nat) : Option Tree := match μ[n]? with
  | some (.own t) => Tree.get p t
  | _ => none
theorem nodeAt_ex {μ : Mu} {n : Nat} {p : List Nat} {u : Tree} (h : nodeAt μ n p = some u) : ∃ t, μ[n]? = some (.own t) ∧ Tree.get p t = some u := by
  unfold nodeAt at h
  split at h
  · exact ⟨_, by assumption, h⟩
  · cases h
section
variable {K : PySem.W.Frag} {s : Wd} {n : Nat} {μ : Mu} {p : List Nat} {k : Knd} {b : Addr} {ts : List Tree}
theorem node_is (R : Rep K s μ) (h : nodeAt μ n p = some (.nod k b ts)) : ∃ vs, HeapIs s.H b k vs ∧ (isTupK k ∨ s.F b = none) ∧ TreesR K s.F s.H vs ts := by
  obtain ⟨t, h1, h2⟩ := nodeAt_ex h
  obtain ⟨w, r⟩ := (R.tree n t h1).is.get h2
  exact r.node.2
end
/-- children that are data -/
def flatT : List Tree → Option (List PyData)
  | [] => some []
  | .dat d :: ts => (flatT ts).map (d :: ·)
  | _ :: _ => none
theorem flatT_map (xs : List PyData) : flatT (xs.map .dat) = some xs := by
  induction xs with
  | nil => rfl
  | cons x xs ih => rw [List.map_cons, flatT, ih]; rfl
theorem flatT_ok {K : PySem.W.Frag} {F H : Hp} : ∀ {vs : List V} {ts : List Tree} {xs : List PyData}, TreesR K F H vs ts → flatT ts = some xs → DRs K F vs xs
  | _, _, _, .nil, h => by cases h; exact .nil
  | _, _, xs, .cons (t := t) r rs, h => by
    cases t with
    | dat d =>
      rename_i vs ts
      unfold flatT at h
      cases q : flatT ts with
      | none => rw [q] at h; cases h
      | some ys =>
        rw [q] at h
        cases h
        cases r with
        | dat r => exact .cons r (flatT_ok rs q)
    | per _ => cases h
    | nod _ _ _ => cases h
mutual
/-- a tree of lists, tuples and data -/
def datT : Tree → Option PyData
  | .dat d => some d
  | .per _ => none
  | .nod .lst _ ts => (datsT ts).map .list
  | .nod .tup _ ts => (datsT ts).map .tuple
  | .nod _ _ _ => none
def datsT : List Tree → Option (List PyData)
  | [] => some []
  | t :: ts => match datT t, datsT ts with
    | some d, some ds => some (d :: ds)
    | _, _ => none
end
theorem datT_dat {d : PyData} : datT (.dat d) = some d := by rw [datT]
theorem datT_lst {b : Addr} {ts : List Tree} : datT (.nod .lst b ts) = (datsT ts).map .list := by rw [datT]
theorem datT_tup {b : Addr} {ts : List Tree} : datT (.nod .tup b ts) = (datsT ts).map .tuple := by rw [datT]
theorem datsT_nil : datsT [] = some [] := by rw [datsT]
mutual
theorem datT_dp {K : PySem.W.Frag} {F H : Hp} (sub : Same F H) : ∀ {v : V} {t : Tree} {d : PyData}, TreeR K F H v t → datT t = some d → noD d = true → Dp K H v d ∧ d.canLay0 = true
  | _, _, _, .dat r, h, n => by
    rw [datT_dat] at h
    cases h
    exact ⟨(r.mono sub).dp n, r.lay n⟩
  | _, _, _, .per _, h, _ => by rw [datT] at h; cases h
  | _, _, d, .nod (k := k) (ts := ts) h1 _ h3, h, n => by
    cases k with
    | lst =>
      rw [datT_lst] at h
      cases q : datsT ts with
      | none => rw [q] at h; cases h
      | some ds =>
        rw [q] at h
        cases h
        obtain ⟨a1, a2⟩ := datsT_dp sub h3 q (by simpa [noD] using n)
        exact ⟨.lst (SqL.of h1) a1, by simpa [PyData.canLay0] using a2⟩
    | tup =>
      rw [datT_tup] at h
      cases q : datsT ts with
      | none => rw [q] at h; cases h
      | some ds =>
        rw [q] at h
        cases h
        obtain ⟨a1, a2⟩ := datsT_dp sub h3 q (by simpa [noD] using n)
        exact ⟨.tup (SqT.of h1) a1, by simpa [PyData.canLay0] using a2⟩
    | dck ks => rw [datT] at h <;> first | cases h | (intro z; cases z)
    | dct ks => rw [datT] at h <;> first | cases h | (intro z; cases z)
    | ins C fs => rw [datT] at h <;> first | cases h | (intro z; cases z)
    | gho => rw [datT] at h <;> first | cases h | (intro z; cases z)
theorem datsT_dp {K : PySem.W.Frag} {F H : Hp} (sub : Same F H) : ∀ {vs : List V} {ts : List Tree} {ds : List PyData}, TreesR K F H vs ts → datsT ts = some ds → noDs ds = true → DpAll K H vs ds ∧ PyData.canLayAll0 ds = true
  | _, _, _, .nil, h, _ => by
    rw [datsT_nil] at h
    cases h
    exact ⟨.nil, by simp [PyData.canLayAll0]⟩
  | _, _, ds, .cons (t := t) (ts := ts) r rs, h, n => by
    rw [datsT] at h
    cases q : datT t with
    | none => rw [q] at h; cases h
    | some d =>
      cases q2 : datsT ts with
      | none => rw [q, q2] at h; cases h
      | some es =>
        rw [q, q2] at h
        cases h
        simp [noDs] at n
        obtain ⟨a1, a2⟩ := datT_dp sub r q n.1
        obtain ⟨b1, b2⟩ := datsT_dp sub rs q2 n.2
        exact ⟨.cons a1 b1, by simp [PyData.canLayAll0, a2, b2]⟩
end
/-! ### parts put into trees -/
section
open PySem.Spec PyProof.Rows
theorem addrsL_get {ts : List Tree} {i : Nat} {c : Tree} (h : ts[i]? = some c) : ∀ a ∈ addrs c, a ∈ addrsL ts := by
  induction ts generalizing i with
  | nil => simp at h
  | cons t ts ih =>
    intro a ha
    rw [addrsL_cons]
    cases i with
    | zero => simp at h; subst h; exact List.mem_append_left _ ha
    | succ i => exact List.mem_append_right _ (ih (by simpa using h) a ha)
theorem addrs_get : ∀ {p : List Nat} {t u : Tree}, Tree.get p t = some u → ∀ a ∈ addrs u, a ∈ addrs t
  | [], t, u, h, a, ha => by cases h; exact ha
  | i :: p, t, u, h, a, ha => by
    unfold Tree.get at h
    cases t with
    | dat d => simp [Tree.kid] at h
    | per d => simp [Tree.kid] at h
    | nod k b ts =>
      cases hc : ts[i]? with
      | none => simp [Tree.kid, hc] at h
      | some c =>
        simp only [Tree.kid, hc] at h
        rw [addrs_nod]
        exact List.mem_cons_of_mem _ (addrsL_get hc a (addrs_get h a ha))
section
variable {K : PySem.W.Frag} {F H F' H' : Hp}
theorem TreesR.length : ∀ {vs : List V} {ts : List Tree}, TreesR K F H vs ts → vs.length = ts.length
  | _, _, .nil => rfl
  | _, _, .cons _ rs => by rw [List.length_cons, List.length_cons, rs.length]
theorem TreesR.append : ∀ {vs ws : List V} {ts us : List Tree}, TreesR K F H vs ts → TreesR K F H ws us → TreesR K F H (vs ++ ws) (ts ++ us)
  | _, _, _, _, .nil, s => s
  | _, _, _, _, .cons r rs, s => .cons r (rs.append s)
theorem TreesR.set : ∀ {vs : List V} {ts : List Tree} {v : V} {t : Tree} (i : Nat), TreesR K F H vs ts → TreeR K F H v t → TreesR K F H (vs.set i v) (ts.set i t)
  | _, _, _, _, _, .nil, _ => .nil
  | _, _, _, _, 0, .cons _ rs, r => .cons r rs
  | _, _, _, _, i + 1, .cons h rs, r => .cons h (rs.set i r)
/-- the others of a row when one is another -/
theorem TreesR.put (e : Same F F') : ∀ {vs : List V} {ts : List Tree} {i : Nat} {c c' : Tree}, TreesR K F H vs ts → (addrsL ts).Nodup → ts[i]? = some c → (∀ v, vs[i]? = some v → TreeR K F' H' v c') → (∀ a ∈ addrsL ts, a ∉ addrs c → Keeps F H F' H' a) → TreesR K F' H' vs (ts.set i c')
  | _, _, _, _, _, .nil, _, h, _, _ => by simp at h
  | v :: vs, t :: ts, 0, c, c', .cons r rs, nd, h, hv, q => by
    simp at h
    subst h
    rw [addrsL_cons] at nd q
    have nd' := List.nodup_append.mp nd
    exact .cons (hv v rfl) (rs.keeps e fun a ha => q a (List.mem_append_right _ ha) fun z => nd'.2.2 a z a ha rfl)
  | v :: vs, t :: ts, i + 1, c, c', .cons r rs, nd, h, hv, q => by
    rw [addrsL_cons] at nd q
    have nd' := List.nodup_append.mp nd
    have hc : ts[i]? = some c := by simpa using h
    refine .cons (r.keeps e fun a ha => q a (List.mem_append_left _ ha) fun z => nd'.2.2 a ha a (addrsL_get hc a z) rfl) (TreesR.put e rs nd'.2.1 hc (fun w hw => hv w (by simpa using hw)) fun a ha => q a (List.mem_append_right _ ha))
/-- a tree when one of its parts is another -/
theorem TreeR.put (e : Same F F') : ∀ {p : List Nat} {v : V} {t u u' : Tree}, TreeR K F H v t → (addrs t).Nodup → Tree.get p t = some u → (∀ w, TreeR K F H w u → TreeR K F' H' w u') → (∀ a ∈ addrs t, a ∉ addrs u → Keeps F H F' H' a) → TreeR K F' H' v (Tree.put u' p t)
  | [], v, t, u, u', r, nd, h, hu, q => by cases h; exact hu v r
  | i :: p, v, t, u, u', r, nd, h, hu, q => by
    unfold Tree.get at h
    cases r with
    | dat _ => simp [Tree.kid] at h
    | per _ => simp [Tree.kid] at h
    | @nod k b vs ts h1 h2 h3 =>
      cases hc : ts[i]? with
      | none => simp [Tree.kid, hc] at h
      | some c =>
        simp only [Tree.kid, hc] at h
        unfold Tree.put
        simp only [hc]
        rw [addrs_nod] at nd q
        obtain ⟨nb, nts⟩ := List.nodup_cons.mp nd
        have hcu := addrs_get h
        have qb := q b List.mem_cons_self fun z => nb (addrsL_get hc b (hcu b z))
        obtain ⟨v0, hv0, r0⟩ := h3.get hc
        have ndc : (addrs c).Nodup := by
          clear hu q h qb r0 hv0 h3 hcu nd nb
          induction ts generalizing i with
          | nil => simp at hc
          | cons t ts ih =>
            rw [addrsL_cons] at nts
            have z := List.nodup_append.mp nts
            cases i with
            | zero => simp at hc; subst hc; exact z.1
            | succ i => exact ih _ (by simpa using hc) z.2.1
        refine .nod (h1.congr qb.1) ?_ (TreesR.put e h3 nts hc (fun w hw => ?_) fun a ha hn => q a (List.mem_cons_of_mem _ ha) fun z => hn (hcu a z))
        · rcases h2 with h2 | h2
          · exact .inl h2
          · cases k with
            | tup => exact .inl trivial
            | lst => exact .inr (qb.2 h2 fun ws z => by rw [show H b = some (.lst vs) from h1] at z; cases z)
            | dck ks => exact .inr (qb.2 h2 fun ws z => by rw [h1.1] at z; cases z)
            | dct ks => exact .inr (qb.2 h2 fun ws z => by rw [h1.1] at z; cases z)
            | ins C fs => exact .inr (qb.2 h2 fun ws z => by obtain ⟨dx, g1, g2⟩ := h1; rw [g1] at z; cases z)
            | gho => exact .inr (qb.2 h2 fun ws z => by obtain ⟨o, g1, g2⟩ := h1; rw [g1] at z; cases z; exact g2 _ rfl)
        · rw [hv0] at hw
          cases hw
          exact r0.put e ndc h hu fun a ha hn => q a (List.mem_cons_of_mem _ (addrsL_get hc a ha)) hn
end
theorem addrsL_set {i : Nat} {c c' : Tree} : ∀ {ts : List Tree}, ts[i]? = some c → (addrsL ts).Nodup → ∀ a ∈ addrsL (ts.set i c'), (a ∈ addrsL ts ∧ a ∉ addrs c) ∨ a ∈ addrs c' := by
  intro ts
  induction ts generalizing i with
  | nil => intro h; simp at h
  | cons t ts ih =>
    intro h nd a ha
    rw [addrsL_cons] at nd
    have z := List.nodup_append.mp nd
    cases i with
    | zero =>
      simp at h
      subst h
      rw [List.set_cons_zero, addrsL_cons] at ha
      rcases List.mem_append.mp ha with ha | ha
      · exact .inr ha
      · exact .inl ⟨by rw [addrsL_cons]; exact List.mem_append_right _ ha, fun y => z.2.2 a y a ha rfl⟩
    | succ i =>
      have hc : ts[i]? = some c := by simpa using h
      rw [List.set_cons_succ, addrsL_cons] at ha
      rcases List.mem_append.mp ha with ha | ha
      · exact .inl ⟨by rw [addrsL_cons]; exact List.mem_append_left _ ha, fun y => z.2.2 a ha a (addrsL_get hc a y) rfl⟩
      · rcases ih hc z.2.1 a ha with ⟨h1, h2⟩ | h1
        · exact .inl ⟨by rw [addrsL_cons]; exact List.mem_append_right _ h1, h2⟩
        · exact .inr h1
theorem nodupL_set {i : Nat} {c c' : Tree} : ∀ {ts : List Tree}, ts[i]? = some c → (addrsL ts).Nodup → (addrs c').Nodup → (∀ a ∈ addrs c', a ∈ addrsL ts → a ∈ addrs c) → (addrsL (ts.set i c')).Nodup := by
  intro ts
  induction ts generalizing i with
  | nil => intro h; simp at h
  | cons t ts ih =>
    intro h nd nc q
    rw [addrsL_cons] at nd q
    have z := List.nodup_append.mp nd
    cases i with
    | zero =>
      simp at h
      subst h
      rw [List.set_cons_zero, addrsL_cons]
      refine List.nodup_append.mpr ⟨nc, z.2.1, fun a ha b hb e => ?_⟩
      subst e
      exact z.2.2 a (q a ha (List.mem_append_right _ hb)) a hb rfl
    | succ i =>
      have hc : ts[i]? = some c := by simpa using h
      rw [List.set_cons_succ, addrsL_cons]
      refine List.nodup_append.mpr ⟨z.1, ih hc z.2.1 nc fun a ha hb => q a ha (List.mem_append_right _ hb), fun a ha b hb e => ?_⟩
      subst e
      rcases addrsL_set hc z.2.1 a hb with ⟨h1, _⟩ | h1
      · exact z.2.2 a ha a h1 rfl
      · exact z.2.2 a ha a (addrsL_get hc a (q a h1 (List.mem_append_left _ ha))) rfl
theorem nodup_get : ∀ {p : List Nat} {t u : Tree}, (addrs t).Nodup → Tree.get p t = some u → (addrs u).Nodup
  | [], t, u, nd, h => by cases h; exact nd
  | i :: p, t, u, nd, h => by
    unfold Tree.get at h
    cases t with
    | dat d => simp [Tree.kid] at h
    | per d => simp [Tree.kid] at h
    | nod k b ts =>
      cases hc : ts[i]? with
      | none => simp [Tree.kid, hc] at h
      | some c =>
        simp only [Tree.kid, hc] at h
        rw [addrs_nod] at nd
        have nts := (List.nodup_cons.mp nd).2
        refine nodup_get ?_ h
        clear h nd
        induction ts generalizing i with
        | nil => simp at hc
        | cons t ts ih =>
          rw [addrsL_cons] at nts
          have z := List.nodup_append.mp nts
          cases i with
          | zero => simp at hc; subst hc; exact z.1
          | succ i => exact ih _ (by simpa using hc) z.2.1
theorem addrs_put : ∀ {p : List Nat} {t u u' : Tree}, Tree.get p t = some u → (addrs t).Nodup → ∀ a ∈ addrs (Tree.put u' p t), (a ∈ addrs t ∧ a ∉ addrs u) ∨ a ∈ addrs u'
  | [], t, u, u', h, nd, a, ha => .inr ha
  | i :: p, t, u, u', h, nd, a, ha => by
    unfold Tree.get at h
    cases t with
    | dat d => simp [Tree.kid] at h
    | per d => simp [Tree.kid] at h
    | nod k b ts =>
      cases hc : ts[i]? with
      | none => simp [Tree.kid, hc] at h
      | some c =>
        simp only [Tree.kid, hc] at h
        unfold Tree.put at ha
        simp only [hc] at ha
        rw [addrs_nod] at nd ha ⊢
        obtain ⟨nb, nts⟩ := List.nodup_cons.mp nd
        have hcu := addrs_get h
        rcases List.mem_cons.mp ha with rfl | ha
        · exact .inl ⟨List.mem_cons_self, fun z => nb (addrsL_get hc _ (hcu _ z))⟩
        · rcases addrsL_set hc nts a ha with ⟨h1, h2⟩ | h1
          · exact .inl ⟨List.mem_cons_of_mem _ h1, fun z => h2 (hcu a z)⟩
          · have ndc : (addrs c).Nodup := nodup_get (p := [i]) (t := .nod k b ts) (u := c) (by rw [addrs_nod]; exact nd) (by simp [Tree.get, Tree.kid, hc])
            rcases addrs_put h ndc a h1 with ⟨h3, h4⟩ | h3
            · exact .inl ⟨List.mem_cons_of_mem _ (addrsL_get hc a h3), h4⟩
            · exact .inr h3
theorem nodup_put : ∀ {p : List Nat} {t u u' : Tree}, Tree.get p t = some u → (addrs t).Nodup → (addrs u').Nodup → (∀ a ∈ addrs u', a ∈ addrs t → a ∈ addrs u) → (addrs (Tree.put u' p t)).Nodup
  | [], t, u, u', h, nd, nu, q => nu
  | i :: p, t, u, u', h, nd, nu, q => by
    unfold Tree.get at h
    cases t with
    | dat d => simp [Tree.kid] at h
    | per d => simp [Tree.kid] at h
    | nod k b ts =>
      cases hc : ts[i]? with
      | none => simp [Tree.kid, hc] at h
      | some c =>
        simp only [Tree.kid, hc] at h
        unfold Tree.put
        simp only [hc]
        rw [addrs_nod] at q ⊢
        have nd0 := nd
        rw [addrs_nod] at nd
        obtain ⟨nb, nts⟩ := List.nodup_cons.mp nd
        have hcu := addrs_get h
        have ndc : (addrs c).Nodup := nodup_get (p := [i]) (t := .nod k b ts) (u := c) nd0 (by simp [Tree.get, Tree.kid, hc])
        have nup : (addrs (Tree.put u' p c)).Nodup := nodup_put h ndc nu fun a ha hb => q a ha (List.mem_cons_of_mem _ (addrsL_get hc a hb))
        have sub : ∀ a ∈ addrs (Tree.put u' p c), a ∈ addrsL ts → a ∈ addrs c := fun a ha hb => by
          rcases addrs_put h ndc a ha with ⟨h1, _⟩ | h1
          · exact h1
          · exact hcu a (q a h1 (List.mem_cons_of_mem _ hb))
        refine List.nodup_cons.mpr ⟨fun z => ?_, nodupL_set hc nts nup sub⟩
        rcases addrsL_set hc nts b z with ⟨h1, _⟩ | h1
        · exact nb h1
        · rcases addrs_put h ndc b h1 with ⟨h2, _⟩ | h2
          · exact nb (addrsL_get hc b h2)
          · exact nb (addrsL_get hc b (hcu b (q b h2 List.mem_cons_self)))
/-! ### a cell's parts -/
def putAt (μ : Mu) (n : Nat) (p : List Nat) (u : Tree) : Mu := match μ[n]? with
  | some (.own t) => μ.set n (.own (Tree.put u p t))
  | _ => μ
theorem putAt_len {μ : Mu} {n : Nat} {p : List Nat} {u : Tree} : (putAt μ n p u).length = μ.length := by
  unfold putAt
  split
  · exact List.length_set
  · rfl
section
variable {K : PySem.W.Frag} {s0 s : Wd} {N0 n : Nat} {μ : Mu} {p : List Nat} {k : Knd} {b : Addr} {ts : List Tree} {u : Tree}
/-- a cell's part is another: the world changes at its own addresses and at new ones -/
theorem own_put {H' F' : Hp} {u' : Tree} (R : Rep K s μ) (x : Ext s0 N0 s μ.length) (h : nodeAt μ n p = some u) (hu : ∀ w, TreeR K s.F s.H w u → TreeR K F' H' w u') (hn : (addrs u').Nodup)
    (hfr : ∀ a ∈ addrs u', a ∈ addrs u ∨ (NL s μ.length a ∧ s0.H a = none)) (sub : Same F' H') (e : Same s.F F') (hF : ∀ a, s.F a = none → F' a ≠ none → (∃ t, μ[n]? = some (.own t) ∧ a ∈ addrs t ∧ a ∈ addrs u))
    (hk : ∀ a, a ∉ addrs u → s.H a ≠ none → H' a = s.H a) (hal : ∀ a, s.H a ≠ none → H' a ≠ none) (hnew : ∀ a ∈ addrs u', H' a ≠ none) (hroot : p = [] → ∀ v, TreeR K F' H' v u' → ∃ a, v = .ref a ∧ a ∈ addrs u') :
    Rep K { s with H := H', F := F', O := fun m a => if m = n then s.O n a ∨ a ∈ addrs u' else s.O m a } (putAt μ n p u') ∧ Ext s0 N0 { s with H := H', F := F', O := fun m a => if m = n then s.O n a ∨ a ∈ addrs u' else s.O m a } (putAt μ n p u').length := by
  obtain ⟨t, h1, h2⟩ := nodeAt_ex h
  have T := R.tree n t h1
  have hlt := (List.getElem?_eq_some_iff.mp h1).1
  have hu_t : ∀ a ∈ addrs u, a ∈ addrs t := addrs_get h2
  have hu_O : ∀ a ∈ addrs u, s.O n a := fun a ha => T.own a (hu_t a ha)
  have ep : putAt μ n p u' = μ.set n (.own (Tree.put u' p t)) := by unfold putAt; rw [h1]
  have keep : ∀ a, a ∉ addrs u → s.H a ≠ none → Keeps s.F s.H F' H' a := fun a ha hl => ⟨hk a ha hl, fun hf _ => by
    cases q : F' a with
    | none => rfl
    | some o => obtain ⟨_, _, _, z⟩ := hF a hf (by rw [q]; simp); exact absurd z ha⟩
  have tr : TreeR K F' H' (.ref (s.L n)) (Tree.put u' p t) := T.is.put e T.nd h2 hu fun a ha hn => keep a hn (T.is.live a ha)
  have nd : (addrs (Tree.put u' p t)).Nodup := nodup_put h2 T.nd hn fun a ha hb => (hfr a ha).elim id fun z => absurd (T.own a hb) (z.1 n hlt)
  have ad : ∀ a ∈ addrs (Tree.put u' p t), s.O n a ∨ a ∈ addrs u' := fun a ha => (addrs_put h2 T.nd a ha).elim (fun z => .inl (T.own a z.1)) .inr
  have nO : ∀ m a, m < μ.length → m ≠ n → s.O m a → a ∉ addrs u := fun m a hm hmn ho ha => hmn (R.dis m n a hm hlt ho (hu_O a ha))
  rw [ep, List.length_set]
  refine ⟨⟨sub, fun m c q => ?_, fun i j a hi hj ha hb => ?_, fun m hm => ?_, fun m a hm ha => ?_, fun m t' q => ?_⟩, ⟨fun a o q => e a o (x.f a o q), x.l, x.le, fun a o q hL => ?_, fun a g1 g2 g3 g4 => ?_, x.lnew, fun i a hi ha => ?_, fun a ha => hal a (x.alive a ha)⟩⟩
  · by_cases hm : n = m
    · subst hm
      rw [List.getElem?_set_self hlt] at q
      cases q
      exact hal _ (R.here hlt)
    · have q' := get_set_ne hm q
      have hm' := (List.getElem?_eq_some_iff.mp q').1
      have C := R.cell m c q'
      have hne : s.L m ∉ addrs u := nO m _ hm' (fun z => hm z.symm) (R.root m hm')
      have kp := keep _ hne (R.here hm')
      cases c with
      | lst xs => obtain ⟨c1, vs, c2, c3⟩ := C; exact ⟨kp.2 c1 fun ws z => (by rw [c2] at z; cases z), vs, kp.1.trans c2, c3.mono e⟩
      | frz xs => obtain ⟨vs, c2, c3⟩ := C; exact ⟨vs, e _ _ c2, c3.mono e⟩
      | dct kvs => obtain ⟨c1, ks, c2, c3, c4⟩ := C; exact ⟨kp.2 c1 fun ws z => (by rw [c2] at z; cases z), ks, kp.1.trans c2, c3, c4.mono e⟩
      | dck kvs => obtain ⟨c1, ks, c2, c3, c4⟩ := C; exact ⟨kp.2 c1 fun ws z => (by rw [c2] at z; cases z), ks, kp.1.trans c2, c3, c4.mono e⟩
      | abs P => obtain ⟨xs, hP, c1, vs, c2, c3⟩ := C; exact ⟨xs, hP, kp.2 c1 fun ws z => (by rw [c2] at z; cases z), vs, kp.1.trans c2, c3.mono e⟩
      | tab P nm => exact ⟨C.1, C.2.to e (kp.2 C.2.nf fun ws z => (by obtain ⟨_, ps, c2, _⟩ := C.2; rw [c2] at z; cases z)) fun _ z => kp.1.trans z⟩
      | own t => exact hal _ C
      | dead => exact hal _ C
  · rw [List.length_set] at hi hj
    simp only at ha hb
    by_cases e1 : i = n
    · by_cases e2 : j = n
      · rw [e1, e2]
      · rw [if_pos e1] at ha
        rw [if_neg e2] at hb
        rcases ha with ha | ha
        · exact e1.trans (R.dis n j a hlt hj ha hb)
        · rcases hfr a ha with z | z
          · exact absurd z (nO j a hj e2 hb)
          · exact absurd hb (z.1 j hj)
    · by_cases e2 : j = n
      · rw [if_neg e1] at ha
        rw [if_pos e2] at hb
        rcases hb with hb | hb
        · exact (R.dis i n a hi hlt ha hb).trans e2.symm
        · rcases hfr a hb with z | z
          · exact absurd z (nO i a hi e1 ha)
          · exact absurd ha (z.1 i hi)
      · rw [if_neg e1] at ha
        rw [if_neg e2] at hb
        exact R.dis i j a hi hj ha hb
  · rw [List.length_set] at hm
    simp only
    by_cases e1 : m = n
    · rw [if_pos e1, e1]; exact .inl (R.root n hlt)
    · rw [if_neg e1]; exact R.root m hm
  · rw [List.length_set] at hm
    simp only at ha
    by_cases e1 : m = n
    · rw [if_pos e1] at ha
      exact ha.elim (fun z => hal a (R.live n a hlt z)) (hnew a)
    · rw [if_neg e1] at ha
      exact hal a (R.live m a hm ha)
  · by_cases hm : n = m
    · subst hm
      rw [List.getElem?_set_self hlt] at q
      cases q
      exact ⟨tr, nd, fun a ha => by simp only [if_true]; exact ad a ha⟩
    · have q' := get_set_ne hm q
      have hm' := (List.getElem?_eq_some_iff.mp q').1
      refine (R.tree m t' q').keeps e rfl (fun a z => ?_) fun a ha => keep a (nO m a hm' (fun z => hm z.symm) ha) (R.live m a hm' ha)
      simp only
      rw [if_neg (fun z => hm z.symm)]
      exact z
  · have q1 := x.keep a o q hL
    show H' a = some o
    rw [hk a (fun z => x.out (by rw [q]; simp) hL n hlt (hu_O a z)) (by rw [q1]; simp)]
    exact q1
  · show F' a = none
    cases qF : F' a with
    | none => rfl
    | some o =>
      obtain ⟨_, _, _, z⟩ := hF a (x.fnew a g1 g2 g3 g4) (by rw [qF]; simp)
      exact absurd (hu_O a z) (x.out g3 g2 n hlt)
  · simp only at ha
    by_cases e1 : i = n
    · rw [if_pos e1] at ha
      rw [e1]
      rcases ha with ha | ha
      · exact x.onew n a hlt ha
      · rcases hfr a ha with z | z
        · exact x.onew n a hlt (hu_O a z)
        · exact .inl z.2
    · rw [if_neg e1] at ha
      exact x.onew i a hi ha
end
end
end DL
set_option Elab.async false
set_option linter.all false
set_option maxRecDepth 100000
set_option maxHeartbeats 4000000
namespace DL
open PySem L2
abbrev PQ := EV → Mu → Prop
abbrev XQ := Exn → Mu → Prop
/-- what must hold of the slots and the store so that an expression gives what is wanted -/
abbrev TDE := DEnv → Mu → PQ → XQ → Prop
abbrev TDT := DEnv → Mu → (Bool → Mu → Prop) → XQ → Prop
abbrev TDA := DEnv → Mu → (List EV → Mu → Prop) → XQ → Prop
structure DEnds where
  nx : DEnv → Mu → Prop
  rt : EV → Mu → Prop
  bk : DEnv → Mu → Prop := fun _ _ => False
  ct : DEnv → Mu → Prop := fun _ _ => False
abbrev TDS := DEnds → XQ → DEnv → Mu → Prop
def XR (K : PySem.W.Frag) (s : Wd) (cls : Value) (d : Option Addr) (x : Exn) : Prop := cls = .ref x.c ∧ match x.fs, d with
  | none, none => True
  | some fs, some a => ∃ vs : List (Str × V), s.F a = some (.xd vs) ∧ vs.map (·.1) = fs.map (·.1) ∧ DRs K s.F (vs.map (·.2)) (fs.map (·.2))
  | _, _ => False
/-- the state of a body: world, store, slots -/
structure Sit (K : PySem.W.Frag) (s : Wd) (μ : Mu) (σ : L2.St) (η : DEnv) : Prop where
  rep : Rep K s μ
  er : ER K s μ.length σ η
def LE (K : PySem.W.Frag) (s : Wd) (N : Nat) (q : PQ) (Q : VK) : Prop := ∀ (e : EV) (μ' : Mu) (v : V) (s' : Wd), q e μ' → Ext s N s' μ'.length → Rep K s' μ' → VR K s' μ'.length v e → Frsh s.H v e → Q v s'.H
def LB (K : PySem.W.Frag) (s : Wd) (N : Nat) (q : Bool → Mu → Prop) (Q : Bool → Hp → Prop) : Prop := ∀ (b : Bool) (μ' : Mu) (s' : Wd), q b μ' → Ext s N s' μ'.length → Rep K s' μ' → Q b s'.H
inductive VRs (K : PySem.W.Frag) (s : Wd) (N : Nat) (H0 : Hp) : List V → List EV → Prop
  | nil : VRs K s N H0 [] []
  | cons {v : V} {vs : List V} {e : EV} {es : List EV} : VR K s N v e → Frsh H0 v e → VRs K s N H0 vs es → VRs K s N H0 (v :: vs) (e :: es)
def LA (K : PySem.W.Frag) (s : Wd) (N : Nat) (q : List EV → Mu → Prop) (Q : List V → Hp → Prop) : Prop := ∀ (es : List EV) (μ' : Mu) (vs : List V) (s' : Wd), q es μ' → Ext s N s' μ'.length → Rep K s' μ' → VRs K s' μ'.length s.H vs es → Q vs s'.H
def LX (K : PySem.W.Frag) (s : Wd) (N : Nat) (σ : L2.St) (E : XQ) (W : WX) : Prop := ∀ (x : Exn) (μ' : Mu) (cls : Value) (d : Option Addr) (s' : Wd), E x μ' → Ext s N s' μ'.length → Rep K s' μ' → XR K s' cls d x → W cls d σ s'.H
section
variable {K : PySem.W.Frag} {s s1 : Wd} {N N1 : Nat} {μ1 : Mu} {σ : L2.St}
theorem LE.go {q : PQ} {Q : VK} (h : LE K s N q Q) (x : Ext s N s1 μ1.length) (R : Rep K s1 μ1) : LE K s1 μ1.length q Q := fun e μ' v s' hq x' R' r f =>
  h e μ' v s' hq (x.trans x' fun n hn => R.here hn) R' r (f.back (K := K) x fun n hn => R.here hn)
theorem LB.go {q : Bool → Mu → Prop} {Q : Bool → Hp → Prop} (h : LB K s N q Q) (x : Ext s N s1 μ1.length) (R : Rep K s1 μ1) : LB K s1 μ1.length q Q := fun e μ' s' hq x' R' =>
  h e μ' s' hq (x.trans x' fun n hn => R.here hn) R'
theorem LX.go {E : XQ} {W : WX} (h : LX K s N σ E W) (x : Ext s N s1 μ1.length) (R : Rep K s1 μ1) : LX K s1 μ1.length σ E W := fun e μ' cls d s' hq x' R' r =>
  h e μ' cls d s' hq (x.trans x' fun n hn => R.here hn) R' r
theorem LX.none {W : WX} : LX K s N σ (fun _ _ => False) W := fun _ _ _ _ _ h => h.elim
theorem VRs.ext {s' : Wd} {N' : Nat} {H0 : Hp} {vs : List V} {es : List EV} (h : VRs K s N H0 vs es) (x : Ext s N s' N') : VRs K s' N' H0 vs es := by
  induction h with
  | nil => exact .nil
  | cons r f _ ih => exact .cons (r.ext x) f ih
theorem VRs.len {H0 : Hp} {vs : List V} {es : List EV} (h : VRs K s N H0 vs es) : vs.length = es.length := by
  induction h with
  | nil => rfl
  | cons _ _ _ ih => rw [List.length_cons, List.length_cons, ih]
theorem VRs.back {s0 : Wd} {N0 : Nat} {s' : Wd} {N' : Nat} {vs : List V} {es : List EV} (h : VRs K s' N' s1.H vs es) (x : Ext s0 N0 s1 N1) (r : ∀ n, n < N1 → s1.H (s1.L n) ≠ Option.none) : VRs K s' N' s0.H vs es := by
  induction h with
  | nil => exact .nil
  | cons a f _ ih => exact .cons a (f.back (K := K) x r) ih
end
/-- an expression by its data reading -/
structure DE (X : Cx) (W : WX) (e : Expr) (td : TDE) : Prop where
  ex : ∃ t : TE, PE X e t ∧ ∀ (s : Wd) (σ : L2.St) (η : DEnv) (μ : Mu) (Q : VK) (q : PQ) (E : XQ), Sit X.K s μ σ η → td η μ q E → LE X.K s μ.length q Q → LX X.K s μ.length σ E W → t σ s.H Q
structure DT (X : Cx) (W : WX) (e : Expr) (td : TDT) : Prop where
  ex : ∃ t : TT, PT X e t ∧ ∀ (s : Wd) (σ : L2.St) (η : DEnv) (μ : Mu) (Q : Bool → Hp → Prop) (q : Bool → Mu → Prop) (E : XQ), Sit X.K s μ σ η → td η μ q E → LB X.K s μ.length q Q → LX X.K s μ.length σ E W → t σ s.H Q
structure DW (X : Cx) (W : WX) (e : Expr) (td : TDT) : Prop where
  ex : ∃ t : TT, PW X e t ∧ ∀ (s : Wd) (σ : L2.St) (η : DEnv) (μ : Mu) (Q : Bool → Hp → Prop) (q : Bool → Mu → Prop) (E : XQ), Sit X.K s μ σ η → td η μ q E → LB X.K s μ.length q Q → LX X.K s μ.length σ E W → t σ s.H Q
structure DA (X : Cx) (W : WX) (es : List Expr) (td : TDA) : Prop where
  ex : ∃ t : TA, PA X es t ∧ ∀ (s : Wd) (σ : L2.St) (η : DEnv) (μ : Mu) (Q : List V → Hp → Prop) (q : List EV → Mu → Prop) (E : XQ), Sit X.K s μ σ η → td η μ q E → LA X.K s μ.length q Q → LX X.K s μ.length σ E W → t σ s.H Q
/-- what is wanted behind a statement, lifted -/
structure LS (K : PySem.W.Frag) (s : Wd) (N : Nat) (d : DEnds) (E : XQ) (D : Ends) (W : WX) : Prop where
  nx : ∀ (η' : DEnv) (μ' : Mu) (σ' : L2.St) (s' : Wd), d.nx η' μ' → Ext s N s' μ'.length → Sit K s' μ' σ' η' → D.nx σ' s'.H
  rt : LE K s N d.rt D.rt
  bk : ∀ (η' : DEnv) (μ' : Mu) (σ' : L2.St) (s' : Wd), d.bk η' μ' → Ext s N s' μ'.length → Sit K s' μ' σ' η' → D.bk σ' s'.H
  ct : ∀ (η' : DEnv) (μ' : Mu) (σ' : L2.St) (s' : Wd), d.ct η' μ' → Ext s N s' μ'.length → Sit K s' μ' σ' η' → D.ct σ' s'.H
  xq : ∀ (x : Exn) (μ' : Mu) (cls : Value) (dd : Option Addr) (σ' : L2.St) (s' : Wd), E x μ' → Ext s N s' μ'.length → Rep K s' μ' → XR K s' cls dd x → W cls dd σ' s'.H
structure DS (X : Cx) (W : WX) (st : Stmt) (td : TDS) : Prop where
  ex : ∃ t : TS, PS X st t ∧ ∀ (s : Wd) (σ : L2.St) (η : DEnv) (μ : Mu) (D : Ends) (d : DEnds) (E : XQ), Sit X.K s μ σ η → td d E η μ → LS X.K s μ.length d E D W → t D σ s.H
structure DSs (X : Cx) (W : WX) (st : List Stmt) (td : TDS) : Prop where
  ex : ∃ t : TS, PSs X st t ∧ ∀ (s : Wd) (σ : L2.St) (η : DEnv) (μ : Mu) (D : Ends) (d : DEnds) (E : XQ), Sit X.K s μ σ η → td d E η μ → LS X.K s μ.length d E D W → t D σ s.H
theorem LS.go {K : PySem.W.Frag} {s s1 : Wd} {N : Nat} {μ1 : Mu} {d : DEnds} {E : XQ} {D : Ends} {W : WX} (h : LS K s N d E D W) (x : Ext s N s1 μ1.length) (R : Rep K s1 μ1) : LS K s1 μ1.length d E D W :=
  ⟨fun η' μ' σ' s' q x' S => h.nx η' μ' σ' s' q (x.trans x' fun n hn => R.here hn) S, h.rt.go x R, fun η' μ' σ' s' q x' S => h.bk η' μ' σ' s' q (x.trans x' fun n hn => R.here hn) S,
   fun η' μ' σ' s' q x' S => h.ct η' μ' σ' s' q (x.trans x' fun n hn => R.here hn) S, fun y μ' cls dd σ' s' q x' R' r => h.xq y μ' cls dd σ' s' q (x.trans x' fun n hn => R.here hn) R' r⟩
theorem LS.lx {K : PySem.W.Frag} {s : Wd} {N : Nat} {d : DEnds} {E : XQ} {D : Ends} {W : WX} (h : LS K s N d E D W) (σ : L2.St) : LX K s N σ E W := fun x μ' cls dd s' q x' R r => h.xq x μ' cls dd σ s' q x' R r
theorem Sit.go {K : PySem.W.Frag} {s s1 : Wd} {μ μ1 : Mu} {σ : L2.St} {η : DEnv} (h : Sit K s μ σ η) (x : Ext s μ.length s1 μ1.length) (R : Rep K s1 μ1) : Sit K s1 μ1 σ η := ⟨R, h.er.ext x⟩
section
variable {X : Cx} {W : WX} {e a b : Expr} {ta tb te : TDE} {pos : Pos}
/-! ### names, constants -/
def dVar (i : Nat) : TDE := fun η μ q _ => match η[i]? with
  | some (some (.new _)) => False
  | some (some (.newd _)) => False
  | some (some (.newk _)) => False
  | some (some (.newo _)) => False
  | some (some e) => q e μ
  | _ => False
def dC (d : PyData) : TDE := fun _ μ q _ => q (.dat d) μ
def dRaw (v : V) : TDE := fun _ μ q _ => q (.raw v) μ
theorem de_pe {t : TE} (h : PE X e t) (g : ∀ (s : Wd) (σ : L2.St) (η : DEnv) (μ : Mu) (Q : VK) (q : PQ) (E : XQ), Sit X.K s μ σ η → te η μ q E → LE X.K s μ.length q Q → LX X.K s μ.length σ E W → t σ s.H Q) : DE X W e te := ⟨t, h, g⟩
theorem de_var {i : Nat} (h : PE X e (tVar i)) : DE X W e (dVar i) := de_pe h fun s σ η μ Q q E S hq l _ => by
  unfold dVar at hq
  cases hi : η[i]? with
  | none => rw [hi] at hq; exact hq.elim
  | some o =>
    cases o with
    | none => rw [hi] at hq; exact hq.elim
    | some ev =>
      rw [hi] at hq
      obtain ⟨v, h1, h2⟩ := S.er.get i _ hi
      cases ev with
      | new xs => exact hq.elim
      | newd xs => exact hq.elim
      | newk xs => exact hq.elim
      | dat _ => exact ⟨v, h1, l _ μ v s hq (Ext.refl _ _) S.rep h2 trivial⟩
      | loc _ => exact ⟨v, h1, l _ μ v s hq (Ext.refl _ _) S.rep h2 trivial⟩
      | raw _ => exact ⟨v, h1, l _ μ v s hq (Ext.refl _ _) S.rep h2 trivial⟩
      | exc _ => exact ⟨v, h1, l _ μ v s hq (Ext.refl _ _) S.rep h2 trivial⟩
      | ro _ => exact ⟨v, h1, l _ μ v s hq (Ext.refl _ _) S.rep h2 trivial⟩
      | newo t => exact hq.elim
      | «at» _ _ _ => exact ⟨v, h1, l _ μ v s hq (Ext.refl _ _) S.rep h2 trivial⟩
      | per _ => exact ⟨v, h1, l _ μ v s hq (Ext.refl _ _) S.rep h2 trivial⟩
theorem de_c {v : V} {d : PyData} (h : PE X e (tC v)) (r : ∀ (K : PySem.W.Frag) (F : Hp), DR K F v d) : DE X W e (dC d) := de_pe h fun s σ η μ Q q E S hq l _ => l _ _ _ _ hq (Ext.refl _ _) S.rep (r _ _) trivial
theorem de_int {i j} : DE X W (.Constant (.int i) j pos) (dC (.int i)) := de_c pe_int fun _ _ => .int i
theorem de_bl {b j} : DE X W (.Constant (.bool b) j pos) (dC (.bool b)) := de_c pe_bl fun _ _ => .bl b
theorem de_non {j} : DE X W (.Constant .none j pos) (dC .none) := de_c pe_non fun _ _ => .non
theorem de_str {x j} (h : PyData.strOk x = true := by decide +kernel) : DE X W (.Constant (.str x) j pos) (dC (.str x)) := de_c pe_str fun _ _ => .str x h
theorem de_raw {v : V} (h : PE X e (tC v)) : DE X W e (dRaw v) := de_pe h fun s σ η μ Q q E S hq l _ => l _ _ _ _ hq (Ext.refl _ _) S.rep rfl trivial
/-! ### made still, made a cell -/
def toDat (μ : Mu) : EV → Option (PyData × Mu)
  | .dat d => some (d, μ)
  | .new xs => some (.list xs, μ)
  | .loc n => match μ[n]? with
    | some (.lst xs) => some (.list xs, μ.set n (.frz xs))
    | some (.frz xs) => some (.list xs, μ)
    | _ => none
  | .at n (i :: p) b => match nodeAt μ n (i :: p) with
    | some (.nod .lst b' ts) => match flatT ts with
      | some xs => if b' = b then some (.list xs, putAt μ n (i :: p) (.dat (.list xs))) else none
      | none => none
    | _ => none
  | _ => none
def withDat (μ : Mu) (e : EV) (k : PyData → Mu → Prop) : Prop := match toDat μ e with
  | some (d, μ') => k d μ'
  | none => False
/-- what is still -/
theorem still {K : PySem.W.Frag} {s0 s : Wd} {N0 : Nat} {μ : Mu} {e : EV} {v : V} {k : PyData → Mu → Prop} (R : Rep K s μ) (x : Ext s0 N0 s μ.length) (r : VR K s μ.length v e) (f : Frsh s0.H v e) (h : withDat μ e k) :
    ∃ d μ' F' O', k d μ' ∧ μ'.length = μ.length ∧ Rep K { s with F := F', O := O' } μ' ∧ Ext s0 N0 { s with F := F', O := O' } μ'.length ∧ DR K F' v d := by
  unfold withDat toDat at h
  cases e with
  | dat d => exact ⟨d, μ, s.F, s.O, h, rfl, R, x, r⟩
  | new xs =>
    obtain ⟨p, vs, rfl, h1, h2, h3, h4⟩ := r
    obtain ⟨a1, a2, a3⟩ := still_new R x h1 h2 h3 h4 (f p rfl)
    exact ⟨_, μ, _, s.O, h, rfl, a1, a2, a3⟩
  | loc n =>
    obtain ⟨hn, rfl⟩ := r
    simp only at h
    cases hc : μ[n]? with
    | none => rw [hc] at h; exact h.elim
    | some c =>
      rw [hc] at h
      cases c with
      | lst xs =>
        obtain ⟨F', a1, a2, a3⟩ := still_cell R x hc
        exact ⟨_, _, F', s.O, h, by simp, a1, a2, a3⟩
      | frz xs =>
        obtain ⟨vs, h1, h2⟩ := R.cell n _ hc
        exact ⟨_, μ, s.F, s.O, h, rfl, R, x, .lst h1 h2⟩
      | dct kvs => exact h.elim
      | dck kvs => exact h.elim
      | abs P => exact h.elim
      | tab P nm => exact h.elim
      | own t => exact h.elim
      | dead => exact h.elim
  | «at» n p b =>
    cases p with
    | nil => exact h.elim
    | cons i p =>
      simp only at h
      split at h
      · rename_i d μ' hm
        split at hm
        · rename_i b' ts hn
          split at hm
          · rename_i xs hx
            split at hm
            · rename_i e1
              subst e1
              cases hm
              have rv : v = .ref b' := r
              subst rv
              obtain ⟨vs, hH, hF, hT⟩ := node_is R hn
              have hF0 : s.F b' = none := hF.resolve_left (fun z => z)
              have hd := flatT_ok hT hx
              have e : Same s.F (upd s.F b' (.lst vs)) := fun y o q => by rw [upd_ne (ne_of_none q hF0)]; exact q
              have hr : DR K (upd s.F b' (.lst vs)) (.ref b') (.list xs) := .lst upd_same (hd.mono e)
              obtain ⟨t, ht, hp⟩ := nodeAt_ex hn
              have T := R.tree n t ht
              have hS : Same (upd s.F b' (.lst vs)) s.H := fun a o q => by
                by_cases ha : a = b'
                · subst ha
                  rw [upd_same] at q
                  cases q
                  exact hH
                · rw [upd_ne ha] at q
                  exact R.sub a o q
              have hI : ∀ a, s.F a = none → upd s.F b' (.lst vs) a ≠ none → ∃ t, μ[n]? = some (.own t) ∧ a ∈ addrs t ∧ a ∈ addrs (.nod .lst b' ts) := fun a h1 h2 => by
                have ha : a = b' := by
                  by_cases ha : a = b'
                  · exact ha
                  · rw [upd_ne ha] at h2; exact absurd h1 h2
                subst ha
                have hm : a ∈ addrs (.nod .lst a ts) := by rw [addrs_nod]; exact List.mem_cons_self
                exact ⟨t, ht, addrs_get hp a hm, hm⟩
              have OP := own_put (s0 := s0) (H' := s.H) (F' := upd s.F b' (.lst vs)) (u' := .dat (.list xs)) R x hn (fun w rw_ => by
                  have := rw_.node.1
                  subst this
                  exact .dat hr) (by rw [addrs_dat]; exact .nil) (fun a ha => by rw [addrs_dat] at ha; cases ha) hS e hI (fun a _ _ => rfl) (fun a h => h) (fun a ha => by rw [addrs_dat] at ha; cases ha) (fun z => by cases z)
              exact ⟨_, _, _, _, h, putAt_len, OP.1, OP.2, hr⟩
            · cases hm
          · cases hm
        · cases hm
      · exact h.elim
  | newo t => exact h.elim
  | per c => exact h.elim
  | raw v => exact h.elim
  | exc y => exact h.elim
  | ro y => exact h.elim
  | newd y => exact h.elim
  | newk y => exact h.elim
def dFrz (t : TDE) : TDE := fun η μ q E => t η μ (fun e μ1 => withDat μ1 e fun d μ2 => q (.dat d) μ2) E
def SemE (K : PySem.W.Frag) (W : WX) (t : TE) (td : TDE) : Prop := ∀ (s : Wd) (σ : L2.St) (η : DEnv) (μ : Mu) (Q : VK) (q : PQ) (E : XQ), Sit K s μ σ η → td η μ q E → LE K s μ.length q Q → LX K s μ.length σ E W → t σ s.H Q
theorem sem_frz {K : PySem.W.Frag} {t : TE} {td : TDE} (g : SemE K W t td) : SemE K W t (dFrz td) := fun s σ η μ Q q E S hq l lx => g s σ η μ Q _ E S hq (fun e μ' v s' hk x R r f => by
  obtain ⟨d, μ2, F', O', k, _, R2, x2, r2⟩ := still R x r f hk
  exact l (.dat d) μ2 v { s' with F := F', O := O' } k x2 R2 r2 trivial) lx
theorem de_frz (h : DE X W e te) : DE X W e (dFrz te) := by
  obtain ⟨t, hp, g⟩ := h.ex
  exact de_pe hp (sem_frz g)
def cellK (q : PQ) : PQ := fun e μ1 => match e with
  | .new xs => q (.loc μ1.length) (μ1 ++ [.lst xs])
  | .newd xs => q (.loc μ1.length) (μ1 ++ [.dct xs])
  | .newk xs => q (.loc μ1.length) (μ1 ++ [.dck xs])
  | .newo (.nod k b ts) => q (.at μ1.length [] b) (μ1 ++ [.own (.nod k b ts)])
  | .newo _ => False
  | e => q e μ1
def dCell (t : TDE) : TDE := fun η μ q E => t η μ (cellK q) E
theorem sem_cell {K : PySem.W.Frag} {t : TE} {td : TDE} (g : SemE K W t td) : SemE K W t (dCell td) := fun s σ η μ Q q E S hq l lx => g s σ η μ Q _ E S hq (fun e μ' v s' hk x R r f => by
  cases e with
  | new xs =>
    obtain ⟨p, vs, rfl, h1, h2, h3, h4⟩ := r
    obtain ⟨a1, a2⟩ := cell_new R x h1 h2 h3 h4 (f p rfl)
    refine l (.loc μ'.length) _ _ (newL s' μ'.length p (· = p)) hk a2 a1 ⟨by simp, by rw [newL_L]⟩ trivial
  | newd xs =>
    obtain ⟨p, ks, rfl, h1, h2, h3, h4, h5⟩ := r
    obtain ⟨a1, a2⟩ := cell_newC (c := .dct xs) R x ⟨h2, ks, h1, h4, h5⟩ h3 (f p rfl)
    refine l (.loc μ'.length) _ _ (newL s' μ'.length p (· = p)) hk a2 a1 ⟨by simp, by rw [newL_L]⟩ trivial
  | newk xs =>
    obtain ⟨p, ks, rfl, h1, h2, h3, h4, h5⟩ := r
    obtain ⟨a1, a2⟩ := cell_newC (c := .dck xs) R x ⟨h2, ks, h1, h4, h5⟩ h3 (f p rfl)
    refine l (.loc μ'.length) _ _ (newL s' μ'.length p (· = p)) hk a2 a1 ⟨by simp, by rw [newL_L]⟩ trivial
  | dat d => exact l _ _ _ _ hk x R r f
  | loc d => exact l _ _ _ _ hk x R r f
  | raw d => exact l _ _ _ _ hk x R r f
  | exc d => exact l _ _ _ _ hk x R r f
  | ro d => exact l _ _ _ _ hk x R r f
  | «at» _ _ _ => exact l _ _ _ _ hk x R r f
  | per _ => exact l _ _ _ _ hk x R r f
  | newo t =>
    cases t with
    | dat d => exact hk.elim
    | per d => exact hk.elim
    | nod k b ts =>
      obtain ⟨⟨p, rfl, hp⟩, r2, r3, r4⟩ := r
      have e : p = b := by cases r2; rfl
      subst e
      obtain ⟨a1, a2⟩ := cell_newO R x hp r2 r3 r4 f
      exact l (.at μ'.length [] p) _ _ (newL s' μ'.length p (· ∈ addrs (.nod k p ts))) hk a2 a1 rfl trivial) lx
theorem de_cell (h : DE X W e te) : DE X W e (dCell te) := by
  obtain ⟨t, hp, g⟩ := h.ex
  exact de_pe hp (sem_cell g)
/-! ### rows of expressions -/
def aNil : TDA := fun _ μ q _ => q [] μ
def aCons (t : TDE) (u : TDA) : TDA := fun η μ q E => t η μ (fun e μ1 => u η μ1 (fun es μ2 => q (e :: es) μ2) E) E
theorem da_nil : DA X W [] aNil := ⟨_, pa_nil, fun s σ η μ Q q E S hq l _ => l [] μ [] s hq (Ext.refl _ _) S.rep .nil⟩
theorem da_cons {es : List Expr} {u : TDA} (h : DE X W e te) (hr : DA X W es u) (hs : starEach (e :: es) X.env = (false, eval e X.env) :: starEach es X.env := by rfl) : DA X W (e :: es) (aCons te u) := by
  obtain ⟨t1, p1, g1⟩ := h.ex
  obtain ⟨t2, p2, g2⟩ := hr.ex
  refine ⟨_, pa_cons p1 p2 hs, fun s σ η μ Q q E S hq l lx => ?_⟩
  refine g1 s σ η μ _ _ E S hq (fun ev μ1 v s1 hq1 x1 R1 r1 f1 => ?_) lx
  refine g2 s1 σ η μ1 _ _ E (S.go x1 R1) hq1 (fun es' μ2 vs s2 hq2 x2 R2 r2 => ?_) (lx.go x1 R1)
  have h1 := fun n (hn : n < μ1.length) => R1.here hn
  exact l _ _ _ _ hq2 (x1.trans x2 h1) R2 (.cons (r1.ext x2) f1 (r2.back x1 h1))
/-- the data of a row -/
def datsOf : List EV → Option (List PyData)
  | [] => some []
  | .dat d :: es => (datsOf es).map (d :: ·)
  | _ :: _ => none
theorem datsOf_rs {K : PySem.W.Frag} {s : Wd} {N : Nat} {H0 : Hp} : ∀ {vs : List V} {es : List EV} {ds : List PyData}, VRs K s N H0 vs es → datsOf es = some ds → DRs K s.F vs ds
  | _, _, _, .nil, h => by cases h; exact .nil
  | _, _, _, .cons (e := e) r _ rs, h => by
    cases e with
    | dat d =>
      unfold datsOf at h
      rename_i vs es _
      cases q : datsOf es with
      | none => rw [q] at h; cases h
      | some ds' =>
        rw [q] at h
        cases h
        exact .cons r (datsOf_rs rs q)
    | _ => cases h
def withDats (es : List EV) (k : List PyData → Prop) : Prop := match datsOf es with
  | some ds => k ds
  | none => False
theorem withDats_ex {es : List EV} {k : List PyData → Prop} (h : withDats es k) : ∃ ds, datsOf es = some ds ∧ k ds := by
  unfold withDats at h
  split at h
  · exact ⟨_, by assumption, h⟩
  · exact h.elim
/-- a new object stands beside -/
theorem Rep.put {K : PySem.W.Frag} {s : Wd} {μ : Mu} {p : Addr} {o : HO} (R : Rep K s μ) (hp : s.H p = none) : Rep K { s with H := upd s.H p o } μ := by
  have k : Same s.H (upd s.H p o) := fun a u q => by rw [upd_ne (ne_of_none q hp)]; exact q
  refine R.of rfl (fun a u q => k a u (R.sub a u q)) (fun n c q => ?_) (fun a h => upd_live h) (R.beside (fun _ _ z => z) fun n a hn ha => keeps_put fun z => R.live n a hn ha (z ▸ hp))
  have := R.cell n c q
  cases c with
  | lst xs => obtain ⟨h1, vs, h2, h3⟩ := this; exact ⟨h1, vs, k _ _ h2, h3⟩
  | frz xs => exact this
  | dct kvs =>
    obtain ⟨h1, ks, h2, h3, h4⟩ := this
    exact ⟨h1, ks, k _ _ h2, h3, h4⟩
  | dck kvs =>
    obtain ⟨h1, ks, h2, h3, h4⟩ := this
    exact ⟨h1, ks, k _ _ h2, h3, h4⟩
  | abs P => obtain ⟨xs, hP, h1, vs, h2, h3⟩ := this; exact ⟨xs, hP, h1, vs, k _ _ h2, h3⟩
  | tab P nm => exact ⟨this.1, this.2.to (fun _ _ z => z) this.2.nf fun _ z => k _ _ z⟩
  | own t => exact upd_live this
  | dead => exact upd_live this
theorem Rep.notF {K : PySem.W.Frag} {s : Wd} {μ : Mu} {p : Addr} (R : Rep K s μ) (hp : s.H p = none) : s.F p = none := by
  cases e : s.F p with
  | none => rfl
  | some o => rw [R.sub p o e] at hp; cases hp
theorem Rep.notL {K : PySem.W.Frag} {s : Wd} {μ : Mu} {p : Addr} (R : Rep K s μ) (hp : s.H p = none) : NL s μ.length p := fun m hm e => R.live m p hm e hp
theorem Ext.put {K : PySem.W.Frag} {s0 s : Wd} {N0 : Nat} {μ : Mu} {p : Addr} {o : HO} (x : Ext s0 N0 s μ.length) (R : Rep K s μ) (hp : s.H p = none) : Ext s0 N0 { s with H := upd s.H p o } μ.length :=
  ⟨x.f, x.l, x.le, fun a u q hn => by
    have q' := x.keep a u q hn
    show upd s.H p o a = some u
    rw [upd_ne (ne_of_none q' hp)]
    exact q', x.fnew, x.lnew, x.onew, fun a h => upd_live (x.alive a h)⟩
/-- fresh now, fresh ahead -/
theorem Ext.fresh {K : PySem.W.Frag} {s0 s : Wd} {N0 : Nat} {μ : Mu} {p : Addr} (x : Ext s0 N0 s μ.length) (R : Rep K s μ) (hp : s.H p = none) : s0.H p = none := by
  have : Frsh s0.H (.ref p) (.new []) := Frsh.back (K := K) x (s1 := s) (v := .ref p) (e := .new []) (fun q hq => by cases hq; exact hp) fun n hn => R.here hn
  exact this p rfl
/-- [a, b, ..]: a list that nobody else has; the items still -/
def dLst (t : TDA) : TDE := fun η μ q E => t η μ (fun es μ1 => withDats es fun ds => ds.length ≤ 100000 ∧ q (.new ds) μ1) E
def dTup (t : TDA) : TDE := fun η μ q E => t η μ (fun es μ1 => withDats es fun ds => ds.length ≤ 100000 ∧ q (.dat (.tuple ds)) μ1) E
theorem line_of {n : Nat} (h : n ≤ 100000) : n ≤ sizeLine := Nat.le_trans h (by decide)
theorem de_lst {es : List Expr} {t : TDA} (h : DA X W es t) : DE X W (.List es pos) (dLst t) := by
  obtain ⟨t1, p1, g1⟩ := h.ex
  refine de_pe (pe_lst p1) fun s σ η μ Q q E S hq l lx => ?_
  refine g1 s σ η μ _ _ E S hq (fun es' μ1 vs s1 hq1 x1 R1 r1 => ?_) lx
  obtain ⟨ds, e1, hz, hq1⟩ := withDats_ex hq1
  have d := datsOf_rs r1 e1
  refine ⟨line_of (by rw [d.length]; exact hz), fun p hp => ?_⟩
  exact l (.new ds) μ1 (.ref p) { s1 with H := upd s1.H p (.lst vs) } hq1 (x1.put R1 hp) (R1.put hp) ⟨p, vs, rfl, upd_same, R1.notF hp, R1.notL hp, d⟩ (fun y hy => by cases hy; exact x1.fresh R1 hp)
/-- a new still object -/
theorem Rep.putF {K : PySem.W.Frag} {s : Wd} {μ : Mu} {p : Addr} {o : HO} (R : Rep K s μ) (hp : s.H p = none) : Rep K { s with H := upd s.H p o, F := upd s.F p o } μ := by
  have k : Same s.H (upd s.H p o) := fun a u q => by rw [upd_ne (ne_of_none q hp)]; exact q
  have kF : Same s.F (upd s.F p o) := fun a u q => by rw [upd_ne (ne_of_none q (R.notF hp))]; exact q
  refine R.of rfl (fun a u q => ?_) (fun n c q => ?_) (fun a h => upd_live h) (R.beside kF fun n a hn ha => keeps_putF fun z => R.live n a hn ha (z ▸ hp))
  · have q' : upd s.F p o a = some u := q
    show upd s.H p o a = some u
    by_cases ha : a = p
    · subst ha
      rw [upd_same] at q' ⊢
      exact q'
    · rw [upd_ne ha] at q' ⊢
      exact R.sub a u q'
  · have hn := (List.getElem?_eq_some_iff.mp q).1
    have ne := R.rootNe (R.notL hp) n hn
    have := R.cell n c q
    cases c with
    | lst xs => obtain ⟨h1, vs, h2, h3⟩ := this; exact ⟨(upd_ne ne).trans h1, vs, k _ _ h2, h3.mono kF⟩
    | frz xs => obtain ⟨vs, h2, h3⟩ := this; exact ⟨vs, kF _ _ h2, h3.mono kF⟩
    | dct kvs =>
      obtain ⟨h1, ks, h2, h3, h4⟩ := this
      exact ⟨(upd_ne ne).trans h1, ks, k _ _ h2, h3, h4.mono kF⟩
    | dck kvs =>
      obtain ⟨h1, ks, h2, h3, h4⟩ := this
      exact ⟨(upd_ne ne).trans h1, ks, k _ _ h2, h3, h4.mono kF⟩
    | abs P => obtain ⟨xs, hP, h1, vs, h2, h3⟩ := this; exact ⟨xs, hP, (upd_ne ne).trans h1, vs, k _ _ h2, h3.mono kF⟩
    | tab P nm => exact ⟨this.1, this.2.to kF ((upd_ne ne).trans this.2.nf) fun _ z => k _ _ z⟩
    | own t => exact upd_live this
    | dead => exact upd_live this
theorem Ext.putF {K : PySem.W.Frag} {s0 s : Wd} {N0 : Nat} {μ : Mu} {p : Addr} {o : HO} (x : Ext s0 N0 s μ.length) (R : Rep K s μ) (hp : s.H p = none) : Ext s0 N0 { s with H := upd s.H p o, F := upd s.F p o } μ.length := by
  have kF : Same s.F (upd s.F p o) := fun a u q => by rw [upd_ne (ne_of_none q (R.notF hp))]; exact q
  have h0 := x.fresh R hp
  refine ⟨fun a u q => kF a u (x.f a u q), x.l, x.le, fun a u q hn => ?_, fun a h1 h2 h3 h4 => ?_, x.lnew, x.onew, fun a h => upd_live (x.alive a h)⟩
  · have q' := x.keep a u q hn
    show upd s.H p o a = some u
    rw [upd_ne (ne_of_none q' hp)]
    exact q'
  · show upd s.F p o a = none
    rw [upd_ne (fun z => h3 (by rw [z]; exact h0))]
    exact x.fnew a h1 h2 h3 h4
theorem de_tup {es : List Expr} {x1} {t : TDA} (h : DA X W es t) : DE X W (.Tuple es x1 pos) (dTup t) := by
  obtain ⟨t1, p1, g1⟩ := h.ex
  refine de_pe (pe_tup p1) fun s σ η μ Q q E S hq l lx => ?_
  refine g1 s σ η μ _ _ E S hq (fun es' μ1 vs s1 hq1 x1 R1 r1 => ?_) lx
  obtain ⟨ds, e1, hz, hq1⟩ := withDats_ex hq1
  have d := datsOf_rs r1 e1
  refine ⟨line_of (by rw [d.length]; exact hz), fun p hp => ?_⟩
  have kF : Same s1.F (upd s1.F p (.tup vs)) := fun a u q => by rw [upd_ne (ne_of_none q (R1.notF hp))]; exact q
  exact l (.dat (.tuple ds)) μ1 (.ref p) _ hq1 (x1.putF R1 hp) (R1.putF hp) (.tup upd_same (d.mono kF)) trivial
end
end DL
set_option Elab.async false
set_option linter.all false
set_option maxRecDepth 100000
set_option maxHeartbeats 4000000
namespace DL
open PySem L2
section
variable {X : Cx} {W : WX} {e a b c : Expr} {ta tb te : TDE} {pos : Pos} {rest : List Expr} {tA tB' : TDT}
/-! ### tests -/
def withB (e : EV) (k : Bool → Prop) : Prop := match e with
  | .dat (.bool b) => k b
  | _ => False
theorem withB_ex {e : EV} {k : Bool → Prop} (h : withB e k) : ∃ b, e = .dat (.bool b) ∧ k b := by
  unfold withB at h
  split at h
  · exact ⟨_, rfl, h⟩
  · exact h.elim
theorem vr_b {K : PySem.W.Frag} {s : Wd} {N : Nat} {v : V} {b : Bool} (r : VR K s N v (.dat (.bool b))) : v = .bl b := by
  have r' : DR K s.F v (.bool b) := r
  cases r'
  rfl
theorem vr_i {K : PySem.W.Frag} {s : Wd} {N : Nat} {v : V} {b : Int} (r : VR K s N v (.dat (.int b))) : v = .int b := by
  have r' : DR K s.F v (.int b) := r
  cases r'
  rfl
theorem vr_s {K : PySem.W.Frag} {s : Wd} {N : Nat} {v : V} {b : Str} (r : VR K s N v (.dat (.str b))) : v = .str b := by
  have r' : DR K s.F v (.str b) := r
  cases r'
  rfl
theorem vr_n {K : PySem.W.Frag} {s : Wd} {N : Nat} {v : V} (r : VR K s N v (.dat .none)) : v = .non := by
  have r' : DR K s.F v .none := r
  cases r'
  rfl
def tVal (t : TDE) : TDT := fun η μ q E => t η μ (fun e μ1 => withB e fun b => q b μ1) E
theorem dt_val (h : DE X W e te) (he : ∀ whole, isTrue e X.env whole = (do let v ← whole; standAt e.pos; holding [v] (truthy v)) := by intro _; rfl) : DT X W e (tVal te) := by
  obtain ⟨t, p, g⟩ := h.ex
  refine ⟨_, pt_val p he, fun s σ η μ Q q E S hq l lx => g s σ η μ _ _ E S hq (fun ev μ' v s' hk x R r f => ?_) lx⟩
  obtain ⟨b, rfl, hk⟩ := withB_ex hk
  exact ⟨b, vr_b r, l b μ' s' hk x R⟩
def tAndD (t u : TDT) : TDT := fun η μ q E => t η μ (fun b μ1 => if b = true then u η μ1 q E else q false μ1) E
def tOrD (t u : TDT) : TDT := fun η μ q E => t η μ (fun b μ1 => if b = true then q true μ1 else u η μ1 q E) E
def tNotD (t : TDT) : TDT := fun η μ q E => t η μ (fun b μ1 => q (!b) μ1) E
theorem dw_and1 (ha : DT X W a tA) : DW X W (.BoolOp .And [a] pos) tA := by
  obtain ⟨t, p, g⟩ := ha.ex
  exact ⟨t, pw_and1 p, g⟩
theorem dw_or1 (ha : DT X W a tA) : DW X W (.BoolOp .Or [a] pos) tA := by
  obtain ⟨t, p, g⟩ := ha.ex
  exact ⟨t, pw_or1 p, g⟩
theorem dw_and (ha : DT X W a tA) (hb : DW X W (.BoolOp .And (b :: rest) pos) tB') : DW X W (.BoolOp .And (a :: b :: rest) pos) (tAndD tA tB') := by
  obtain ⟨t, p, g⟩ := ha.ex
  obtain ⟨u, p2, g2⟩ := hb.ex
  refine ⟨_, pw_and p p2, fun s σ η μ Q q E S hq l lx => g s σ η μ _ _ E S hq (fun k μ' s' hk x R => ?_) lx⟩
  cases k with
  | true => exact g2 s' σ η μ' Q q E (S.go x R) hk (l.go x R) (lx.go x R)
  | false => exact l false μ' s' hk x R
theorem dw_or (ha : DT X W a tA) (hb : DW X W (.BoolOp .Or (b :: rest) pos) tB') : DW X W (.BoolOp .Or (a :: b :: rest) pos) (tOrD tA tB') := by
  obtain ⟨t, p, g⟩ := ha.ex
  obtain ⟨u, p2, g2⟩ := hb.ex
  refine ⟨_, pw_or p p2, fun s σ η μ Q q E S hq l lx => g s σ η μ _ _ E S hq (fun k μ' s' hk x R => ?_) lx⟩
  cases k with
  | true => exact l true μ' s' hk x R
  | false => exact g2 s' σ η μ' Q q E (S.go x R) hk (l.go x R) (lx.go x R)
theorem DW.dt (h : DW X W e tA) : DT X W e tA := by
  obtain ⟨t, p, g⟩ := h.ex
  exact ⟨t, p.pt, g⟩
theorem dt_not (ha : DT X W a tA) : DT X W (.UnaryOp .Not a pos) (tNotD tA) := by
  obtain ⟨t, p, g⟩ := ha.ex
  exact ⟨_, pt_not p, fun s σ η μ Q q E S hq l lx => g s σ η μ _ _ E S hq (fun k μ' s' hk x R => l (!k) μ' s' hk x R) lx⟩
/-! .. as values -/
def dAndV (t u : TDE) : TDE := fun η μ q E => t η μ (fun e μ1 => withB e fun b => if b = true then u η μ1 q E else q (.dat (.bool false)) μ1) E
def dNotV (t : TDE) : TDE := fun η μ q E => t η μ (fun e μ1 => withB e fun b => q (.dat (.bool (!b))) μ1) E
theorem de_one {op} (h : DE X W a te) : DE X W (.BoolOp op [a] pos) te := by
  obtain ⟨t, p, g⟩ := h.ex
  exact ⟨t, pe_one p, g⟩
theorem de_and (ha : DE X W a ta) (hb : DE X W (.BoolOp .And (b :: rest) pos) tb) : DE X W (.BoolOp .And (a :: b :: rest) pos) (dAndV ta tb) := by
  obtain ⟨t, p, g⟩ := ha.ex
  obtain ⟨u, p2, g2⟩ := hb.ex
  refine de_pe (pe_and p p2) fun s σ η μ Q q E S hq l lx => g s σ η μ _ _ E S hq (fun ev μ' v s' hk x R r f => ?_) lx
  obtain ⟨k, rfl, hk⟩ := withB_ex hk
  refine ⟨k, vr_b r, ?_⟩
  cases k with
  | true => exact g2 s' σ η μ' Q q E (S.go x R) hk (l.go x R) (lx.go x R)
  | false => exact l _ μ' _ s' hk x R (.bl false) trivial
theorem de_not (ha : DE X W a ta) : DE X W (.UnaryOp .Not a pos) (dNotV ta) := by
  obtain ⟨t, p, g⟩ := ha.ex
  refine de_pe (pe_not p) fun s σ η μ Q q E S hq l lx => g s σ η μ _ _ E S hq (fun ev μ' v s' hk x R r f => ?_) lx
  obtain ⟨k, rfl, hk⟩ := withB_ex hk
  exact ⟨k, vr_b r, l _ μ' _ s' hk x R (.bl _) trivial⟩
/-! ### operators, by values -/
abbrev OD := EV → EV → Mu → PQ → Prop
def OpS (K : PySem.W.Frag) (r : R2) (o : OD) : Prop := ∀ (s0 : Wd) (N0 : Nat) (s : Wd) (μ : Mu) (x y : V) (ex ey : EV) (q : PQ) (Q : VK), Rep K s μ → Ext s0 N0 s μ.length → VR K s μ.length x ex → Frsh s0.H x ex → VR K s μ.length y ey → Frsh s0.H y ey →
  o ex ey μ q → LE K s0 N0 q Q → r x y s.H Q
def dOp (o : OD) (ta tb : TDE) : TDE := fun η μ q E => ta η μ (fun x μ1 => tb η μ1 (fun y μ2 => o x y μ2 q) E) E
theorem de_op {op : Operator} {r : R2} {o : OD} (ho : OpR X (binaryOp op) r) (hs : OpS X.K r o) (ha : DE X W a ta) (hb : DE X W b tb) : DE X W (.BinOp a op b pos) (dOp o ta tb) := by
  obtain ⟨t1, p1, g1⟩ := ha.ex
  obtain ⟨t2, p2, g2⟩ := hb.ex
  refine de_pe (pe_op ho p1 p2) fun s σ η μ Q q E S hq l lx => g1 s σ η μ _ _ E S hq (fun ex μ1 x s1 hk1 x1 R1 r1 f1 => ?_) lx
  refine g2 s1 σ η μ1 _ _ E (S.go x1 R1) hk1 (fun ey μ2 y s2 hk2 x2 R2 r2 f2 => ?_) (lx.go x1 R1)
  have h1 := fun n (hn : n < μ1.length) => R1.here hn
  exact hs s _ s2 μ2 x y ex ey q Q R2 (x1.trans x2 h1) (r1.ext x2) f1 r2 (f2.back (K := X.K) x1 h1) hk2 l
theorem de_cmp {op : CmpOp} {r : R2} {o : OD} (ho : OpR X (compareOp op) r) (hs : OpS X.K r o) (ha : DE X W a ta) (hb : DE X W b tb) (hm : behindInMarks op b = false) : DE X W (.Compare a [op] [b] pos) (dOp o ta tb) := by
  obtain ⟨t1, p1, g1⟩ := ha.ex
  obtain ⟨t2, p2, g2⟩ := hb.ex
  refine de_pe (pe_cmpR ho p1 p2 hm) fun s σ η μ Q q E S hq l lx => g1 s σ η μ _ _ E S hq (fun ex μ1 x s1 hk1 x1 R1 r1 f1 => ?_) lx
  refine g2 s1 σ η μ1 _ _ E (S.go x1 R1) hk1 (fun ey μ2 y s2 hk2 x2 R2 r2 f2 => ?_) (lx.go x1 R1)
  have h1 := fun n (hn : n < μ1.length) => R1.here hn
  exact hs s _ s2 μ2 x y ex ey q Q R2 (x1.trans x2 h1) (r1.ext x2) f1 r2 (f2.back (K := X.K) x1 h1) hk2 l
theorem dt_cmp {op : CmpOp} {r : R2} {o : OD} (ho : OpR X (compareOp op) r) (hs : OpS X.K r o) (ha : DE X W a ta) (hb : DE X W b tb) (hm : behindInMarks op b = false) : DT X W (.Compare a [op] [b] pos) (tVal (dOp o ta tb)) := by
  obtain ⟨t1, p1, g1⟩ := ha.ex
  obtain ⟨t2, p2, g2⟩ := hb.ex
  refine ⟨_, pt_cmpR ho p1 p2 hm, fun s σ η μ Q q E S hq l lx => g1 s σ η μ _ _ E S hq (fun ex μ1 x s1 hk1 x1 R1 r1 f1 => ?_) lx⟩
  refine g2 s1 σ η μ1 _ _ E (S.go x1 R1) hk1 (fun ey μ2 y s2 hk2 x2 R2 r2 f2 => ?_) (lx.go x1 R1)
  have h1 := fun n (hn : n < μ1.length) => R1.here hn
  refine hs s _ s2 μ2 x y ex ey _ _ R2 (x1.trans x2 h1) (r1.ext x2) f1 r2 (f2.back (K := X.K) x1 h1) hk2 fun ev μ' v s' hk x' R r f => ?_
  obtain ⟨k, rfl, hk⟩ := withB_ex hk
  exact ⟨k, vr_b r, l k μ' s' hk x' R⟩
def noNew : EV → Bool
  | .new _ => false
  | .newd _ => false
  | .newk _ => false
  | .newo _ => false
  | _ => true
theorem frsh_of {H : Hp} {v : V} {e : EV} (h : noNew e = true) : Frsh H v e := by
  cases e with
  | new _ => cases h
  | newd _ => cases h
  | newk _ => cases h
  | newo _ => cases h
  | _ => trivial
/-- a < b < c -/
def dChain (o o' : OD) (ta tb tc : TDE) : TDE := fun η μ q E => ta η μ (fun x μ1 => tb η μ1 (fun y μ2 => noNew x = true ∧ noNew y = true ∧ o x y μ2 fun z μ3 => withB z fun k => if k = true then tc η μ3 (fun w μ4 => o' y w μ4 q) E else q (.dat (.bool false)) μ3) E) E
theorem chain_ok {r r' : R2} {o o' : OD} {tc : TDE} {t1 t2 t3 : TE} (hs : OpS X.K r o) (hs' : OpS X.K r' o')
    (g1 : ∀ (s : Wd) (σ : L2.St) (η : DEnv) (μ : Mu) (Q : VK) (q : PQ) (E : XQ), Sit X.K s μ σ η → ta η μ q E → LE X.K s μ.length q Q → LX X.K s μ.length σ E W → t1 σ s.H Q)
    (g2 : ∀ (s : Wd) (σ : L2.St) (η : DEnv) (μ : Mu) (Q : VK) (q : PQ) (E : XQ), Sit X.K s μ σ η → tb η μ q E → LE X.K s μ.length q Q → LX X.K s μ.length σ E W → t2 σ s.H Q)
    (g3 : ∀ (s : Wd) (σ : L2.St) (η : DEnv) (μ : Mu) (Q : VK) (q : PQ) (E : XQ), Sit X.K s μ σ η → tc η μ q E → LE X.K s μ.length q Q → LX X.K s μ.length σ E W → t3 σ s.H Q)
    (s : Wd) (σ : L2.St) (η : DEnv) (μ : Mu) (Q : VK) (q : PQ) (E : XQ) (S : Sit X.K s μ σ η) (hq : dChain o o' ta tb tc η μ q E) (l : LE X.K s μ.length q Q) (lx : LX X.K s μ.length σ E W) : tChain r r' t1 t2 t3 σ s.H Q := by
  refine g1 s σ η μ _ _ E S hq (fun ex μ1 x s1 hk1 x1 R1 r1 f1 => ?_) lx
  refine g2 s1 σ η μ1 _ _ E (S.go x1 R1) hk1 (fun ey μ2 y s2 hk2 x2 R2 r2 f2 => ?_) (lx.go x1 R1)
  obtain ⟨nx, ny, hk2⟩ := hk2
  have h1 := fun n (hn : n < μ1.length) => R1.here hn
  have x12 := x1.trans x2 h1
  refine hs s2 _ s2 μ2 x y ex ey _ _ R2 (Ext.refl _ _) (r1.ext x2) (frsh_of nx) r2 (frsh_of ny) hk2 fun ez μ3 z s3 hk3 x3 R3 r3 f3 => ?_
  obtain ⟨k, rfl, hk3⟩ := withB_ex hk3
  refine ⟨k, vr_b r3, ?_⟩
  have h2 := fun n (hn : n < μ2.length) => R2.here hn
  have x13 := x12.trans x3 h2
  cases k with
  | false => exact l _ μ3 _ s3 hk3 x13 R3 (.bl false) trivial
  | true =>
    refine g3 s3 σ η μ3 _ _ E (S.go x13 R3) hk3 (fun ew μ4 w s4 hk4 x4 R4 r4 f4 => ?_) (lx.go x13 R3)
    exact hs' s3 _ s4 μ4 y w ey ew q Q R4 x4 ((r2.ext x3).ext x4) (frsh_of ny) r4 f4 hk4 (l.go x13 R3)
theorem de_chain {op op' : CmpOp} {r r' : R2} {o o' : OD} {tc : TDE} (ho : OpR X (compareOp op) r) (hs : OpS X.K r o) (ho' : OpR X (compareOp op') r') (hs' : OpS X.K r' o') (ha : DE X W a ta) (hb : DE X W b tb) (hc : DE X W c tc)
    (hm : lastMarks [op, op'] [b, c] = false := by with_unfolding_all rfl) : DE X W (.Compare a [op, op'] [b, c] pos) (dChain o o' ta tb tc) := by
  obtain ⟨t1, p1, g1⟩ := ha.ex
  obtain ⟨t2, p2, g2⟩ := hb.ex
  obtain ⟨t3, p3, g3⟩ := hc.ex
  exact de_pe (pe_chain ho ho' p1 p2 p3 hm) (chain_ok hs hs' g1 g2 g3)
theorem dt_chain {op op' : CmpOp} {r r' : R2} {o o' : OD} {tc : TDE} (ho : OpR X (compareOp op) r) (hs : OpS X.K r o) (ho' : OpR X (compareOp op') r') (hs' : OpS X.K r' o') (ha : DE X W a ta) (hb : DE X W b tb) (hc : DE X W c tc)
    (hm : lastMarks [op, op'] [b, c] = false := by with_unfolding_all rfl) : DT X W (.Compare a [op, op'] [b, c] pos) (tVal (dChain o o' ta tb tc)) := by
  obtain ⟨t1, p1, g1⟩ := ha.ex
  obtain ⟨t2, p2, g2⟩ := hb.ex
  obtain ⟨t3, p3, g3⟩ := hc.ex
  refine ⟨_, pt_chain ho ho' p1 p2 p3 hm, fun s σ η μ Q q E S hq l lx => ?_⟩
  refine chain_ok hs hs' g1 g2 g3 s σ η μ _ _ E S hq (fun ev μ' v s' hk x R r f => ?_) lx
  obtain ⟨k, rfl, hk⟩ := withB_ex hk
  exact ⟨k, vr_b r, l k μ' s' hk x R⟩
/-! ### one-place operators, built-in calls by values -/
abbrev UD := EV → Mu → PQ → Prop
def UnS (K : PySem.W.Frag) (r : V → Hp → VK → Prop) (o : UD) : Prop := ∀ (s0 : Wd) (N0 : Nat) (s : Wd) (μ : Mu) (x : V) (ex : EV) (q : PQ) (Q : VK), Rep K s μ → Ext s0 N0 s μ.length → VR K s μ.length x ex → Frsh s0.H x ex → o ex μ q → LE K s0 N0 q Q → r x s.H Q
def dUn (o : UD) (ta : TDE) : TDE := fun η μ q E => ta η μ (fun x μ1 => o x μ1 q) E
theorem de_un {op : UnaryOp} {r : V → Hp → VK → Prop} {o : UD} (ho : UnR X (unaryOp op) r) (hs : UnS X.K r o) (ha : DE X W a ta) : DE X W (.UnaryOp op a pos) (dUn o ta) := by
  obtain ⟨t1, p1, g1⟩ := ha.ex
  exact de_pe (pe_un ho p1) fun s σ η μ Q q E S hq l lx => g1 s σ η μ _ _ E S hq (fun ex μ1 x s1 hk1 x1 R1 r1 f1 => hs s _ s1 μ1 x ex q Q R1 x1 r1 f1 hk1 l) lx
abbrev CD := List EV → Mu → PQ → Prop
def CallS (K : PySem.W.Frag) (r : List V → Hp → VK → Prop) (o : CD) : Prop := ∀ (s0 : Wd) (N0 : Nat) (s : Wd) (μ : Mu) (xs : List V) (es : List EV) (q : PQ) (Q : VK), Rep K s μ → Ext s0 N0 s μ.length → VRs K s μ.length s0.H xs es → o es μ q → LE K s0 N0 q Q → r xs s.H Q
def dCB (o : CD) (t : TDA) : TDE := fun η μ q E => t η μ (fun es μ1 => o es μ1 q) E
theorem de_callB {id : String} {x : Str} {p : Pos} {es : List Expr} {t : TDA} {r : List V → Hp → VK → Prop} {o : CD} (hc : CallR X (.builtin id) r) (hs : CallS X.K r o) (hg : Gl X x) (hm : X.mg x = none) (hv : bootBuiltins x = some (.builtin id)) (ha : DA X W (e :: es) t) (hn : x ≠ "__name__" := by decide) (hdb : (x == ("__debug__" : Str)) = false := by decide)
    (he : starEach (e :: es) X.env = (false, eval e X.env) :: starEach es X.env := by rfl) (hpl : (backTo pos (starEach es X.env)).any (·.1) = false := by rfl) : DE X W (.Call (.Name x p) (e :: es) [] pos) (dCB o t) := by
  obtain ⟨t1, p1, g1⟩ := ha.ex
  exact de_pe (pe_callB hc hg hm hv p1 hn hdb he hpl) fun s σ η μ Q q E S hq l lx => g1 s σ η μ _ _ E S hq (fun ex μ1 x s1 hk1 x1 R1 r1 => hs s _ s1 μ1 x ex q Q R1 x1 r1 hk1 l) lx
theorem de_callTy {T : String} {x : Str} {p : Pos} {es : List Expr} {t : TDA} {r : List V → Hp → VK → Prop} {o : CD} (hc : CallR X (.type T) r) (hs : CallS X.K r o) (hg : Gl X x) (hm : X.mg x = none) (hv : bootBuiltins x = some (.type T)) (ha : DA X W (e :: es) t) (hn : x ≠ "__name__" := by decide) (hdb : (x == ("__debug__" : Str)) = false := by decide)
    (he : starEach (e :: es) X.env = (false, eval e X.env) :: starEach es X.env := by rfl) (hpl : (backTo pos (starEach es X.env)).any (·.1) = false := by rfl) : DE X W (.Call (.Name x p) (e :: es) [] pos) (dCB o t) := by
  obtain ⟨t1, p1, g1⟩ := ha.ex
  exact de_pe (pe_callTy hc hg hm hv p1 hn hdb he hpl) fun s σ η μ Q q E S hq l lx => g1 s σ η μ _ _ E S hq (fun ex μ1 x s1 hk1 x1 R1 r1 => hs s _ s1 μ1 x ex q Q R1 x1 r1 hk1 l) lx
/-! ### subscripts, slices, methods of built-in types -/
theorem de_ix {r : R2} {o : OD} (hr : IxR X r) (hs : OpS X.K r o) (ha : DE X W a ta) (hb : DE X W b tb) (hp : PlainIx b) : DE X W (.Subscript a b pos) (dOp o ta tb) := by
  obtain ⟨t1, p1, g1⟩ := ha.ex
  obtain ⟨t2, p2, g2⟩ := hb.ex
  refine de_pe (pe_ix hr p1 p2 hp) fun s σ η μ Q q E S hq l lx => g1 s σ η μ _ _ E S hq (fun ex μ1 x s1 hk1 x1 R1 r1 f1 => ?_) lx
  refine g2 s1 σ η μ1 _ _ E (S.go x1 R1) hk1 (fun ey μ2 y s2 hk2 x2 R2 r2 f2 => ?_) (lx.go x1 R1)
  have h1 := fun n (hn : n < μ1.length) => R1.here hn
  exact hs s _ s2 μ2 x y ex ey q Q R2 (x1.trans x2 h1) (r1.ext x2) f1 r2 (f2.back (K := X.K) x1 h1) hk2 l
abbrev TDO := DEnv → Mu → (Option Int → Mu → Prop) → XQ → Prop
structure DO (X : Cx) (W : WX) (e : Option Expr) (td : TDO) : Prop where
  ex : ∃ t : TO, PO X e t ∧ ∀ (s : Wd) (σ : L2.St) (η : DEnv) (μ : Mu) (Q : Option Int → Hp → Prop) (q : Option Int → Mu → Prop) (E : XQ), Sit X.K s μ σ η → td η μ q E →
    (∀ (o : Option Int) (μ' : Mu) (s' : Wd), q o μ' → Ext s μ.length s' μ'.length → Rep X.K s' μ' → Q o s'.H) → LX X.K s μ.length σ E W → t σ s.H Q
def oNo : TDO := fun _ μ q _ => q none μ
def oSome (t : TDE) : TDO := fun η μ q E => t η μ (fun e μ1 => match e with | .dat (.int i) => q (some i) μ1 | _ => False) E
theorem do_none : DO X W none oNo := ⟨_, po_none, fun s σ η μ Q q E S hq l lx => l none μ s hq (Ext.refl _ _) S.rep⟩
theorem do_some (h : DE X W e te) : DO X W (some e) (oSome te) := by
  obtain ⟨t1, p1, g1⟩ := h.ex
  refine ⟨_, po_some p1, fun s σ η μ Q q E S hq l lx => g1 s σ η μ _ _ E S hq (fun ex μ1 x s1 hk1 x1 R1 r1 f1 => ?_) lx⟩
  split at hk1
  · exact ⟨_, vr_i r1, l _ _ _ hk1 x1 R1⟩
  · exact hk1.elim
abbrev SD := EV → Option Int → Option Int → Mu → PQ → Prop
def SlS (K : PySem.W.Frag) (r : V → Option Int → Option Int → Hp → VK → Prop) (o : SD) : Prop := ∀ (s0 : Wd) (N0 : Nat) (s : Wd) (μ : Mu) (x : V) (ex : EV) (lo hi : Option Int) (q : PQ) (Q : VK), Rep K s μ → Ext s0 N0 s μ.length → VR K s μ.length x ex → Frsh s0.H x ex → o ex lo hi μ q → LE K s0 N0 q Q → r x lo hi s.H Q
def dSl (o : SD) (te : TDE) (tl th : TDO) : TDE := fun η μ q E => te η μ (fun x μ1 => tl η μ1 (fun l μ2 => th η μ2 (fun h μ3 => o x l h μ3 q) E) E) E
theorem de_slice {r : V → Option Int → Option Int → Hp → VK → Prop} {o : SD} {lo hi : Option Expr} {tl th : TDO} {p2 : Pos} (hr : SlR X r) (hs : SlS X.K r o) (ha : DE X W a ta) (hl : DO X W lo tl) (hh : DO X W hi th) : DE X W (.Subscript a (.Slice lo hi none p2) pos) (dSl o ta tl th) := by
  obtain ⟨t1, p1, g1⟩ := ha.ex
  obtain ⟨t2, p2, g2⟩ := hl.ex
  obtain ⟨t3, p3, g3⟩ := hh.ex
  refine de_pe (pe_slice hr p1 p2 p3) fun s σ η μ Q q E S hq l lx => g1 s σ η μ _ _ E S hq (fun ex μ1 x s1 hk1 x1 R1 r1 f1 => ?_) lx
  have h1 := fun n (hn : n < μ1.length) => R1.here hn
  refine g2 s1 σ η μ1 _ _ E (S.go x1 R1) hk1 (fun olo μ2 s2 hk2 x2 R2 => ?_) (lx.go x1 R1)
  have x12 := x1.trans x2 h1
  have h2 := fun n (hn : n < μ2.length) => R2.here hn
  refine g3 s2 σ η μ2 _ _ E (S.go x12 R2) hk2 (fun ohi μ3 s3 hk3 x3 R3 => ?_) (lx.go x12 R2)
  exact hs s _ s3 μ3 x ex olo ohi q Q R3 (x12.trans x3 h2) ((r1.ext x2).ext x3) f1 hk3 l
end
end DL
set_option Elab.async false
set_option linter.all false
set_option maxRecDepth 100000
set_option maxHeartbeats 4000000
namespace DL
open PySem L2
section
variable {X : Cx} {W : WX} {st : Stmt} {rest : List Stmt} {e eo ei : Expr} {te ti : TDE} {tA : TDT} {t u : TDS} {pos : Pos}
/-! ### blocks and small statements -/
def sNext : TDS := fun d _ η μ => d.nx η μ
def sSeq (t u : TDS) : TDS := fun d E η μ => t { d with nx := u d E } E η μ
theorem dss_nil : DSs X W [] sNext := ⟨_, pss_nil, fun s σ η μ D d E S hq l => l.nx η μ σ s hq (Ext.refl _ _) S⟩
theorem dss_cons (h1 : DS X W st t) (h2 : DSs X W rest u) : DSs X W (st :: rest) (sSeq t u) := by
  obtain ⟨t1, p1, g1⟩ := h1.ex
  obtain ⟨t2, p2, g2⟩ := h2.ex
  refine ⟨_, pss_cons p1 p2, fun s σ η μ D d E S hq l => g1 s σ η μ _ _ E S hq ⟨fun η' μ' σ' s' hk x S' => ?_, l.rt, l.bk, l.ct, l.xq⟩⟩
  exact g2 s' σ' η' μ' D d E S' hk (l.go x S'.rep)
theorem dss_one (h1 : DS X W st t) : DSs X W [st] t := by
  obtain ⟨t1, p1, g1⟩ := h1.ex
  exact ⟨_, pss_one p1, g1⟩
def sCont : TDS := fun d _ η μ => d.ct η μ
theorem ds_continue : DS X W (.Continue pos) sCont := ⟨_, ps_continue, fun s σ η μ D d E S hq l => l.ct η μ σ s hq (Ext.refl _ _) S⟩
def sDrop (t : TDE) : TDS := fun d E η μ => t η μ (fun _ μ1 => d.nx η μ1) E
theorem ds_expr (h : DE X W e te) (hs : swapsWith e none pos.line X.env = pure false := by rfl) : DS X W (.Expr e pos) (sDrop te) := by
  obtain ⟨t1, p1, g1⟩ := h.ex
  exact ⟨_, ps_expr p1 hs, fun s σ η μ D d E S hq l => g1 s σ η μ _ _ E S hq (fun ev μ1 v s1 hk x R r f => l.nx η μ1 σ s1 hk x (S.go x R)) (l.lx σ)⟩
def sRet (t : TDE) : TDS := fun d E η μ => t η μ d.rt E
theorem ds_ret (h : DE X W e te) : DS X W (.Return (some e) pos) (sRet te) := by
  obtain ⟨t1, p1, g1⟩ := h.ex
  exact ⟨_, ps_ret p1, fun s σ η μ D d E S hq l => g1 s σ η μ _ _ E S hq l.rt (l.lx σ)⟩
def sRetN : TDS := fun d _ _ μ => d.rt (.dat .none) μ
def sIf (c : TDT) (t u : TDS) : TDS := fun d E η μ => c η μ (fun b μ1 => if b = true then t d E η μ1 else u d E η μ1) E
theorem ds_if {c : Expr} {a b : List Stmt} (hc : DT X W c tA) (ha : DSs X W a t) (hb : DSs X W b u) : DS X W (.If c a b pos) (sIf tA t u) := by
  obtain ⟨tc, p, g⟩ := hc.ex
  obtain ⟨t1, p1, g1⟩ := ha.ex
  obtain ⟨t2, p2, g2⟩ := hb.ex
  refine ⟨_, ps_if p p1 p2, fun s σ η μ D d E S hq l => g s σ η μ _ _ E S hq (fun k μ' s' hk x R => ?_) (l.lx σ)⟩
  cases k with
  | true => exact g1 s' σ η μ' D d E (S.go x R) hk (l.go x R)
  | false => exact g2 s' σ η μ' D d E (S.go x R) hk (l.go x R)
/-! ### targets -/
abbrev TDG := EV → DEnv → Mu → (DEnv → Mu → Prop) → Prop
/-- only the slots is are other ones -/
def Only (is : List Nat) (σ σ' : L2.St) : Prop := σ'.length = σ.length ∧ ∀ j, j ∉ is → σ'[j]? = σ[j]?
def LGo (K : PySem.W.Frag) (s : Wd) (N : Nat) (is : List Nat) (σ : L2.St) (q : DEnv → Mu → Prop) (Q : L2.St → Hp → Prop) : Prop := ∀ (η' : DEnv) (μ' : Mu) (σ' : L2.St) (s' : Wd), q η' μ' → Ext s N s' μ'.length → Sit K s' μ' σ' η' → Only is σ σ' → Q σ' s'.H
theorem Only.refl {is : List Nat} (σ : L2.St) : Only is σ σ := ⟨rfl, fun _ _ => rfl⟩
theorem Only.set {is : List Nat} (σ : L2.St) (i : Nat) (o : Option V) (h : i ∈ is) : Only is σ (σ.set i o) := ⟨by simp, fun j hj => List.getElem?_set_ne fun e => hj (by rw [← e]; exact h)⟩
theorem Only.trans {is js : List Nat} {σ σ1 σ2 : L2.St} (a : Only is σ σ1) (b : Only js σ1 σ2) : Only (is ++ js) σ σ2 := ⟨b.1.trans a.1, fun j hj => (b.2 j fun h => hj (List.mem_append_right _ h)).trans (a.2 j fun h => hj (List.mem_append_left _ h))⟩
structure DG (X : Cx) (target : Expr) (is : List Nat) (td : TDG) : Prop where
  ex : ∃ g : TG, PG X target g ∧ ∀ (s : Wd) (σ : L2.St) (η : DEnv) (μ : Mu) (v : V) (e : EV) (Q : L2.St → Hp → Prop) (q : DEnv → Mu → Prop), Sit X.K s μ σ η → VR X.K s μ.length v e → td e η μ q → LGo X.K s μ.length is σ q Q → g v σ s.H Q
def gNm (i : Nat) : TDG := fun e η μ q => noNew e = true ∧ q (η.set i (some e)) μ
theorem dg_name {i : Nat} {x : Str} (hN : X.N.Nodup) (hi : X.N[i]? = some x) (hx : Loc X.env.scope x) (hf : X.fn x = true ∨ X.env.scope.names.lookup x = some .local := by first | exact .inl rfl | exact .inr rfl | assumption) : DG X (.Name x pos) [i] (gNm i) :=
  ⟨_, pg_name hN hi hx hf, fun s σ η μ v e Q q S r hq l => l _ μ _ s hq.2 (Ext.refl _ _) ⟨S.rep, S.er.set i r⟩ (Only.set σ i _ (by simp))⟩
abbrev TDGs := List PyData → DEnv → Mu → (DEnv → Mu → Prop) → Prop
structure DGs (X : Cx) (ts : List Expr) (is : List Nat) (td : TDGs) : Prop where
  ex : ∃ g : TGs, PGs X ts g ∧ ∀ (s : Wd) (σ : L2.St) (η : DEnv) (μ : Mu) (vs : List V) (ds : List PyData) (Q : L2.St → Hp → Prop) (q : DEnv → Mu → Prop), Sit X.K s μ σ η → DRs X.K s.F vs ds → td ds η μ q → LGo X.K s μ.length is σ q Q → g vs σ s.H Q
def gNl : TDGs := fun ds η μ q => ds = [] ∧ q η μ
def gCn (t : TDG) (u : TDGs) : TDGs := fun ds η μ q => match ds with
  | d :: r => t (.dat d) η μ fun η' μ' => u r η' μ' q
  | [] => False
theorem dgs_nil : DGs X [] [] gNl := ⟨_, pgs_nil, fun s σ η μ vs ds Q q S r hq l => by
  obtain ⟨rfl, hq⟩ := hq
  cases r
  exact ⟨rfl, l η μ σ s hq (Ext.refl _ _) S (Only.refl σ)⟩⟩
theorem dgs_cons {e : Expr} {es : List Expr} {is js : List Nat} {t : TDG} {u : TDGs} (h1 : DG X e is t) (h2 : DGs X es js u) (hs : (assignEach (e :: es) X.env).map (·.2) = assign e X.env :: (assignEach es X.env).map (·.2) := by rfl) : DGs X (e :: es) (is ++ js) (gCn t u) := by
  obtain ⟨t1, p1, g1⟩ := h1.ex
  obtain ⟨t2, p2, g2⟩ := h2.ex
  refine ⟨_, pgs_cons p1 p2 hs, fun s σ η μ vs ds Q q S r hq l => ?_⟩
  cases r with
  | nil => exact hq.elim
  | cons r rr =>
    refine ⟨_, _, rfl, g1 s σ η μ _ (.dat _) _ _ S r hq fun η' μ' σ' s' hk x S' o => ?_⟩
    exact g2 s' σ' η' μ' _ _ Q q S' (rr.mono x.f) hk fun η2 μ2 σ2 s2 hk2 x2 S2 o2 => l η2 μ2 σ2 s2 hk2 (x.trans x2 fun n hn => S'.rep.here hn) S2 (o.trans o2)
/-- (a, b, ..) = a tuple that is data -/
def gTp (n : Nat) (t : TDGs) : TDG := fun e η μ q => match e with
  | .dat (.tuple ds) => ds.length = n ∧ t ds η μ q
  | _ => False
theorem dg_tup {es : List Expr} {k : Nat} {is : List Nat} {t : TDGs} {n : Nat} (hc : X.calm = true) (h : DGs X es is t) (hn : (assignEach es X.env).length = n := by rfl) (hst : (assignEach es X.env).findIdx? (·.1) = none := by rfl) : DG X (.Tuple es k pos) is (gTp n t) := by
  obtain ⟨t1, p1, g1⟩ := h.ex
  refine ⟨_, pg_tup hc p1 hn hst, fun s σ η μ v e Q q S r hq l => ?_⟩
  unfold gTp at hq
  split at hq
  · rename_i ds
    have r' : DR X.K s.F v (.tuple ds) := r
    cases r' with
    | tup h hs => exact ⟨_, _, rfl, SqT.of (S.rep.sub _ _ h), by rw [hs.length]; exact hq.1, g1 s σ η μ _ _ Q q S hs hq.2 l⟩
  · exact hq.elim
/-- target = value -/
def sAsg (t : TDE) (g : TDG) : TDS := fun d E η μ => t η μ (fun e μ1 => g e η μ1 d.nx) E
theorem ds_asg {tg : Expr} {is : List Nat} {g : TDG} (he : DE X W e te) (hg : DG X tg is g) (hs : swapsWithSole [tg] e pos.line X.env = pure false := by rfl) (hw : swappedStores [tg] e X.env = pure none := by rfl)
    (h1 : (assignEach [tg] X.env).map (·.2) = [assign tg X.env] := by rfl) : DS X W (.Assign [tg] e pos) (sAsg te g) := by
  obtain ⟨t1, p1, g1⟩ := he.ex
  obtain ⟨t2, p2, g2⟩ := hg.ex
  refine ⟨_, ps_asg p1 p2 hs hw h1, fun s σ η μ D d E S hq l => g1 s σ η μ _ _ E S hq (fun ev μ1 v s1 hk x R r f => ?_) (l.lx σ)⟩
  exact g2 s1 σ η μ1 v ev _ _ (S.go x R) r hk fun η' μ' σ' s' hk' x' S' _ => l.nx η' μ' σ' s' hk' (x.trans x' fun n hn => R.here hn) S'
theorem ds_set {i : Nat} {x : Str} {pos' : Pos} (hN : X.N.Nodup) (hi : X.N[i]? = some x) (hx : Loc X.env.scope x) (he : DE X W e te) (hs : swapsWith e (some (.Name x pos')) pos.line X.env = pure false := by rfl) (hf : X.fn x = true ∨ X.env.scope.names.lookup x = some .local := by first | exact .inl rfl | exact .inr rfl | assumption) :
    DS X W (.Assign [.Name x pos'] e pos) (sAsg te (gNm i)) := by
  obtain ⟨t1, p1, g1⟩ := he.ex
  refine ⟨_, ps_set hN hi hx p1 hs hf, fun s σ η μ D d E S hq l => g1 s σ η μ _ _ E S hq (fun ev μ1 v s1 hk x R r f => ?_) (l.lx σ)⟩
  have S1 := S.go x R
  exact l.nx _ μ1 _ s1 hk.2 x ⟨R, S1.er.set i r⟩
/-- a, b = x, y (local names): data -/
def sPar (i j : Nat) (t : TDA) : TDS := fun d E η μ => t η μ (fun es μ1 => match es with
  | [e1, e2] => noNew e1 = true ∧ noNew e2 = true ∧ d.nx ((η.set i (some e1)).set j (some e2)) μ1
  | _ => False) E
/-- name op= e -/
def sAug (i : Nat) (te : TDE) (o : OD) : TDS := fun d E η μ => match η[i]? with
  | some (some x) => noNew x = true ∧ te η μ (fun y μ1 => o x y μ1 fun z μ2 => noNew z = true ∧ d.nx (η.set i (some z)) μ2) E
  | _ => False
theorem ds_aug {i : Nat} {x : Str} {op : Operator} {ti : TIp} {o : OD} {pos' : Pos} (hN : X.N.Nodup) (hi : X.N[i]? = some x) (hx : Loc X.env.scope x) (he : DE X W e te) (ho : PIp X op ti) (hs : OpS X.K ti o)
    (hf : X.fn x = true ∨ X.env.scope.names.lookup x = some .local := by first | exact .inl rfl | exact .inr rfl | assumption) : DS X W (.AugAssign (.Name x pos') op e pos) (sAug i te o) := by
  obtain ⟨t1, p1, g1⟩ := he.ex
  refine ⟨_, ps_aug hN hi hx p1 ho hf, fun s σ η μ D d E S hq l => ?_⟩
  unfold sAug at hq
  split at hq
  · rename_i ex hex
    obtain ⟨v, h1, h2⟩ := S.er.get i _ hex
    refine ⟨v, h1, g1 s σ η μ _ _ E S hq.2 (fun ey μ1 y s1 hk x1 R r f => ?_) (l.lx σ)⟩
    refine hs s _ s1 μ1 v y ex ey _ _ R x1 (h2.ext x1) (frsh_of hq.1) r f hk fun ez μ2 z s2 hk2 x2 R2 r2 f2 => ?_
    exact l.nx _ μ2 _ s2 hk2.2 x2 ⟨R2, (S.go x2 R2).er.set i r2⟩
  · exact hq.elim
/-- o[i] = v, by values -/
abbrev SetD := EV → EV → EV → Mu → (Mu → Prop) → Prop
def SetS (K : PySem.W.Frag) (r : TSet) (o : SetD) : Prop := ∀ (s0 : Wd) (N0 : Nat) (s : Wd) (μ : Mu) (x y z : V) (ex ey ez : EV) (q : Mu → Prop) (Q : Hp → Prop), Rep K s μ → Ext s0 N0 s μ.length → VR K s μ.length x ex → VR K s μ.length y ey → VR K s μ.length z ez →
  o ex ey ez μ q → (∀ (μ' : Mu) (s' : Wd), q μ' → Ext s0 N0 s' μ'.length → Rep K s' μ' → Q s'.H) → r x y z s.H Q
def gSb (to ti : TDE) (o : SetD) : TDG := fun e η μ q => to η μ (fun x μ1 => ti η μ1 (fun y μ2 => o x y e μ2 fun μ3 => q η μ3) fun _ _ => False) fun _ _ => False
theorem dg_sub {to : TDE} {r : TSet} {os : SetD} (ho : DE X W eo to) (hi : DE X W ei ti) (hr : PSet X r) (hs : SetS X.K r os)
    (ha : ∀ v, assign (.Subscript eo ei pos) X.env v = (do
      let ov ← holding [v] (eval eo X.env)
      let iv ← holding [v, ov] (eval ei X.env)
      standAt pos
      holding [v, ov, iv] (setItem ov iv v)
      release [v, ov, iv] []) := by intro _; rfl) : DG X (.Subscript eo ei pos) [] (gSb to ti os) := by
  obtain ⟨t1, p1, g1⟩ := ho.ex
  obtain ⟨t2, p2, g2⟩ := hi.ex
  refine ⟨_, pg_sub p1 p2 hr ha, fun s σ η μ v e Q q S r0 hq l => ?_⟩
  refine g1 s σ η μ _ _ _ S hq (fun ex μ1 x s1 hk1 x1 R1 r1 f1 => ?_) LX.none
  refine g2 s1 σ η μ1 _ _ _ (S.go x1 R1) hk1 (fun ey μ2 y s2 hk2 x2 R2 r2 f2 => ?_) LX.none
  have h1 := fun n (hn : n < μ1.length) => R1.here hn
  have x12 := x1.trans x2 h1
  exact hs s _ s2 μ2 x y v ex ey e _ _ R2 x12 (r1.ext x2) r2 (r0.ext x12) hk2 fun μ' s' hk x' R' => l η μ' σ s' hk x' (S.go x' R') (Only.refl σ)
/-! ### what is walked -/
/-- while G holds of the store, J gives the items, one a turn -/
def WalkS (K : PySem.W.Frag) (J : It) (s0 : Wd) (N0 : Nat) (items : List EV) (G : Mu → Prop) : Prop := ∀ (n : Nat) (s : Wd) (μ : Mu), Ext s0 N0 s μ.length → Rep K s μ → G μ →
  (n < items.length → J.go n s.H) ∧ J.stop items.length s.H ∧
  ∀ x H', n < items.length → J.yld n s.H x H' → ∃ (s' : Wd) (e : EV), s'.H = H' ∧ items[n]? = some e ∧ noNew e = true ∧ Ext s μ.length s' μ.length ∧ Rep K s' μ ∧ VR K s' μ.length x e
abbrev TDI := DEnv → Mu → (List EV → (Mu → Prop) → Mu → Prop) → XQ → Prop
structure DI (X : Cx) (W : WX) (tg iter : Expr) (td : TDI) : Prop where
  ex : ∃ wi : TI, PI X tg iter wi ∧ ∀ (s : Wd) (σ : L2.St) (η : DEnv) (μ : Mu) (R : It → Hp → Prop) (r : List EV → (Mu → Prop) → Mu → Prop) (E : XQ), Sit X.K s μ σ η → td η μ r E →
    (∀ (J : It) (items : List EV) (G : Mu → Prop) (μ' : Mu) (s' : Wd), r items G μ' → Ext s μ.length s' μ'.length → Rep X.K s' μ' → WalkS X.K J s' μ'.length items G → R J s'.H) → LX X.K s μ.length σ E W → wi σ s.H R
theorem PI.or {tg iter : Expr} {wi wj : TI} (h : PI X tg iter wi) (h' : PI X tg iter wj) : PI X tg iter (fun σ H R => wi σ H R ∨ wj σ H R) :=
  ⟨fun pins s σ H R I q => q.elim (h.run pins s σ H R I) (h'.run pins s σ H R I)⟩
/-- slots that name cells made since are forgotten -/
def clean (N : Nat) (η : DEnv) : DEnv := η.map fun o => match o with
  | some (.loc n) => if n < N then some (.loc n) else none
  | o => o
theorem er_clean {K : PySem.W.Frag} {s : Wd} {N N' : Nat} {σ : L2.St} {η : DEnv} (h : ER K s N' σ η) (hN : N ≤ N') : ER K s N σ (clean N η) := by
  refine ⟨by simp [clean, h.len], fun i e q => ?_⟩
  unfold clean at q
  rw [List.getElem?_map] at q
  cases hi : η[i]? with
  | none => rw [hi] at q; cases q
  | some o =>
    rw [hi] at q
    cases o with
    | none => cases q
    | some e0 =>
      obtain ⟨v, h1, h2⟩ := h.get i e0 hi
      refine ⟨v, h1, ?_⟩
      cases e0 with
      | loc n =>
        have q1 : (if n < N then some (EV.loc n) else none) = some e := Option.some.inj q
        split at q1
        · cases q1
          exact ⟨by assumption, h2.2⟩
        · cases q1
      | dat d => cases q; exact h2
      | new xs => cases q; obtain ⟨p, vs, a1, a2, a3, a4, a5⟩ := h2; exact ⟨p, vs, a1, a2, a3, fun m hm => a4 m (Nat.lt_of_lt_of_le hm hN), a5⟩
      | raw d => cases q; exact h2
      | exc d => cases q; exact h2
      | ro d => cases q; exact h2
      | newd xs => cases q; obtain ⟨p, vs, a1, a2, a3, a4, a5⟩ := h2; exact ⟨p, vs, a1, a2, a3, fun m hm => a4 m (Nat.lt_of_lt_of_le hm hN), a5⟩
      | newk xs => cases q; obtain ⟨p, vs, a1, a2, a3, a4, a5⟩ := h2; exact ⟨p, vs, a1, a2, a3, fun m hm => a4 m (Nat.lt_of_lt_of_le hm hN), a5⟩
      | newo t => cases q; obtain ⟨a1, a2, a3, a4⟩ := h2; exact ⟨a1, a2, a3, fun a ha m hm => a4 a ha m (Nat.lt_of_lt_of_le hm hN)⟩
      | «at» _ _ _ => cases q; exact h2
      | per d => cases q; exact h2
theorem Sit.clean {K : PySem.W.Frag} {s : Wd} {N : Nat} {μ : Mu} {σ : L2.St} {η : DEnv} (h : Sit K s μ σ η) (hN : N ≤ μ.length) : Sit K s (μ.take N) σ (DL.clean N η) := by
  have e : (μ.take N).length = N := by rw [List.length_take]; omega
  exact ⟨h.rep.take N, by rw [e]; exact er_clean h.er hN⟩
/-! ### for, while -/
/-! ### list comprehensions -/
structure DTs (X : Cx) (W : WX) (ifs : List Expr) (td : TDT) : Prop where
  ex : ∃ t : TT, PTs X ifs t ∧ ∀ (s : Wd) (σ : L2.St) (η : DEnv) (μ : Mu) (Q : Bool → Hp → Prop) (q : Bool → Mu → Prop) (E : XQ), Sit X.K s μ σ η → td η μ q E → LB X.K s μ.length q Q → LX X.K s μ.length σ E W → t σ s.H Q
def tYesD : TDT := fun _ μ q _ => q true μ
theorem dts_nil : DTs X W [] tYesD := ⟨_, pts_nil, fun s σ η μ Q q E S hq l lx => l true μ s hq (Ext.refl _ _) S.rep⟩
theorem dts_one {c : Expr} (h : DT X W c tA) : DTs X W [c] tA := by
  obtain ⟨t, p, g⟩ := h.ex
  exact ⟨_, pts_one p, g⟩
/-- no exception -/
abbrev WF : WX := fun _ _ _ _ => False
abbrev EF : XQ := fun _ _ => False
/-- the readings that data readings stand for -/
def upE (K : PySem.W.Frag) (td : TDE) : TE := fun σ H Q => ∃ (s : Wd) (η : DEnv) (μ : Mu) (q : PQ), s.H = H ∧ Sit K s μ σ η ∧ td η μ q EF ∧ LE K s μ.length q Q
def upT (K : PySem.W.Frag) (td : TDT) : TT := fun σ H Q => ∃ (s : Wd) (η : DEnv) (μ : Mu) (q : Bool → Mu → Prop), s.H = H ∧ Sit K s μ σ η ∧ td η μ q EF ∧ LB K s μ.length q Q
def upG (K : PySem.W.Frag) (is : List Nat) (td : TDG) : TG := fun v σ H Q => ∃ (s : Wd) (η : DEnv) (μ : Mu) (e : EV) (q : DEnv → Mu → Prop), s.H = H ∧ Sit K s μ σ η ∧ VR K s μ.length v e ∧ td e η μ q ∧ LGo K s μ.length is σ q Q
theorem DE.up (h : DE X WF e te) : PE X e (upE X.K te) := by
  obtain ⟨t, p, g⟩ := h.ex
  refine ⟨fun pins sh σ H Q I hq => ?_⟩
  obtain ⟨s, η, μ, q, rfl, S, hq, l⟩ := hq
  exact p.run pins sh σ s.H Q I (g s σ η μ Q q EF S hq l LX.none)
theorem DTs.up {ifs : List Expr} (h : DTs X WF ifs tA) : PTs X ifs (upT X.K tA) := by
  obtain ⟨t, p, g⟩ := h.ex
  refine ⟨fun pins sh σ H Q I hq => ?_⟩
  obtain ⟨s, η, μ, q, rfl, S, hq, l⟩ := hq
  exact p.run pins sh σ s.H Q I (g s σ η μ Q q EF S hq l LX.none)
theorem DG.up {tg : Expr} {is : List Nat} {td : TDG} (h : DG X tg is td) : PG X tg (upG X.K is td) := by
  obtain ⟨t, p, g⟩ := h.ex
  refine ⟨fun pins sh σ H v u Q I r hq => ?_⟩
  obtain ⟨s, η, μ, ev, q, rfl, S, rv, hq, l⟩ := hq
  exact p.run pins sh σ s.H v u Q I r (g s σ η μ v ev Q q S rv hq l)
theorem wipe_get (σ : L2.St) : ∀ (vs : List Nat) (i : Nat), (L2.wipe σ vs)[i]? = if i ∈ vs then (if i < σ.length then some none else none) else σ[i]?
  | [], i => by simp [L2.wipe]
  | v :: vs, i => by
    unfold L2.wipe
    by_cases hv : v = i
    · subst hv
      by_cases hl : v < σ.length
      · rw [List.getElem?_set_self (by rw [wipe_length]; exact hl)]
        simp [hl]
      · rw [List.getElem?_eq_none (by rw [List.length_set, wipe_length]; omega)]
        simp [hl]
    · rw [List.getElem?_set_ne hv, wipe_get σ vs i]
      have : (i ∈ v :: vs) ↔ i ∈ vs := by
        rw [List.mem_cons]
        exact ⟨fun z => z.elim (fun e => absurd e.symm hv) id, .inr⟩
      simp [this]
theorem wipe_only {is vs : List Nat} {σ σ' : L2.St} (h : Only is σ σ') (hs : ∀ i ∈ is, i ∈ vs) : L2.wipe σ' vs = L2.wipe σ vs := by
  refine List.ext_getElem? fun i => ?_
  rw [wipe_get, wipe_get, h.1]
  by_cases hi : i ∈ vs
  · rw [if_pos hi, if_pos hi]
  · rw [if_neg hi, if_neg hi]
    exact h.2 i fun z => hi (hs i z)
theorem wipe_twice (σ : L2.St) (vs : List Nat) : L2.wipe (L2.wipe σ vs) vs = L2.wipe σ vs := by
  refine List.ext_getElem? fun i => ?_
  rw [wipe_get, wipe_get, wipe_length]
  by_cases hi : i ∈ vs
  · rw [if_pos hi, if_pos hi]
  · rw [if_neg hi, if_neg hi]
/-- a list beside is written -/
theorem Rep.poke {K : PySem.W.Frag} {s : Wd} {μ : Mu} {p : Addr} {o : HO} (R : Rep K s μ) (hf : s.F p = none) (hl : NL s μ.length p) : Rep K { s with H := upd s.H p o } μ := by
  refine R.of rfl (fun a u q => ?_) (fun n c q => ?_) (fun a h => upd_live h) (R.beside (fun _ _ z => z) fun n a hn ha => keeps_put fun z => hl n hn (z ▸ ha))
  · show upd s.H p o a = some u
    have q' : s.F a = some u := q
    rw [upd_ne (ne_of_none q' hf)]
    exact R.sub a u q
  · have ne := R.rootNe hl n (List.getElem?_eq_some_iff.mp q).1
    have := R.cell n c q
    cases c with
    | lst xs => obtain ⟨h1, vs, h2, h3⟩ := this; exact ⟨h1, vs, (upd_ne ne).trans h2, h3⟩
    | frz xs => exact this
    | dct kvs =>
      obtain ⟨h1, ks, h2, h3, h4⟩ := this
      exact ⟨h1, ks, (upd_ne ne).trans h2, h3, h4⟩
    | dck kvs =>
      obtain ⟨h1, ks, h2, h3, h4⟩ := this
      exact ⟨h1, ks, (upd_ne ne).trans h2, h3, h4⟩
    | abs P => obtain ⟨xs, hP, h1, vs, h2, h3⟩ := this; exact ⟨xs, hP, h1, vs, (upd_ne ne).trans h2, h3⟩
    | tab P nm => exact ⟨this.1, this.2.to (fun _ _ z => z) this.2.nf fun _ z => (upd_ne ne).trans z⟩
    | own t => exact upd_live this
    | dead => exact upd_live this
theorem Ext.poke {s0 s : Wd} {N0 N : Nat} {p : Addr} {o : HO} (x : Ext s0 N0 s N) (h0 : s0.H p = none) : Ext s0 N0 { s with H := upd s.H p o } N :=
  ⟨x.f, x.l, x.le, fun a u q hn => by
    show upd s.H p o a = some u
    rw [upd_ne (ne_of_none q h0)]
    exact x.keep a u q hn, x.fnew, x.lnew, x.onew, fun a h => upd_live (x.alive a h)⟩
/-- [e for tg in it if c] -/
def dLc (ti : TDI) (g : TDG) (tt : TDT) (te : TDE) (vs : List Nat) : TDE := fun η μ q E => ti η μ (fun items G μ1 => items.length ≤ 100000 ∧ ∃ Inv : Nat → List PyData → Mu → Prop, Inv 0 [] μ1 ∧ (∀ i acc μ, Inv i acc μ → G μ ∧ acc.length ≤ i) ∧
  (∀ (i : Nat) (e : EV) acc μ, items[i]? = some e → Inv i acc μ → g e (wipeD η vs) μ fun η2 μ2 => tt η2 μ2 (fun b μ3 => if b = true then te η2 μ3 (fun ev μ4 => withDat μ4 ev fun d μ5 => Inv (i + 1) (acc ++ [d]) (μ5.take μ1.length)) EF else Inv (i + 1) acc (μ3.take μ1.length)) EF) ∧
  ∀ acc μ, Inv items.length acc μ → q (.new acc) μ) E
theorem lc_ok {ti : TDI} {g : TDG} {tt : TDT} {te : TDE} {wi : TI} {own : List (Str × Nat)} {is : List Nat} (his : ∀ i ∈ is, i ∈ own.map (·.2))
    (g1 : ∀ (s : Wd) (σ : L2.St) (η : DEnv) (μ : Mu) (R : It → Hp → Prop) (r : List EV → (Mu → Prop) → Mu → Prop) (E : XQ), Sit X.K s μ σ η → ti η μ r E →
      (∀ (J : It) (items : List EV) (G : Mu → Prop) (μ' : Mu) (s' : Wd), r items G μ' → Ext s μ.length s' μ'.length → Rep X.K s' μ' → WalkS X.K J s' μ'.length items G → R J s'.H) → LX X.K s μ.length σ E W → wi σ s.H R)
    (s : Wd) (σ : L2.St) (η : DEnv) (μ : Mu) (Q : VK) (q : PQ) (E : XQ) (S : Sit X.K s μ σ η) (hq : dLc ti g tt te (own.map (·.2)) η μ q E) (l : LE X.K s μ.length q Q) (lx : LX X.K s μ.length σ E W) :
    tLc wi (upG X.K is g) (upT X.K tt) (upE X.K te) (own.map (·.2)) σ s.H Q := by
  refine g1 s σ η μ _ _ E S hq (fun J items G μ1 s1 hk x1 R1 wk => ?_) lx
  obtain ⟨hz, Inv, h0, hG, hs, hd⟩ := hk
  intro D hD
  have hD0 := x1.fresh R1 hD
  refine ⟨fun i m H' => m = items.length - i ∧ i ≤ items.length ∧ ∃ (s' : Wd) (acc : List PyData) (μ' : Mu), s'.H = H' ∧ Ext s1 μ1.length s' μ'.length ∧ Rep X.K s' μ' ∧ VR X.K s' μ'.length (.ref D) (.new acc) ∧ Inv i acc μ', ⟨items.length, by simp, Nat.zero_le _, { s1 with H := upd s1.H D (.lst []) }, [], μ1, rfl, (Ext.refl s1 μ1.length).poke hD, R1.put hD, ⟨D, [], rfl, upd_same, R1.notF hD, R1.notL hD, .nil⟩, h0⟩, ?_⟩
  rintro i m H' ⟨rfl, hi, s', acc, μ', rfl, x', R', rD, iv⟩
  obtain ⟨gG, hacc⟩ := hG i acc μ' iv
  have ⟨wgo, wstop, wy⟩ := wk i s' μ' x' R' gG
  by_cases hlt : i < items.length
  · refine .inr ⟨wgo hlt, fun H2 => ∃ (s2 : Wd) (acc2 : List PyData) (μ2 : Mu), s2.H = H2 ∧ Ext s1 μ1.length s2 μ2.length ∧ Rep X.K s2 μ2 ∧ VR X.K s2 μ2.length (.ref D) (.new acc2) ∧ Inv (i + 1) acc2 μ2, fun H2 h2 => ⟨items.length - (i + 1), by omega, rfl, hlt, h2⟩, fun x H'' hy => ?_⟩
    obtain ⟨s2, e, rfl, he, hne, x2, R2, r2⟩ := wy x H'' hlt hy
    have x12 := x'.trans x2 fun n hn => R'.here hn
    have rD2 := rD.ext x2
    have Sw : Sit X.K s2 μ' (L2.wipe σ (own.map (·.2))) (wipeD η (own.map (·.2))) := ⟨R2, ((S.er.ext x1).ext x12).wipe _⟩
    refine ⟨s2, wipeD η (own.map (·.2)), μ', e, _, rfl, Sw, r2, hs i e acc μ' he iv, fun η3 μ3 σ3 s3 hk3 x3 S3 o3 => ?_⟩
    refine ⟨(wipe_only o3 his).trans (wipe_twice _ _), s3, η3, μ3, _, rfl, S3, hk3, fun b μ4 s4 hk4 x4 R4 => ?_⟩
    have x13 := x12.trans x3 fun n hn => R2.here hn
    have x14 := x13.trans x4 fun n hn => S3.rep.here hn
    have rD4 := (rD2.ext x3).ext x4
    cases b with
    | false =>
      have e4 : (μ4.take μ1.length).length = μ1.length := by rw [List.length_take]; have := x14.le; omega
      refine ⟨s4, acc, μ4.take μ1.length, rfl, by rw [e4]; exact x14.take (Nat.le_refl _) x14.le, R4.take _, ?_, hk4⟩
      obtain ⟨p, vs, a1, a2, a3, a4, a5⟩ := rD4
      exact ⟨p, vs, a1, a2, a3, fun m hm => a4 m (by rw [List.length_take] at hm; omega), a5⟩
    | true =>
      refine ⟨s4, η3, μ4, _, rfl, S3.go x4 R4, hk4, fun ev μ5 v s5 hk5 x5 R5 r5 f5 => ?_⟩
      have x15 := x14.trans x5 fun n hn => R4.here hn
      have rD5 := rD4.ext x5
      obtain ⟨p, ws, e0, a2, a3, a4, a5⟩ := rD5
      cases e0
      -- made still
      have hDd : s5.H D ≠ none := by rw [a2]; simp
      have f5' : Frsh s4.H v ev := f5
      have base : ∃ d μ6 F' O', Inv (i + 1) (acc ++ [d]) (μ6.take μ1.length) ∧ μ6.length = μ5.length ∧ Rep X.K { s5 with F := F', O := O' } μ6 ∧ Ext s4 μ4.length { s5 with F := F', O := O' } μ6.length ∧ DR X.K F' v d := still R5 x5 r5 f5' hk5
      obtain ⟨d, μ6, F', O', k6, len6, R6, x6, r6⟩ := base
      have x16 := x14.trans x6 fun n hn => R4.here hn
      have rD6 := rD4.ext x6
      obtain ⟨p, ws, e0, a2, a3, a4, a5⟩ := rD6
      cases e0
      have e6 : (μ6.take μ1.length).length = μ1.length := by rw [List.length_take]; have := x16.le; omega
      have hDm : NL { s5 with F := F', O := O' } (μ6.take μ1.length).length D := fun m hm => a4 m (by rw [List.length_take] at hm; omega)
      refine ⟨ws, a2, Nat.lt_of_lt_of_le (show ws.length < 100001 by have := a5.length; omega) (by decide), { s5 with F := F', O := O', H := upd s5.H D (.lst (ws ++ [v])) }, acc ++ [d], μ6.take μ1.length, rfl, ?_, ?_, ?_, k6⟩
      · rw [e6]
        exact (x16.poke hD).take (Nat.le_refl _) x16.le
      · exact (R6.take _).poke a3 hDm
      · exact ⟨D, ws ++ [v], rfl, upd_same, a3, hDm, a5.append (.cons r6 .nil)⟩
  · have e : i = items.length := by omega
    subst e
    refine .inl ⟨wstop, l (.new acc) μ' (.ref D) s' (hd acc μ' iv) (x1.trans x' fun n hn => R1.here hn) R' rD fun p hp => ?_⟩
    cases hp
    exact hD0
theorem de_lc {elt tg iter : Expr} {ifs : List Expr} {scope : Scope} {own : List (Str × Nat)} {is : List Nat} {ti : TDI} {g : TDG} {tt : TDT} (hc : X.calm = true) (hN : X.N.Nodup) (hi : DI X W tg iter ti) (ok : BlkOk X.N X.env.scope scope own) (his : ∀ i ∈ is, i ∈ own.map (·.2))
    (hg : ∀ (s : Shared) (H : Hp) (C : Addr) (cl : List (Str × Addr)) (fp : List Addr), DG (X.blk s H scope (compEnvC scope cl C X.env) fp) tg is g)
    (ht : ∀ (s : Shared) (H : Hp) (C : Addr) (cl : List (Str × Addr)) (fp : List Addr), DTs (X.blk s H scope (compEnvC scope cl C X.env) fp) WF ifs tt)
    (he : ∀ (s : Shared) (H : Hp) (C : Addr) (cl : List (Str × Addr)) (fp : List Addr), DE (X.blk s H scope (compEnvC scope cl C X.env) fp) WF elt te) (hs : ∀ x, foldedSetIterable iter X.env x = pure x := by intro _; rfl) :
    DE X W (.ListComp elt [⟨tg, iter, ifs, 0⟩] scope pos) (dLc ti g tt te (own.map (·.2))) := by
  obtain ⟨wi, p1, g1⟩ := hi.ex
  exact de_pe (pe_lc (g := upG X.K is g) (tt := upT X.K tt) (te := upE X.K te) hc hN p1 ok (fun s H C cl fp => (hg s H C cl fp).up) (fun s H C cl fp => (ht s H C cl fp).up) (fun s H C cl fp => (he s H C cl fp).up) hs) (lc_ok his g1)
/-- name = [..] in one row -/
theorem ds_setLc {i : Nat} {y : Str} {py : Pos} {elt tg iter : Expr} {ifs : List Expr} {scope : Scope} {own : List (Str × Nat)} {spos : Pos} {is : List Nat} {ti : TDI} {g : TDG} {tt : TDT} {k : TDE → TDE} (hc : X.calm = true) (hN : X.N.Nodup) (hy : X.N[i]? = some y) (hyl : X.env.scope.names.lookup y = some .local)
    (hs' : swapsWith (.ListComp elt [⟨tg, iter, ifs, 0⟩] scope pos) (some (.Name y py)) spos.line X.env = pure true)
    (hk : k = dFrz ∨ k = dCell)
    (hi : DI X W tg iter ti) (ok : BlkOk X.N X.env.scope scope own) (his : ∀ i ∈ is, i ∈ own.map (·.2))
    (hg : ∀ (s : Shared) (H : Hp) (C : Addr) (cl : List (Str × Addr)) (fp : List Addr), DG (X.blk s H scope (compEnvC scope cl C X.env) fp) tg is g)
    (ht : ∀ (s : Shared) (H : Hp) (C : Addr) (cl : List (Str × Addr)) (fp : List Addr), DTs (X.blk s H scope (compEnvC scope cl C X.env) fp) WF ifs tt)
    (he : ∀ (s : Shared) (H : Hp) (C : Addr) (cl : List (Str × Addr)) (fp : List Addr), DE (X.blk s H scope (compEnvC scope cl C X.env) fp) WF elt te) (hs : ∀ x, foldedSetIterable iter X.env x = pure x := by intro _; rfl) :
    DS X W (.Assign [.Name y py] (.ListComp elt [⟨tg, iter, ifs, 0⟩] scope pos) spos) (sAsg (k (dLc ti g tt te (own.map (·.2)))) (gNm i)) := by
  obtain ⟨wi, p1, g1⟩ := hi.ex
  have g2 : SemE X.K W (tLc wi (upG X.K is g) (upT X.K tt) (upE X.K te) (own.map (·.2))) (k (dLc ti g tt te (own.map (·.2)))) := by
    rcases hk with rfl | rfl
    · exact sem_frz (lc_ok his g1)
    · exact sem_cell (lc_ok his g1)
  refine ⟨_, ps_setLc (g := upG X.K is g) (tt := upT X.K tt) (te := upE X.K te) hc hN hy hyl hs' p1 ok (fun s H C cl fp => (hg s H C cl fp).up) (fun s H C cl fp => (ht s H C cl fp).up) (fun s H C cl fp => (he s H C cl fp).up) hs, fun s σ η μ D d E S hq l => ?_⟩
  refine g2 s σ η μ _ _ E S hq (fun ev μ1 v s1 hk x R r f => ?_) (l.lx σ)
  exact l.nx _ μ1 _ s1 hk.2 x ⟨R, (S.go x R).er.set i r⟩
end
end DL
set_option Elab.async false
set_option linter.all false
set_option maxRecDepth 100000
set_option maxHeartbeats 4000000
namespace DL
open PySem L2 PyProof.Rows
/-! ### contracts of defs -/
/-- a contract: the arguments, the store, what is wanted of the answer, of an exception -/
abbrev SpD := List EV → Mu → PQ → XQ → Prop
inductive VL (K : PySem.W.Frag) (s : Wd) (N : Nat) : List V → List EV → Prop
  | nil : VL K s N [] []
  | cons {v : V} {vs : List V} {e : EV} {es : List EV} : VR K s N v e → VL K s N vs es → VL K s N (v :: vs) (e :: es)
theorem VL.len {K : PySem.W.Frag} {s : Wd} {N : Nat} {vs : List V} {es : List EV} (h : VL K s N vs es) : vs.length = es.length := by
  induction h with
  | nil => rfl
  | cons _ _ ih => rw [List.length_cons, List.length_cons, ih]
theorem VL.get {K : PySem.W.Frag} {s : Wd} {N : Nat} : ∀ {vs : List V} {es : List EV} {i : Nat} {e : EV}, VL K s N vs es → es[i]? = some e → ∃ v, vs[i]? = some v ∧ VR K s N v e
  | _, _, _, _, .nil, e => by simp at e
  | _, _, 0, _, .cons h _, e => by simp at e; subst e; exact ⟨_, rfl, h⟩
  | _, _, i + 1, d, .cons _ hs, e => by
    obtain ⟨v, h1, h2⟩ := VL.get (i := i) (e := d) hs (by simpa using e)
    exact ⟨v, by simpa using h1, h2⟩
theorem VRs.vl {K : PySem.W.Frag} {s : Wd} {N : Nat} {H0 : Hp} {vs : List V} {es : List EV} (h : VRs K s N H0 vs es) : VL K s N vs es := by
  induction h with
  | nil => exact .nil
  | cons a _ _ ih => exact .cons a ih
theorem VL.append {K : PySem.W.Frag} {s : Wd} {N : Nat} {vs ws : List V} {es fs : List EV} (h : VL K s N vs es) (h' : VL K s N ws fs) : VL K s N (vs ++ ws) (es ++ fs) := by
  induction h with
  | nil => exact h'
  | cons a _ ih => exact .cons a ih
def spOf (K : PySem.W.Frag) (n : Nat) (sp : SpD) : Sp := fun vs H Q E => vs.length = n ∧ ∃ (s : Wd) (μ : Mu) (es : List EV) (q : PQ) (x : XQ), s.H = H ∧ Rep K s μ ∧ VL K s μ.length vs es ∧ sp es μ q x ∧ LE K s μ.length q Q ∧
  ∀ (y : Exn) (μ' : Mu) (cls : Value) (d : Option Addr) (s' : Wd), x y μ' → Ext s μ.length s' μ'.length → Rep K s' μ' → XR K s' cls d y → E cls d s'.H
/-- what goes out of a def: its own cells are forgotten, the answer's one is kept -/
def exitQ (N : Nat) (q : PQ) : PQ := fun e μ => match e with
  | .loc n => if n < N then q (.loc n) (μ.take N) else match μ[n]? with
    | some (.lst xs) => q (.new xs) (μ.take N)
    | some (.frz xs) => q (.dat (.list xs)) (μ.take N)
    | some (.dct kvs) => q (.newd kvs) (μ.take N)
    | some (.dck kvs) => q (.newk kvs) (μ.take N)
    | _ => False
  | .at n p b => if n < N then q (.at n p b) (μ.take N) else match nodeAt μ n p with
    | some (.nod k b' ts) => b' = b ∧ q (.newo (.nod k b ts)) (μ.take N)
    | _ => False
  | e => q e (μ.take N)
theorem exit_gen {K : PySem.W.Frag} {s : Wd} {N : Nat} {q : PQ} {κ : V → Wd → Prop} (l : ∀ (e : EV) (μ' : Mu) (v : V) (s' : Wd), q e μ' → Ext s N s' μ'.length → Rep K s' μ' → VR K s' μ'.length v e → Frsh s.H v e → κ v s') (hN : ∀ n, n < N → s.H (s.L n) ≠ none) :
    ∀ (e : EV) (μ' : Mu) (v : V) (s' : Wd), exitQ N q e μ' → Ext s N s' μ'.length → Rep K s' μ' → VR K s' μ'.length v e → Frsh s.H v e → κ v s' := by
  intro e μ' v s' hq x R r f
  have e1 : (μ'.take N).length = N := by rw [List.length_take]; have := x.le; omega
  have xt : Ext s N s' (μ'.take N).length := by rw [e1]; exact x.take (Nat.le_refl _) x.le
  have Rt := R.take N
  cases e with
  | dat d => exact l _ _ v s' hq xt Rt r trivial
  | raw d => exact l _ _ v s' hq xt Rt r trivial
  | exc d => exact l _ _ v s' hq xt Rt r trivial
  | ro d => exact l _ _ v s' hq xt Rt r trivial
  | newd xs =>
    obtain ⟨p, vs, a1, a2, a3, a4, a5⟩ := r
    exact l _ _ v s' hq xt Rt ⟨p, vs, a1, a2, a3, fun m hm => a4 m (by rw [e1] at hm; have := x.le; omega), a5⟩ f
  | newk xs =>
    obtain ⟨p, vs, a1, a2, a3, a4, a5⟩ := r
    exact l _ _ v s' hq xt Rt ⟨p, vs, a1, a2, a3, fun m hm => a4 m (by rw [e1] at hm; have := x.le; omega), a5⟩ f
  | new xs =>
    obtain ⟨p, vs, a1, a2, a3, a4, a5⟩ := r
    exact l _ _ v s' hq xt Rt ⟨p, vs, a1, a2, a3, fun m hm => a4 m (by rw [e1] at hm; have := x.le; omega), a5⟩ f
  | loc n =>
    obtain ⟨hn, rfl⟩ := r
    unfold exitQ at hq
    simp only at hq
    by_cases hlt : n < N
    · rw [if_pos hlt] at hq
      exact l _ _ _ s' hq xt Rt ⟨by rw [e1]; exact hlt, rfl⟩ trivial
    · rw [if_neg hlt] at hq
      have h0 : s.H (s'.L n) = none := x.lnew n (Nat.le_of_not_lt hlt) hn
      have ne : NL s' (μ'.take N).length (s'.L n) := fun m hm e => by
        rw [e1] at hm
        have := R.dis m n _ (by have := x.le; omega) hn e (R.root n hn)
        omega
      cases hc : μ'[n]? with
      | none => rw [hc] at hq; exact hq.elim
      | some c =>
        rw [hc] at hq
        have C := R.cell n c hc
        cases c with
        | lst xs =>
          obtain ⟨hf, vs, hv, hd⟩ := C
          exact l _ _ _ s' hq xt Rt ⟨s'.L n, vs, rfl, hv, hf, ne, hd⟩ (fun p hp => by cases hp; exact h0)
        | frz xs =>
          obtain ⟨vs, hv, hd⟩ := C
          exact l _ _ _ s' hq xt Rt (.lst hv hd) trivial
        | dct kvs =>
          obtain ⟨hf, ks, hv, hk, hd⟩ := C
          exact l _ _ _ s' hq xt Rt ⟨s'.L n, ks, rfl, hv, hf, ne, hk, hd⟩ (fun p hp => by cases hp; exact h0)
        | dck kvs =>
          obtain ⟨hf, ks, hv, hk, hd⟩ := C
          exact l _ _ _ s' hq xt Rt ⟨s'.L n, ks, rfl, hv, hf, ne, hk, hd⟩ (fun p hp => by cases hp; exact h0)
        | abs P => exact hq.elim
        | tab P nm => exact hq.elim
        | own t => exact hq.elim
        | dead => exact hq.elim
  | per d => exact l _ _ v s' hq xt Rt r trivial
  | newo t =>
    obtain ⟨a1, a2, a3, a4⟩ := r
    exact l _ _ v s' hq xt Rt ⟨a1, a2, a3, fun a ha m hm => a4 a ha m (by rw [e1] at hm; have := x.le; omega)⟩ f
  | «at» n p b =>
    unfold exitQ at hq
    simp only at hq
    by_cases hlt : n < N
    · rw [if_pos hlt] at hq
      exact l _ _ _ s' hq xt Rt r trivial
    · rw [if_neg hlt] at hq
      split at hq
      · rename_i k b' ts hc
        obtain ⟨rfl, hq⟩ := hq
        obtain ⟨t, ht, hp⟩ := nodeAt_ex hc
        have hn := (List.getElem?_eq_some_iff.mp ht).1
        have T := R.tree n _ ht
        obtain ⟨vs, h1, h2, h3⟩ := node_is R hc
        have rv : v = .ref b' := r
        subst rv
        have ow : ∀ a ∈ addrs (.nod k b' ts), s'.O n a := fun a ha => T.own a (addrs_get hp a ha)
        refine l _ _ _ s' hq xt Rt ⟨⟨b', rfl, by rw [addrs_nod]; exact List.mem_cons_self⟩, .nod h1 h2 h3, nodup_get T.nd hp, fun a ha m hm e => ?_⟩ (fun a ha => ?_)
        · rw [e1] at hm
          have := R.dis m n a (by have := x.le; omega) hn e (ow a ha)
          omega
        · rcases x.onew n a hn (ow a ha) with h | ⟨h, _⟩
          · exact h
          · exact absurd h hlt
      · exact hq.elim
theorem exit_ok {K : PySem.W.Frag} {s : Wd} {N : Nat} {q : PQ} {Q : VK} (l : LE K s N q Q) (hN : ∀ n, n < N → s.H (s.L n) ≠ none) : LE K s N (exitQ N q) Q := exit_gen l hN
def startD (N : List Str) (es : List EV) : DEnv := es.map some ++ List.replicate (N.length - es.length) none
theorem er_start {K : PySem.W.Frag} {s : Wd} {M : Nat} {N : List Str} {vs : List V} {es : List EV} (h : VL K s M vs es) : ER K s M (L2.start N vs) (startD N es) := by
  have hl := h.len
  refine ⟨by simp [L2.start, startD, hl], fun i e q => ?_⟩
  unfold startD at q
  by_cases hi : i < es.length
  · rw [List.getElem?_append_left (by simpa using hi), List.getElem?_map] at q
    cases hg : es[i]? with
    | none => rw [hg] at q; cases q
    | some e0 =>
      rw [hg] at q
      cases q
      obtain ⟨v, h1, h2⟩ := h.get hg
      refine ⟨v, ?_, h2⟩
      unfold L2.start
      rw [List.getElem?_append_left (by simp [hl]; exact hi), List.getElem?_map, h1]
      rfl
  · rw [List.getElem?_append_right (by simpa using Nat.le_of_not_lt hi)] at q
    rw [List.getElem?_replicate] at q
    split at q <;> cases q
section
variable {P : Program} {w : World} {K : PySem.W.Frag} {mg : Str → Option Value} {base : Heap}
/-- THE RULE for a def: its body's data reading, and that the contract gives it -/
theorem fd_of {x qual : Str} {st : Stmt} {f : Addr} {fd : FuncData} {N ps : List Str} {k : Nat} {sp : SpD} {td : TDS} (F : Fun K x qual st f fd) (S : FnScope N ps (defScope st))
    (body : ∀ (cdv : Value) (A : Around) (outer : List Env) (s : Shared) (H : Hp) (E : XK), Room k (A.deeper (envOfC qual (defScope st) s.heap.objs.size f cdv)) →
      DSs (cxOf (L2.CX P w) P w K mg base N qual (defScope st) f cdv A outer s H E) (fun cls d _ H => E cls d H) (defBody st) td)
    (h : ∀ (es : List EV) (μ : Mu) (q : PQ) (x : XQ), es.length = ps.length → sp es μ q x → td { nx := fun _ μ' => exitQ μ.length q (.dat .none) μ', rt := exitQ μ.length q } (fun y μ' => x y (μ'.take μ.length)) (startD N es) μ) :
    FnOk P w K mg base (L2.CX P w) (k + 1) f fd ps (spOf K ps.length sp) := by
  refine F.okX S (fun vs H Q E hs => hs.1) fun cdv A outer sh H vs Q E hr hs => ?_
  obtain ⟨hl, s, μ, es, q, x, rfl, R, hv, hsp, l, lx⟩ := hs
  obtain ⟨t, p, g⟩ := (body cdv A outer sh s.H E hr).ex
  have l' := exit_ok l fun n hn => R.here hn
  refine ⟨t, p, g s _ (startD N es) μ _ _ _ ⟨R, er_start hv⟩ (h es μ q x (by rw [← hv.len]; exact hl) hsp) ⟨fun η' μ' σ' s' hq x' S' => ?_, l', fun _ _ _ _ z => z.elim, fun _ _ _ _ z => z.elim, fun y μ' cls dd σ' s' hq x' R' r => ?_⟩⟩
  · exact l' (.dat .none) μ' .non s' hq x' S'.rep .non trivial
  · have e1 : (μ'.take μ.length).length = μ.length := by rw [List.length_take]; have := x'.le; omega
    exact lx y _ cls dd s' hq (by rw [e1]; exact x'.take (Nat.le_refl _) x'.le) (R'.take _) r
end
/-- what stands at a def's name -/
structure DefAt (P : Program) (w : World) (K : PySem.W.Frag) (mg : Str → Option Value) (base : Heap) (x : Str) (k : Nat) (ps : List Str) (dvs : List V) (ds : List Value) (sp : SpD) : Prop where
  ex : ∃ (f : Addr) (fd : FuncData), FnOk P w K mg base (L2.CX P w) k f fd ps (spOf K ps.length sp) ∧ mg x = some (.ref f) ∧ PySem.W.keepIn K (.ref f) = true ∧ Binds K fd ps ds
  dv : Vals dvs ds
section
variable {X : Cx} {W : WX} {x : Str} {p pos : Pos} {k j : Nat} {ps : List Str} {dvs : List V} {ds : List Value} {sp : SpD} {e : Expr} {es : List Expr} {t : TDA}
def allOld : List EV → Bool
  | [] => true
  | e :: es => noNew e && allOld es
/-- f(e, ..), an own def; the defaults des fill up -/
def dCall (n : Nat) (sp : SpD) (des : List EV) (t : TDA) : TDE := fun η μ q E => t η μ (fun es μ1 => allOld es = true ∧ (es ++ des).length = n ∧ sp (es ++ des) μ1 q E) E
theorem de_call {des : List EV} (F : DefAt X.prog X.w X.K X.mg X.base x k ps dvs ds sp) (hr : Room j X.A) (hj : k ≤ j) (hg : Gl X x) (tk : Takes X W) (hn : ∀ (s : Wd) (N : Nat), VL X.K s N dvs des) (ha : DA X W (e :: es) t)
    (hdb : (x == ("__debug__" : Str)) = false := by decide) (he : starEach (e :: es) X.env = (false, eval e X.env) :: starEach es X.env := by rfl) (hpl : (backTo pos (starEach es X.env)).any (·.1) = false := by rfl) :
    DE X W (.Call (.Name x p) (e :: es) [] pos) (dCall ps.length sp des t) := by
  obtain ⟨f, fd, G, hm, hk, hb⟩ := F.ex
  obtain ⟨t1, p1, g1⟩ := ha.ex
  refine de_pe (pe_callSD (E := WE W) G (hr.mono hj) hg hm hk hb F.dv (fun σ => passAt tk σ) p1 hdb he hpl) fun s σ η μ Q q E S hq l lx => g1 s σ η μ _ _ E S hq (fun es' μ1 vs s1 hk1 x1 R1 r1 => ?_) lx
  obtain ⟨ho, hl, hk1⟩ := hk1
  have hv := r1.vl.append (hn s1 μ1.length)
  exact ⟨hv.len.trans hl, s1, μ1, es' ++ des, q, E, rfl, R1, hv, hk1, l.go x1 R1, lx.go x1 R1⟩
end
end DL
set_option Elab.async false
set_option linter.all false
set_option maxRecDepth 100000
set_option maxHeartbeats 4000000
namespace DL
open PySem L2 PyProof.Rows
/-! ### what is read of a value -/
def lstOf (μ : Mu) : EV → Option (List PyData)
  | .dat (.list xs) => some xs
  | .new xs => some xs
  | .loc n => match μ[n]? with
    | some (.lst xs) => some xs
    | some (.frz xs) => some xs
    | _ => none
  | .at n p b => match nodeAt μ n p with
    | some (.nod .lst b' ts) => if b' = b then flatT ts else none
    | _ => none
  | _ => none
def tupOf : EV → Option (List PyData)
  | .dat (.tuple xs) => some xs
  | _ => none
def roOf : EV → Option (List PyData)
  | .ro xs => some xs
  | _ => none
def seqOf (μ : Mu) (e : EV) : Option (List PyData) := match tupOf e with
  | some xs => some xs
  | none => match roOf e with
    | some xs => some xs
    | none => lstOf μ e
def datOf (μ : Mu) : EV → Option PyData
  | .dat d => some d
  | .at n p b => match nodeAt μ n p with
    | some (.nod k b' ts) => if b' = b then datT (.nod k b' ts) else none
    | _ => none
  | e => (lstOf μ e).map .list
section
variable {K : PySem.W.Frag} {s s0 : Wd} {N0 : Nat} {μ : Mu} {v : V} {e : EV}
theorem lst_ok {xs : List PyData} (R : Rep K s μ) (r : VR K s μ.length v e) (h : lstOf μ e = some xs) : ∃ a vs, v = .ref a ∧ s.H a = some (.lst vs) ∧ DRs K s.F vs xs := by
  unfold lstOf at h
  split at h
  · cases h
    have r' : DR K s.F v (.list xs) := r
    cases r' with
    | lst h hs => exact ⟨_, _, rfl, R.sub _ _ h, hs⟩
  · cases h
    obtain ⟨p, vs, a1, a2, a3, a4, a5⟩ := r
    exact ⟨p, vs, a1, a2, a5⟩
  · rename_i n
    obtain ⟨hn, rfl⟩ := r
    cases hc : μ[n]? with
    | none => rw [hc] at h; cases h
    | some c =>
      rw [hc] at h
      have C := R.cell n c hc
      cases c with
      | lst ys => cases h; obtain ⟨_, vs, a1, a2⟩ := C; exact ⟨_, vs, rfl, a1, a2⟩
      | frz ys => cases h; obtain ⟨vs, a1, a2⟩ := C; exact ⟨_, vs, rfl, R.sub _ _ a1, a2⟩
      | dct _ => cases h
      | dck _ => cases h
      | abs _ => cases h
      | tab _ _ => cases h
      | own _ => cases h
      | dead => cases h
  · split at h
    · rename_i hn
      split at h
      · rename_i e1
        subst e1
        obtain ⟨vs, h1, _, h3⟩ := node_is R hn
        exact ⟨_, vs, r, h1, flatT_ok h3 h⟩
      · cases h
    · cases h
  · cases h
theorem tup_ok {xs : List PyData} (R : Rep K s μ) (r : VR K s μ.length v e) (h : tupOf e = some xs) : ∃ a vs, v = .ref a ∧ SqT K s.H a vs ∧ DRs K s.F vs xs := by
  unfold tupOf at h
  split at h
  · cases h
    have r' : DR K s.F v (.tuple xs) := r
    cases r' with
    | tup h hs => exact ⟨_, _, rfl, SqT.of (R.sub _ _ h), hs⟩
  · cases h
theorem seq_ok {xs : List PyData} (R : Rep K s μ) (r : VR K s μ.length v e) (h : seqOf μ e = some xs) : ∃ a vs, v = .ref a ∧ (SqL K s.H a vs ∨ SqT K s.H a vs) ∧ DRs K s.F vs xs := by
  unfold seqOf at h
  split at h
  · rename_i ys hy
    cases h
    obtain ⟨a, vs, h1, h2, h3⟩ := tup_ok R r hy
    exact ⟨a, vs, h1, .inr h2, h3⟩
  · split at h
    · rename_i ys hy
      cases h
      unfold roOf at hy
      split at hy
      · cases hy
        obtain ⟨a, vs, h1, h2, h3⟩ := r
        exact ⟨a, vs, h1, .inl (R.sub.seq h2), h3⟩
      · cases hy
    · obtain ⟨a, vs, h1, h2, h3⟩ := lst_ok R r h
      exact ⟨a, vs, h1, .inl (SqL.of h2), h3⟩
theorem dat_ok {d : PyData} (R : Rep K s μ) (r : VR K s μ.length v e) (h : datOf μ e = some d) (hn : noD d = true) : Dp K s.H v d ∧ d.canLay0 = true := by
  have key : ∀ xs, lstOf μ e = some xs → noDs xs = true → Dp K s.H v (.list xs) ∧ (PyData.list xs).canLay0 = true := fun xs hx hn => by
    obtain ⟨a, vs, rfl, h2, h3⟩ := lst_ok R r hx
    exact ⟨.lst (SqL.of h2) ((h3.mono R.sub).dp hn), by simp [PyData.canLay0, h3.lay hn]⟩
  cases e with
  | dat d' =>
    cases h
    have r' : DR K s.F v d := r
    exact ⟨(r'.mono R.sub).dp hn, r'.lay hn⟩
  | new xs =>
    cases h
    exact key _ rfl (by simpa [noD] using hn)
  | loc n =>
    have h' : (lstOf μ (.loc n)).map PyData.list = some d := h
    cases q : lstOf μ (.loc n) with
    | none => rw [q] at h'; cases h'
    | some xs =>
      rw [q] at h'
      cases h'
      exact key _ q (by simpa [noD] using hn)
  | raw u => cases h
  | exc x => cases h
  | ro x => cases h
  | newd x => cases h
  | newk x => cases h
  | «at» n p b =>
    unfold datOf at h
    simp only at h
    split at h
    · rename_i k b' ts hn'
      split at h
      · rename_i e1
        subst e1
        obtain ⟨t, h1, h2⟩ := nodeAt_ex hn'
        obtain ⟨w, r'⟩ := (R.tree n t h1).is.get h2
        have e2 := r'.node.1
        subst e2
        have er : v = .ref b' := r
        subst er
        exact datT_dp R.sub r' h hn
      · cases h
    · cases h
  | newo _ => cases h
  | per _ => cases h
/-- a new list is answered -/
theorem ans_new {vs : List V} {ds : List PyData} {q : PQ} {Q : VK} {p : Addr} (R : Rep K s μ) (x : Ext s0 N0 s μ.length) (l : LE K s0 N0 q Q) (hq : q (.new ds) μ) (hd : DRs K s.F vs ds) (hp : s.H p = none) : Q (.ref p) (upd s.H p (.lst vs)) :=
  l (.new ds) μ (.ref p) { s with H := upd s.H p (.lst vs) } hq (x.put R hp) (R.put hp) ⟨p, vs, rfl, upd_same, R.notF hp, R.notL hp, hd⟩ (fun y hy => by cases hy; exact x.fresh R hp)
theorem ans_tup {vs : List V} {ds : List PyData} {q : PQ} {Q : VK} {p : Addr} (R : Rep K s μ) (x : Ext s0 N0 s μ.length) (l : LE K s0 N0 q Q) (hq : q (.dat (.tuple ds)) μ) (hd : DRs K s.F vs ds) (hp : s.H p = none) : Q (.ref p) (upd s.H p (.tup vs)) := by
  have kF : Same s.F (upd s.F p (.tup vs)) := fun a u q => by rw [upd_ne (ne_of_none q (R.notF hp))]; exact q
  exact l (.dat (.tuple ds)) μ (.ref p) { s with H := upd s.H p (.tup vs), F := upd s.F p (.tup vs) } hq (x.putF R hp) (R.putF hp) (.tup upd_same (hd.mono kF)) trivial
theorem ans {d : PyData} {q : PQ} {Q : VK} (R : Rep K s μ) (x : Ext s0 N0 s μ.length) (l : LE K s0 N0 q Q) (hq : q (.dat d) μ) (hd : DR K s.F v d) : Q v s.H := l (.dat d) μ v s hq x R hd trivial
end
section
variable {X : Cx}
/-! ### + -/
def oAdd : OD := fun x y μ q => match x, y with
  | .dat (.int i), .dat (.int j) => q (.dat (.int (i + j))) μ
  | .dat (.str a), .dat (.str b) => a.length + b.length ≤ 100000 ∧ q (.dat (.str (a ++ b))) μ
  | .dat (.tuple a), .dat (.tuple b) => a.length + b.length ≤ 100000 ∧ q (.dat (.tuple (a ++ b))) μ
  | x, y => match lstOf μ x, lstOf μ y with
    | some a, some b => a.length + b.length ≤ 100000 ∧ q (.new (a ++ b)) μ
    | _, _ => False
abbrev rAddA (K : PySem.W.Frag) : R2 := fun x y H Q => rI0 (fun i j => V.int (i + j)) x y H Q ∨ ((∃ i j, x = .str i ∧ y = .str j ∧ i.length + j.length ≤ sizeLine ∧ Q (.str (i ++ j)) H) ∨ (rCatA K x y H Q ∨ rCat x y H Q))
theorem opA_add : OpR X (binaryOp .Add) (rAddA X.K) := op_add.or (op_add_str.or (op_catA.or op_cat))
theorem strOk_app {a b : Str} (h1 : PyData.strOk a = true) (h2 : PyData.strOk b = true) : PyData.strOk (a ++ b) = true := by
  unfold PyData.strOk at *
  show (a.cps ++ b.cps).all _ = true
  rw [Array.all_append, h1, h2]
  rfl
theorem os_add {K : PySem.W.Frag} : OpS K (rAddA K) oAdd := by
  intro s0 N0 s μ x y ex ey q Q R xt rx fx ry fy h l
  unfold oAdd at h
  split at h
  · exact .inl ⟨_, _, vr_i rx, vr_i ry, ans R xt l h (.int _)⟩
  · have r1 : DR K s.F x _ := rx
    have r2 : DR K s.F y _ := ry
    cases r1 with
    | str _ h1 =>
      cases r2 with
      | str _ h2 => exact .inr (.inl ⟨_, _, rfl, rfl, line_of h.1, ans R xt l h.2 (.str _ (strOk_app h1 h2))⟩)
  · rename_i a b
    obtain ⟨p, vs, rfl, hp, hv⟩ := tup_ok R rx (e := .dat (.tuple a)) rfl
    obtain ⟨p2, ws, rfl, hp2, hw⟩ := tup_ok R ry (e := .dat (.tuple b)) rfl
    refine .inr (.inr (.inl ⟨_, _, vs, ws, rfl, rfl, hp, hp2, line_of (by rw [hv.length, hw.length]; exact h.1), fun e => ?_, fun _ e => ?_, fun _ _ p3 hp3 => ?_⟩))
    · subst e
      cases hv
      exact ans R xt l h.2 ry
    · subst e
      cases hw
      rw [List.append_nil] at h
      exact ans R xt l h.2 rx
    · exact ans_tup R xt l h.2 (hv.append hw) hp3
  · split at h
    · rename_i a b ha hb
      obtain ⟨p, vs, rfl, hp, hv⟩ := lst_ok R rx ha
      obtain ⟨p2, ws, rfl, hp2, hw⟩ := lst_ok R ry hb
      exact .inr (.inr (.inr ⟨_, _, vs, ws, rfl, rfl, hp, hp2, line_of (by rw [hv.length, hw.length]; exact h.1), fun p3 hp3 => ans_new R xt l h.2 (hv.append hw) hp3⟩))
    · exact h.elim
/-! ### operators of ints -/
def oI (C : Int → Int → Prop) (g : Int → Int → PyData) : OD := fun x y μ q => match x, y with
  | .dat (.int i), .dat (.int j) => C i j ∧ q (.dat (g i j)) μ
  | _, _ => False
theorem os_I {K : PySem.W.Frag} {C : Int → Int → Prop} {g : Int → Int → V} {g' : Int → Int → PyData} (hg : ∀ F i j, DR K F (g i j) (g' i j)) : OpS K (rI C g) (oI C g') := by
  intro s0 N0 s μ x y ex ey q Q R xt rx fx ry fy h l
  unfold oI at h
  split at h
  · exact ⟨_, _, vr_i rx, vr_i ry, h.1, ans R xt l h.2 (hg _ _ _)⟩
  · exact h.elim
def oI0 (g : Int → Int → PyData) : OD := fun x y μ q => match x, y with
  | .dat (.int i), .dat (.int j) => q (.dat (g i j)) μ
  | _, _ => False
theorem os_I0 {K : PySem.W.Frag} {g : Int → Int → V} {g' : Int → Int → PyData} (hg : ∀ F i j, DR K F (g i j) (g' i j)) : OpS K (rI0 g) (oI0 g') := by
  intro s0 N0 s μ x y ex ey q Q R xt rx fx ry fy h l
  unfold oI0 at h
  split at h
  · exact ⟨_, _, vr_i rx, vr_i ry, ans R xt l h (hg _ _ _)⟩
  · exact h.elim
abbrev oSub : OD := oI0 fun i j => .int (i - j)
theorem os_sub {K : PySem.W.Frag} : OpS K (rI0 fun i j => V.int (i - j)) oSub := os_I0 fun _ _ _ => .int _
abbrev oMod : OD := oI (fun _ j => 0 < j) fun i j => .int (i % j)
theorem os_mod {K : PySem.W.Frag} : OpS K (rI (fun _ j => 0 < j) fun i j => V.int (i % j)) oMod := os_I fun _ _ _ => .int _
abbrev oDiv : OD := oI CDiv fun i j => .int (i / j)
theorem os_div {K : PySem.W.Frag} : OpS K (rI CDiv fun i j => V.int (i / j)) oDiv := os_I fun _ _ _ => .int _
abbrev oPow : OD := oI CPow fun i j => .int (i ^ j.toNat)
theorem os_pow {K : PySem.W.Frag} : OpS K (rI CPow fun i j => V.int (i ^ j.toNat)) oPow := os_I fun _ _ _ => .int _
abbrev oShr : OD := oI (fun _ j => 0 ≤ j) fun i j => .int (i / 2 ^ j.toNat)
theorem os_shr {K : PySem.W.Frag} : OpS K (rI (fun _ j => 0 ≤ j) fun i j => V.int (i / 2 ^ j.toNat)) oShr := os_I fun _ _ _ => .int _
abbrev oAnd : OD := oI0 fun i j => .int (Builtin.bitAnd i j)
theorem os_and {K : PySem.W.Frag} : OpS K (rI0 fun i j => V.int (Builtin.bitAnd i j)) oAnd := os_I0 fun _ _ _ => .int _
def oNeg : UD := fun x μ q => match x with
  | .dat (.int i) => q (.dat (.int (-i))) μ
  | _ => False
theorem us_neg {K : PySem.W.Frag} : UnS K (rU fun i => V.int (-i)) oNeg := by
  intro s0 N0 s μ x ex q Q R xt rx fx h l
  unfold oNeg at h
  split at h
  · exact ⟨_, vr_i rx, ans R xt l h (.int _)⟩
  · exact h.elim
/-! ### * -/
def oMul : OD := fun x y μ q => match x, y with
  | .dat (.int i), .dat (.int j) => CMul i j ∧ q (.dat (.int (i * j))) μ
  | .dat (.tuple a), .dat (.int k) => (a ≠ [] ∧ 2 ≤ k ∧ k ≤ 1000 ∧ a.length ≤ 1000) ∧ q (.dat (.tuple (List.replicate k.toNat a).flatten)) μ
  | x, .dat (.int k) => match lstOf μ x with
    | some a => (-1000 ≤ k ∧ k ≤ 1000 ∧ a.length ≤ 1000) ∧ q (.new (List.replicate k.toNat a).flatten) μ
    | none => False
  | _, _ => False
abbrev rMulA (K : PySem.W.Frag) : R2 := fun x y H Q => rI CMul (fun i j => V.int (i * j)) x y H Q ∨ (rRepT K x y H Q ∨ rRep x y H Q)
theorem opA_mul : OpR X (binaryOp .Mult) (rMulA X.K) := op_mul.or (op_repT.or op_rep)
theorem DRs.rep {K : PySem.W.Frag} {F : Hp} {vs : List V} {ds : List PyData} (h : DRs K F vs ds) : ∀ k : Nat, DRs K F (List.replicate k vs).flatten (List.replicate k ds).flatten
  | 0 => .nil
  | k + 1 => by
    rw [List.replicate_succ, List.replicate_succ, List.flatten_cons, List.flatten_cons]
    exact h.append (h.rep k)
theorem os_mul {K : PySem.W.Frag} : OpS K (rMulA K) oMul := by
  intro s0 N0 s μ x y ex ey q Q R xt rx fx ry fy h l
  unfold oMul at h
  split at h
  · exact .inl ⟨_, _, vr_i rx, vr_i ry, h.1, ans R xt l h.2 (.int _)⟩
  · rename_i a k
    obtain ⟨p, vs, rfl, hp, hv⟩ := tup_ok R rx (e := .dat (.tuple a)) rfl
    obtain ⟨⟨h1, h2, h3, h4⟩, h⟩ := h
    exact .inr (.inl ⟨_, _, vs, rfl, vr_i ry, hp, fun e => h1 (by subst e; cases hv; rfl), h2, h3, by rw [hv.length]; exact h4, fun p3 hp3 => ans_tup R xt l h (hv.rep _) hp3⟩)
  · rename_i k _ _
    split at h
    · rename_i a ha
      obtain ⟨p, vs, rfl, hp, hv⟩ := lst_ok R rx ha
      obtain ⟨⟨h1, h2, h4⟩, h⟩ := h
      refine .inr (.inr ⟨_, _, vs, rfl, vr_i ry, hp, by omega, by omega, Nat.le_trans ?_ (show 1000 * 1000 ≤ sizeLine by decide), fun p3 hp3 => ans_new R xt l h (hv.rep _) hp3⟩)
      rw [hv.length]
      have : k.toNat ≤ 1000 := by omega
      exact Nat.mul_le_mul h4 this
    · exact h.elim
  · exact h.elim
/-! ### comparisons -/
def oEq : OD := fun x y μ q => match datOf μ x, datOf μ y with
  | some d, some e => (noD d = true ∧ noD e = true) ∧ min d.depth e.depth ≤ 64 ∧ q (.dat (.bool (PyData.eqv d e))) μ
  | _, _ => False
def oNe : OD := fun x y μ q => match datOf μ x, datOf μ y with
  | some d, some e => (noD d = true ∧ noD e = true) ∧ min d.depth e.depth ≤ 64 ∧ q (.dat (.bool (!PyData.eqv d e))) μ
  | _, _ => False
abbrev rEqR (K : PySem.W.Frag) : R2 := fun x y H Q => ∃ d e, Dp K H x d ∧ Dp K H y e ∧ d.canLay0 = true ∧ e.canLay0 = true ∧ min d.depth e.depth ≤ 64 ∧ Q (.bl (PyData.eqv d e)) H
abbrev rNeR (K : PySem.W.Frag) : R2 := fun x y H Q => ∃ d e, Dp K H x d ∧ Dp K H y e ∧ d.canLay0 = true ∧ e.canLay0 = true ∧ min d.depth e.depth ≤ 64 ∧ Q (.bl (!PyData.eqv d e)) H
theorem opA_eq (hu : X.A.units + 64 < cLine) : OpR X (compareOp .Eq) (rEqR X.K) := by
  intro pins s σ H x y v u Q I rx ry h
  obtain ⟨d, e, hd, he, sd, se, hm, q⟩ := h
  obtain ⟨as, r1⟩ := Dp.reads I d x v hd rx
  obtain ⟨bs, r2⟩ := Dp.reads I e y u he ry
  exact SeqAt.compareEq_reads r1 r2 sd se (by omega) ⟨.bl _, H, I, rfl, q⟩
theorem opA_ne (hu : X.A.units + 64 < cLine) : OpR X (compareOp .NotEq) (rNeR X.K) := by
  intro pins s σ H x y v u Q I rx ry h
  obtain ⟨d, e, hd, he, sd, se, hm, q⟩ := h
  obtain ⟨as, r1⟩ := Dp.reads I d x v hd rx
  obtain ⟨bs, r2⟩ := Dp.reads I e y u he ry
  exact SeqAt.compareNe_reads r1 r2 sd se (by omega) ⟨.bl _, H, I, rfl, q⟩
theorem os_eq {K : PySem.W.Frag} : OpS K (rEqR K) oEq := by
  intro s0 N0 s μ x y ex ey q Q R xt rx fx ry fy h l
  unfold oEq at h
  split at h
  · rename_i d e hd he
    obtain ⟨⟨n1, n2⟩, h⟩ := h
    obtain ⟨a1, a2⟩ := dat_ok R rx hd n1
    obtain ⟨b1, b2⟩ := dat_ok R ry he n2
    exact ⟨d, e, a1, b1, a2, b2, h.1, ans R xt l h.2 (.bl _)⟩
  · exact h.elim
theorem os_ne {K : PySem.W.Frag} : OpS K (rNeR K) oNe := by
  intro s0 N0 s μ x y ex ey q Q R xt rx fx ry fy h l
  unfold oNe at h
  split at h
  · rename_i d e hd he
    obtain ⟨⟨n1, n2⟩, h⟩ := h
    obtain ⟨a1, a2⟩ := dat_ok R rx hd n1
    obtain ⟨b1, b2⟩ := dat_ok R ry he n2
    exact ⟨d, e, a1, b1, a2, b2, h.1, ans R xt l h.2 (.bl _)⟩
  · exact h.elim
abbrev oLt : OD := oI0 fun i j => .bool (decide (i < j))
theorem os_lt {K : PySem.W.Frag} : OpS K (rI0 fun i j => V.bl (decide (i < j))) oLt := os_I0 fun _ _ _ => .bl _
abbrev oLe : OD := oI0 fun i j => .bool (decide (i ≤ j))
theorem os_le {K : PySem.W.Frag} : OpS K (rI0 fun i j => V.bl (decide (i ≤ j))) oLe := os_I0 fun _ _ _ => .bl _
abbrev oGt : OD := oI0 fun i j => .bool (decide (j < i))
theorem os_gt {K : PySem.W.Frag} : OpS K (rI0 fun i j => V.bl (decide (j < i))) oGt := os_I0 fun _ _ _ => .bl _
/-- is None -/
def isNon : EV → Bool
  | .dat .none => true
  | _ => false
def isRaw : EV → Bool
  | .raw _ => true
  | .per _ => true
  | _ => false
def oIsN : OD := fun x y μ q => isRaw x = false ∧ isNon y = true ∧ q (.dat (.bool (isNon x))) μ
theorem non_iff {K : PySem.W.Frag} {s : Wd} {μ : Mu} {v : V} {e : EV} (r : VR K s μ.length v e) (h : isRaw e = false) : decide (v = .non) = isNon e := by
  cases e with
  | dat d =>
    have r' : DR K s.F v d := r
    cases r' <;> rfl
  | loc n => obtain ⟨_, rfl⟩ := r; rfl
  | new xs => obtain ⟨p, vs, rfl, _⟩ := r; rfl
  | raw u => cases h
  | exc x => obtain ⟨a, _, rfl, _⟩ := r; rfl
  | ro x => obtain ⟨a, vs, rfl, _⟩ := r; rfl
  | newd x => obtain ⟨a, vs, rfl, _⟩ := r; rfl
  | newk x => obtain ⟨a, vs, rfl, _⟩ := r; rfl
  | «at» _ _ _ => cases r; rfl
  | newo _ => obtain ⟨⟨p, rfl, _⟩, _⟩ := r; rfl
  | per _ => cases h
theorem isNon_ok {K : PySem.W.Frag} {s : Wd} {μ : Mu} {v : V} {e : EV} (r : VR K s μ.length v e) (h : isNon e = true) : v = .non := by
  unfold isNon at h
  split at h
  · exact vr_n r
  · cases h
theorem os_isN {K : PySem.W.Frag} : OpS K (fun x y H Q => y = .non ∧ Q (.bl (decide (x = .non))) H) oIsN := by
  intro s0 N0 s μ x y ex ey q Q R xt rx fx ry fy h l
  obtain ⟨h1, h2, h3⟩ := h
  refine ⟨isNon_ok ry h2, ?_⟩
  rw [non_iff rx h1]
  exact ans R xt l h3 (.bl _)
/-! ### subscripts, slices -/
def oIx : OD := fun x y μ q => match y with
  | .dat (.int i) => match x with
    | .dat (.str z) => z.length ≤ 100000 ∧ ∃ c, atI z.cps.toList i = some c ∧ q (.dat (.str ⟨#[c]⟩)) μ
    | x => match seqOf μ x with
      | some ds => ∃ d, atI ds i = some d ∧ q (.dat d) μ
      | none => False
  | _ => False
theorem atI_len {α β : Type} {xs : List α} {ys : List β} (h : xs.length = ys.length) {i : Int} {y : β} (e : atI ys i = some y) : ∃ j, ixN xs.length i = some j ∧ ys[j]? = some y := by
  unfold atI at e
  rw [h]
  cases q : ixN ys.length i with
  | none => rw [q] at e; cases e
  | some j => rw [q] at e; exact ⟨j, rfl, e⟩
theorem DRs.atI {K : PySem.W.Frag} {F : Hp} {vs : List V} {ds : List PyData} {i : Int} {d : PyData} (h : DRs K F vs ds) (e : L2.atI ds i = some d) : ∃ v, L2.atI vs i = some v ∧ DR K F v d := by
  obtain ⟨j, h1, h2⟩ := atI_len h.length e
  obtain ⟨v, h3, h4⟩ := h.get h2
  refine ⟨v, ?_, h4⟩
  unfold L2.atI
  rw [h1]
  exact h3
theorem strOk_at {z : Str} {c : Nat} (h : PyData.strOk z = true) (hc : c ∈ z.cps.toList) : PyData.strOk ⟨#[c]⟩ = true := by
  unfold PyData.strOk at *
  rw [Array.all_eq_true_iff_forall_mem] at h
  have := h c (by simpa using hc)
  simpa using this
theorem atI_mem {α : Type} {xs : List α} {i : Int} {c : α} (h : L2.atI xs i = some c) : c ∈ xs := by
  unfold L2.atI at h
  cases q : ixN xs.length i with
  | none => rw [q] at h; cases h
  | some j => rw [q] at h; exact List.mem_of_getElem? h
theorem os_ix {K : PySem.W.Frag} : OpS K (rIx K) oIx := by
  intro s0 N0 s μ x y ex ey q Q R xt rx fx ry fy h l
  unfold oIx at h
  split at h
  · split at h
    · obtain ⟨hz, c, hc, h⟩ := h
      have r1 : DR K s.F x _ := rx
      cases r1 with
      | str _ h1 => exact .inr (.inr ⟨_, _, c, rfl, vr_i ry, line_of hz, hc, ans R xt l h (.str _ (strOk_at h1 (atI_mem hc)))⟩)
    · split at h
      · rename_i ds hds
        obtain ⟨d, hd, h⟩ := h
        obtain ⟨a, vs, rfl, hs, hv⟩ := seq_ok R rx hds
        obtain ⟨v, h1, h2⟩ := hv.atI hd
        rcases hs with hs | hs
        · exact .inl ⟨_, vs, _, v, rfl, vr_i ry, hs, h1, ans R xt l h h2⟩
        · exact .inr (.inl ⟨_, vs, _, v, rfl, vr_i ry, hs, h1, ans R xt l h h2⟩)
      · exact h.elim
  · exact h.elim
def cutD (ds : List PyData) (lo hi : Option Int) : List PyData := (ds.drop (HT.sIx ds.length 0 lo)).take (HT.sIx ds.length ds.length hi - HT.sIx ds.length 0 lo)
theorem DRs.cut {K : PySem.W.Frag} {F : Hp} {vs : List V} {ds : List PyData} (h : DRs K F vs ds) (lo hi : Option Int) : DRs K F (cutV vs lo hi) (cutD ds lo hi) := by
  unfold cutV cutD
  rw [h.length]
  exact (h.drop _).take _
abbrev rSlAny (K : PySem.W.Frag) : V → Option Int → Option Int → Hp → VK → Prop := fun x lo hi H Q => rSlL K x lo hi H Q ∨ (rSlA K x lo hi H Q ∨ rSlS x lo hi H Q)
theorem slA : SlR X (rSlAny X.K) := sl_list.or (sl_tupA.or sl_str)
def oSl : SD := fun x lo hi μ q => match x with
  | .dat (.str z) => z.length ≤ 100000 ∧ q (.dat (.str (cutS z lo hi))) μ
  | .dat (.tuple ds) => q (.dat (.tuple (cutD ds lo hi))) μ
  | .ro ds => q (.new (cutD ds lo hi)) μ
  | x => match lstOf μ x with
    | some ds => q (.new (cutD ds lo hi)) μ
    | none => False
theorem cutD_whole {ds : List PyData} {lo hi : Option Int} (h1 : HT.sIx ds.length 0 lo = 0) (h2 : HT.sIx ds.length ds.length hi = ds.length) : cutD ds lo hi = ds := by
  unfold cutD
  rw [h1, h2]
  simp
theorem strOk_cut {z : Str} {lo hi : Option Int} (h : PyData.strOk z = true) : PyData.strOk (cutS z lo hi) = true := by
  unfold PyData.strOk cutS at *
  rw [Array.all_eq_true_iff_forall_mem] at *
  intro c hc
  refine h c ?_
  have h1 : c ∈ (z.cps.toList.drop (HT.sIx z.length 0 lo)).take (HT.sIx z.length z.length hi - HT.sIx z.length 0 lo) := by simpa using hc
  exact Array.mem_toList_iff.mp (List.mem_of_mem_drop (List.mem_of_mem_take h1))
theorem os_sl {K : PySem.W.Frag} : SlS K (rSlAny K) oSl := by
  intro s0 N0 s μ x ex lo hi q Q R xt rx fx h l
  unfold oSl at h
  split at h
  · have r1 : DR K s.F x _ := rx
    cases r1 with
    | str _ h1 => exact .inr (.inr ⟨_, rfl, line_of h.1, ans R xt l h.2 (.str _ (strOk_cut h1))⟩)
  · rename_i ds
    obtain ⟨p, vs, rfl, hp, hv⟩ := tup_ok R rx (e := .dat (.tuple ds)) rfl
    refine .inr (.inl ⟨p, vs, rfl, hp, fun e => ?_, fun _ p3 hp3 => ans_tup R xt l h (hv.cut lo hi) hp3⟩)
    rw [hv.length] at e
    rw [cutD_whole e.1 e.2] at h
    exact ans R xt l h rx
  · obtain ⟨p, vs, rfl, hp, hv⟩ := rx
    exact .inl ⟨p, vs, rfl, R.sub.seq hp, fun p3 hp3 => ans_new R xt l h (hv.cut lo hi) hp3⟩
  · split at h
    · rename_i ds hds
      obtain ⟨p, vs, rfl, hp, hv⟩ := lst_ok R rx hds
      exact .inl ⟨p, vs, rfl, SqL.of hp, fun p3 hp3 => ans_new R xt l h (hv.cut lo hi) hp3⟩
    · exact h.elim
/-! ### built-ins -/
/-- len -/
def oLen : CD := fun es μ q => match es with
  | [.dat (.str z)] => z.length ≤ 100000 ∧ q (.dat (.int z.length)) μ
  | [e] => match seqOf μ e with
    | some ds => q (.dat (.int ds.length)) μ
    | none => False
  | _ => False
theorem cs_len {K : PySem.W.Frag} : CallS K (fun xs H Q => ∃ x n, xs = [x] ∧ LenV K x H n ∧ Q (.int n) H) oLen := by
  intro s0 N0 s μ xs es q Q R xt r h l
  unfold oLen at h
  split at h
  · cases r with
    | cons rx fx rr =>
      cases rr
      exact ⟨_, _, rfl, by rw [vr_s rx]; exact ⟨line_of h.1, rfl⟩, ans R xt l h.2 (.int _)⟩
  · cases r with
    | cons rx fx rr =>
      cases rr
      split at h
      · rename_i ds hds
        obtain ⟨a, vs, rfl, hs, hv⟩ := seq_ok R rx hds
        refine ⟨_, ds.length, rfl, ?_, ans R xt l h (.int _)⟩
        rcases hs with hs | hs
        · exact .inl ⟨vs, hs, hv.length.symm⟩
        · exact .inr ⟨vs, hs, hv.length.symm⟩
      · exact h.elim
  · exact h.elim
/-- list(x), tuple(x) of a list or a tuple -/
def oList : CD := fun es μ q => match es with
  | [e] => match seqOf μ e with
    | some ds => q (.new ds) μ
    | none => False
  | _ => False
theorem cs_list {K : PySem.W.Frag} : CallS K (fun xs H Q => ∃ p ys, xs = [.ref p] ∧ (SqL K H p ys ∨ SqT K H p ys) ∧ ∀ l, H l = none → Q (.ref l) (upd H l (.lst ys))) oList := by
  intro s0 N0 s μ xs es q Q R xt r h l
  unfold oList at h
  split at h
  · cases r with
    | cons rx fx rr =>
      cases rr
      split at h
      · rename_i ds hds
        obtain ⟨a, vs, rfl, hs, hv⟩ := seq_ok R rx hds
        exact ⟨a, vs, rfl, hs, fun p hp => ans_new R xt l h hv hp⟩
      · exact h.elim
  · exact h.elim
def oTuple : CD := fun es μ q => match es with
  | [e] => match seqOf μ e with
    | some ds => q (.dat (.tuple ds)) μ
    | none => False
  | _ => False
theorem cs_tuple {K : PySem.W.Frag} : CallS K (fun xs H Q => ∃ p ys, xs = [.ref p] ∧ ((SqL K H p ys ∧ ∀ l, H l = none → Q (.ref l) (upd H l (.tup ys))) ∨ (SqT K H p ys ∧ Q (.ref p) H))) oTuple := by
  intro s0 N0 s μ xs es q Q R xt r h l
  unfold oTuple at h
  split at h
  · rename_i e
    cases r with
    | cons rx fx rr =>
      cases rr
      unfold seqOf at h
      cases ht : tupOf e with
      | some ds =>
        rw [ht] at h
        obtain ⟨a, vs, rfl, hs, hv⟩ := tup_ok R rx ht
        have : e = .dat (.tuple ds) := by
          unfold tupOf at ht
          split at ht
          · cases ht; rfl
          · cases ht
        subst this
        exact ⟨a, vs, rfl, .inr ⟨hs, ans R xt l h rx⟩⟩
      | none =>
        rw [ht] at h
        cases hr : roOf e with
        | some ds =>
          rw [hr] at h
          cases e with
          | ro ys =>
            cases hr
            obtain ⟨a, vs, rfl, hs, hv⟩ := rx
            exact ⟨a, vs, rfl, .inl ⟨R.sub.seq hs, fun p hp => ans_tup R xt l h hv hp⟩⟩
          | _ => cases hr
        | none =>
        rw [hr] at h
        cases hl : lstOf μ e with
        | none => rw [hl] at h; exact h.elim
        | some ds =>
          rw [hl] at h
          obtain ⟨a, vs, rfl, hs, hv⟩ := lst_ok R rx hl
          exact ⟨a, vs, rfl, .inl ⟨SqL.of hs, fun p hp => ans_tup R xt l h hv hp⟩⟩
  · exact h.elim
/-- max, min of two -/
def oMax2 : CD := fun es μ q => match es with
  | [.dat (.int i), .dat (.int j)] => q (.dat (.int (if j > i then j else i))) μ
  | _ => False
def oMin2 : CD := fun es μ q => match es with
  | [.dat (.int i), .dat (.int j)] => q (.dat (.int (if j < i then j else i))) μ
  | _ => False
theorem cs_max2 {K : PySem.W.Frag} : CallS K (fun xs H Q => ∃ i j, xs = [.int i, .int j] ∧ Q (.int (if j > i then j else i)) H) oMax2 := by
  intro s0 N0 s μ xs es q Q R xt r h l
  unfold oMax2 at h
  split at h
  · cases r with
    | cons rx fx rr =>
      cases rr with
      | cons ry fy rr =>
        cases rr
        exact ⟨_, _, by rw [vr_i rx, vr_i ry], ans R xt l h (.int _)⟩
  · exact h.elim
theorem cs_min2 {K : PySem.W.Frag} : CallS K (fun xs H Q => ∃ i j, xs = [.int i, .int j] ∧ Q (.int (if j < i then j else i)) H) oMin2 := by
  intro s0 N0 s μ xs es q Q R xt r h l
  unfold oMin2 at h
  split at h
  · cases r with
    | cons rx fx rr =>
      cases rr with
      | cons ry fy rr =>
        cases rr
        exact ⟨_, _, by rw [vr_i rx, vr_i ry], ans R xt l h (.int _)⟩
  · exact h.elim
/-- sum of ints -/
def intsOf : List PyData → Option (List Int)
  | [] => some []
  | .int b :: r => (intsOf r).map (b :: ·)
  | _ :: _ => none
theorem ints_map (bs : List Int) : intsOf (bs.map .int) = some bs := by
  induction bs with
  | nil => rfl
  | cons b r ih => show (intsOf (r.map .int)).map _ = _; rw [ih]; rfl
theorem ints_ok {K : PySem.W.Frag} {F : Hp} : ∀ {vs : List V} {ds : List PyData} {bs : List Int}, DRs K F vs ds → intsOf ds = some bs → vs = bs.map V.int
  | _, _, _, .nil, h => by cases h; rfl
  | _, _, _, .cons (ds := ds) r rs, h => by
    cases r with
    | int b =>
      unfold intsOf at h
      cases q : intsOf ds with
      | none => rw [q] at h; cases h
      | some cs =>
        rw [q] at h
        cases h
        rw [ints_ok rs q]
        rfl
    | _ => cases h
def oSum : CD := fun es μ q => match es with
  | [e] => match lstOf μ e with
    | some ds => match intsOf ds with
      | some bs => q (.dat (.int bs.sum)) μ
      | none => False
    | none => False
  | _ => False
theorem cs_sum {K : PySem.W.Frag} : CallS K (rSum K) oSum := by
  intro s0 N0 s μ xs es q Q R xt r h l
  unfold oSum at h
  split at h
  · cases r with
    | cons rx fx rr =>
      cases rr
      split at h
      · rename_i ds hds
        split at h
        · rename_i bs hbs
          obtain ⟨a, vs, rfl, hs, hv⟩ := lst_ok R rx hds
          obtain rfl := ints_ok hv hbs
          exact ⟨a, bs, rfl, SqL.of hs, ans R xt l h (.int _)⟩
        · exact h.elim
      · exact h.elim
  · exact h.elim
/-- isinstance with a built-in class -/
def tyOf : PyData → String
  | .none => "NoneType"
  | .bool _ => "bool"
  | .int _ => "int"
  | .str _ => "str"
  | .list _ => "list"
  | .tuple _ => "tuple"
  | .dict _ => "dict"
def tyK : Knd → String
  | .lst => "list"
  | .tup => "tuple"
  | .dck _ => "dict"
  | .dct _ => "dict"
  | .ins _ _ => ""
  | .gho => ""
def tyE (μ : Mu) : EV → String
  | .dat d => tyOf d
  | .new _ => "list"
  | .newd _ => "dict"
  | .newk _ => "dict"
  | .loc n => match μ[n]? with
    | some (.lst _) => "list"
    | some (.frz _) => "list"
    | some (.dct _) => "dict"
    | some (.dck _) => "dict"
    | _ => ""
  | .at n p b => match nodeAt μ n p with
    | some (.nod k b' _) => if b' = b then tyK k else ""
    | _ => ""
  | _ => ""
def isT (a b : String) : Bool := a == b || (a == "bool" && b == "int")
def oIsi : CD := fun es μ q => match es with
  | [e, .raw (.ty b)] => (tyE μ e ∈ ["NoneType", "bool", "int", "str", "list", "tuple", "dict"] ∧ b ∈ ["bool", "int", "str", "list", "tuple", "dict"]) ∧ q (.dat (.bool (isT (tyE μ e) b))) μ
  | _ => False
/-- a value's class; a locked dict too -/
def TyY (K : PySem.W.Frag) (H : Hp) (x : V) (t : Value) : Prop := TyX K H x t ∨ ∃ (a : Addr) (o : Obj) (kvs : List (List Key × V)), x = .ref a ∧ H a = some (.frz o (.dT kvs)) ∧ t = .type "dict"
def rIsiY (K : PySem.W.Frag) : List V → Hp → VK → Prop := fun xs H Q => ∃ (x c : V) (t u : Value) (b : Bool), xs = [x, c] ∧ ClsV c u ∧ TyY K H x t ∧ PySem.W.kitOne K t u = some b ∧ Q (.bl b) H
theorem call_isiY {X : Cx} : CallR X (.builtin "isinstance") (rIsiY X.K) := by
  intro pins s σ H xs us Q I r h
  obtain ⟨x, c, t, u, b, rfl, k, ty, e, q⟩ := h
  rcases ty with ty | ⟨a, ob, kvs, rfl, ea, rfl⟩
  · exact call_isi pins s σ H _ us Q I r ⟨x, c, t, u, b, rfl, k, ty, e, q⟩
  · obtain ⟨u1, u2, rfl, r1, r2⟩ := vals2 r
    have e2 := k.eq r2
    subst e2
    cases (show u1 = Value.ref a from r1)
    obtain ⟨_, _, _, xs, _, o, es, ep, h1, h2, _⟩ := (show ObjOk X.prog X.w H s.heap a (.frz ob (.dT kvs)) from I.hok a _ ea)
    exact PySem.W.kia_one PySem.W.kitx_dict I.kIn (show ∃ o, _ from ⟨o, h1, h2.1⟩) e (fun z => nomatch z) fun tk => ⟨.bl b, H, I.tok tk, rfl, q⟩
theorem ty_ok {K : PySem.W.Frag} {s : Wd} {μ : Mu} {v : V} {e : EV} (R : Rep K s μ) (r : VR K s μ.length v e) (h : tyE μ e ∈ ["NoneType", "bool", "int", "str", "list", "tuple", "dict"]) : TyY K s.H v (.type (tyE μ e)) := by
  cases e with
  | dat d =>
    have r' : DR K s.F v d := r
    cases r' with
    | non => exact .inl (.base .non)
    | bl b => exact .inl (.base (.bl b))
    | int i => exact .inl (.base (.int i))
    | str x _ => exact .inl (.base (.str x))
    | lst h1 _ => exact .inl (.base (.lst (R.sub _ _ h1)))
    | tup h1 _ => exact .inl (.base (.tup (R.sub _ _ h1)))
    | dcT h1 _ _ _ => exact .inr ⟨_, _, _, rfl, R.sub _ _ h1, rfl⟩
    | dcK h1 _ _ _ _ => exact .inl (.fDict (R.sub _ _ h1))
  | new xs => obtain ⟨p, vs, rfl, a2, _⟩ := r; exact .inl (.base (.lst a2))
  | loc n =>
    obtain ⟨hn, rfl⟩ := r
    unfold tyE at h ⊢
    simp only at h ⊢
    cases hc : μ[n]? with
    | none => rw [hc] at h; simp at h
    | some c =>
      rw [hc] at h
      have C := R.cell n c hc
      cases c with
      | lst xs => obtain ⟨_, vs, a2, _⟩ := C; exact .inl (.base (.lst a2))
      | frz xs => obtain ⟨vs, a2, _⟩ := C; exact .inl (.base (.lst (R.sub _ _ a2)))
      | dct kvs =>
        obtain ⟨_, ks, a2, _⟩ := C
        exact .inl (.base (.dT a2))
      | dck kvs =>
        obtain ⟨_, ks, a2, _⟩ := C
        exact .inl (.base (.dK a2))
      | abs _ => simp at h
      | tab _ _ => simp at h
      | own _ => simp at h
      | dead => simp at h
  | raw u => simp [tyE] at h
  | exc x => simp [tyE] at h
  | ro x => simp [tyE] at h
  | newd x => obtain ⟨p, vs, rfl, a2, _⟩ := r; exact .inl (.base (.dT a2))
  | newk x => obtain ⟨p, vs, rfl, a2, _⟩ := r; exact .inl (.base (.dK a2))
  | «at» n p b =>
    unfold tyE at h ⊢
    simp only at h ⊢
    split at h
    · rename_i k b' ts hn
      split at h
      · rename_i e1
        subst e1
        obtain ⟨vs, h1, _, _⟩ := node_is R hn
        have rv : v = .ref b' := r
        subst rv
        rw [if_pos rfl]
        cases k with
        | lst => exact .inl (.base (.lst h1))
        | tup => exact .inl (.base (.tup h1))
        | dck ks => exact .inl (.base (.dK h1.1))
        | dct ks => exact .inl (.base (.dT h1.1))
        | ins C fs => simp [tyK] at h
        | gho => simp [tyK] at h
      · simp at h
    · simp at h
  | newo _ => simp [tyE] at h
  | per _ => simp [tyE] at h
theorem kit_all : ∀ a ∈ ["NoneType", "bool", "int", "str", "list", "tuple", "dict"], ∀ b ∈ ["bool", "int", "str", "list", "tuple", "dict"], kitB a b = some (isT a b) := by decide +kernel
theorem cs_isi {K : PySem.W.Frag} : CallS K (rIsiY K) oIsi := by
  intro s0 N0 s μ xs es q Q R xt r h l
  unfold oIsi at h
  split at h
  · rename_i e b
    cases r with
    | cons rx fx rr =>
      cases rr with
      | cons ry fy rr =>
        cases rr
        have ry' : _ = V.ty b := ry
        subst ry'
        exact ⟨_, _, _, _, _, rfl, .ty b, ty_ok R rx h.1.1, kit_ty (kit_all _ h.1.1 _ h.1.2), ans R xt l h.2 (.bl _)⟩
  · exact h.elim
/-! ### what is walked -/
theorem walkL {K : PySem.W.Frag} {s0 : Wd} {N0 : Nat} {a : Addr} {xs : List PyData} {G : Mu → Prop} (hd : ∀ s μ, Ext s0 N0 s μ.length → Rep K s μ → G μ → ∃ vs, SqL K s.H a vs ∧ DRs K s.F vs xs) : WalkS K (Itl K a) s0 N0 (xs.map .dat) G := by
  intro n s μ x R g
  obtain ⟨vs, h1, h2⟩ := hd s μ x R g
  have hl := h2.length
  refine ⟨fun hn => ?_, ⟨vs, h1, by simp [hl]⟩, fun v H' hn hy => ?_⟩
  · have hn' : n < vs.length := by simpa [hl] using hn
    exact ⟨vs, vs[n], h1, by simp [hn']⟩
  · obtain ⟨e1, e2⟩ := hy
    obtain ⟨d, h3, h4⟩ := h2.getV (e2 vs h1)
    exact ⟨s, .dat d, e1.symm, by rw [List.getElem?_map, h3]; rfl, rfl, Ext.refl _ _, R, h4⟩
theorem walkT {K : PySem.W.Frag} {s0 : Wd} {N0 : Nat} {a : Addr} {vs : List V} {xs : List PyData} {G : Mu → Prop} (hd : ∀ s μ, Ext s0 N0 s μ.length → Rep K s μ → G μ → SqT K s.H a vs ∧ DRs K s.F vs xs) : WalkS K (Itt K a) s0 N0 (xs.map .dat) G := by
  intro n s μ x R g
  obtain ⟨h1, h2⟩ := hd s μ x R g
  have hl := h2.length
  refine ⟨fun hn => ?_, ⟨vs, h1, by simp [hl]⟩, fun v H' hn hy => ?_⟩
  · have hn' : n < vs.length := by simpa [hl] using hn
    exact ⟨vs, vs[n], h1, by simp [hn']⟩
  · obtain ⟨e1, e2⟩ := hy
    obtain ⟨d, h3, h4⟩ := h2.getV (e2 vs h1)
    exact ⟨s, .dat d, e1.symm, by rw [List.getElem?_map, h3]; rfl, rfl, Ext.refl _ _, R, h4⟩
theorem walkZ {K : PySem.W.Frag} {s0 : Wd} {N0 : Nat} {z : Str} {F : Hp} {v0 : V} (r0 : DR K F v0 (.str z)) {G : Mu → Prop} : WalkS K (Its z) s0 N0 (z.cps.toList.map fun c => .dat (.str ⟨#[c]⟩)) G := by
  have hz : PyData.strOk z = true := by cases r0; assumption
  intro n s μ x R g
  refine ⟨fun hn => (by simpa using hn : n < z.cps.size), ?_, fun v H' hn hy => ?_⟩
  · show z.cps.size ≤ _
    simp
  · obtain ⟨e1, c, hc, rfl⟩ := hy
    have hc' : z.cps.toList[n]? = some c := by simpa using hc
    refine ⟨s, .dat (.str ⟨#[c]⟩), e1.symm, by rw [List.getElem?_map, hc']; rfl, rfl, Ext.refl _ _, R, .str _ (strOk_at hz (List.mem_of_getElem? hc'))⟩
end
end DL
set_option Elab.async false
set_option linter.all false
set_option maxRecDepth 100000
set_option maxHeartbeats 4000000
namespace DL
open PySem L2 PyProof.Rows
/-! ### range -/
def rngItems (lo : Int) (n : Nat) : List EV := (List.range n).map fun k => .dat (.int (lo + (k : Nat)))
theorem walkR {K : PySem.W.Frag} {s0 : Wd} {N0 : Nat} {lo : Int} {n : Nat} {G : Mu → Prop} : WalkS K (Itr lo n) s0 N0 (rngItems lo n) G := by
  intro m s μ x R g
  refine ⟨fun hn => (by simpa [rngItems] using hn : m < n), ?_, fun v H' hn hy => ?_⟩
  · show n ≤ _
    simp [rngItems]
  · obtain ⟨e1, rfl⟩ := hy
    have hn' : m < n := by simpa [rngItems] using hn
    refine ⟨s, .dat (.int (lo + (m : Nat))), e1.symm, by simp [rngItems, hn'], rfl, Ext.refl _ _, R, .int _⟩
def iRange1 (t : TDA) : TDI := fun η μ r E => t η μ (fun es μ1 => match es with
  | [.dat (.int j)] => (-1000000 ≤ j ∧ j ≤ 1000000) ∧ r (rngItems 0 j.toNat) (fun _ => True) μ1
  | _ => False) E
section
variable {X : Cx} {W : WX} {tg a b : Expr} {t : TDA} {p pos : Pos}
theorem di_range1 (hg : Gl X "range") (hm : X.mg "range" = none) (ha : DA X W [a] t) (hs : starEach [a] X.env = [(false, eval a X.env)] := by rfl) : DI X W tg (.Call (.Name "range" p) [a] [] pos) (iRange1 t) := by
  obtain ⟨t1, p1, g1⟩ := ha.ex
  refine ⟨_, pi_range1 hg hm p1 hs, fun s σ η μ R r E S hq l lx => g1 s σ η μ _ _ E S hq (fun es μ1 vs s1 hk x1 R1 rv => ?_) lx⟩
  split at hk
  · cases rv with
    | cons rx fx rr =>
      cases rr
      obtain ⟨⟨h1, h2⟩, hk⟩ := hk
      exact ⟨_, by rw [vr_i rx], by omega, by omega, l _ _ _ μ1 s1 hk x1 R1 walkR⟩
  · exact hk.elim
end
/-! ### methods of built-in types -/
abbrev MD := EV → List EV → Mu → PQ → Prop
def MtS (K : PySem.W.Frag) (r : V → List V → Hp → VK → Prop) (o : MD) : Prop := ∀ (s0 : Wd) (N0 : Nat) (s : Wd) (μ : Mu) (x : V) (xs : List V) (ex : EV) (es : List EV) (q : PQ) (Q : VK), Rep K s μ → Ext s0 N0 s μ.length → VR K s μ.length x ex → Frsh s0.H x ex → VRs K s μ.length s0.H xs es →
  o ex es μ q → LE K s0 N0 q Q → r x xs s.H Q
/-- the receiver's type -/
def RcS (K : PySem.W.Frag) (T : String) (ty : EV → Mu → Prop) : Prop := ∀ (s : Wd) (μ : Mu) (x : V) (ex : EV), Rep K s μ → VR K s μ.length x ex → ty ex μ → tyV K T x s.H
def isLstE : EV → Mu → Prop := fun e μ => (lstOf μ e).isSome = true
def isDctE : EV → Mu → Prop := fun e μ => match e with
  | .loc n => match μ[n]? with
    | some (.dct _) => True
    | some (.dck _) => True
    | _ => False
  | _ => False
theorem rc_lst {K : PySem.W.Frag} : RcS K "list" isLstE := by
  intro s μ x ex R r h
  unfold isLstE at h
  obtain ⟨ds, hds⟩ := Option.isSome_iff_exists.mp h
  obtain ⟨a, vs, rfl, h1, h2⟩ := lst_ok R r hds
  exact .inl ⟨rfl, vs, SqL.of h1⟩
theorem rc_dct {K : PySem.W.Frag} : RcS K "dict" isDctE := by
  intro s μ x ex R r h
  unfold isDctE at h
  split at h
  · rename_i n
    obtain ⟨hn, rfl⟩ := r
    split at h
    · rename_i kvs hc
      obtain ⟨_, ks, a2, _⟩ := R.cell n _ hc
      exact .inr (.inr (.inl ⟨rfl, .inr ⟨_, a2⟩⟩))
    · rename_i kvs hc
      obtain ⟨_, ks, a2, _⟩ := R.cell n _ hc
      exact .inr (.inr (.inl ⟨rfl, .inl ⟨_, a2⟩⟩))
    · exact h.elim
  · exact h.elim
def dBM (ty : EV → Mu → Prop) (o : MD) (to : TDE) (t : TDA) : TDE := fun η μ q E => to η μ (fun x μ1 => ty x μ1 ∧ t η μ1 (fun es μ2 => o x es μ2 q) E) E
def dBM0 (ty : EV → Mu → Prop) (o : MD) (to : TDE) : TDE := fun η μ q E => to η μ (fun x μ1 => ty x μ1 ∧ o x [] μ1 q) E
section
variable {X : Cx} {W : WX} {eo e : Expr} {es : List Expr} {to : TDE} {t : TDA} {name : Str} {apos cpos : Pos} {T id : String} {r : V → List V → Hp → VK → Prop} {ty : EV → Mu → Prop} {o : MD}
theorem de_bm (pa : PlainAttrs T) (slot : Slot T name id) (hty : typeOf (.builtin id) = pure (.type "method_descriptor")) (hm : MtR X id r) (rc : RcS X.K T ty) (ms : MtS X.K r o) (ho : DE X W eo to) (ha : DA X W (e :: es) t)
    (hbase : attributeBase eo name X.env (eval eo X.env) = eval eo X.env := by rfl)
    (hfew : ((backTo cpos (starEach (e :: es) X.env)).all (fun x => !x.1) && (backToKw cpos (keywordEach [] X.env)).all (fun x => x.1.isSome)
      && decide ((e :: es).length + ([] : List Keyword).length + (if ([] : List Keyword).isEmpty then 0 else 1) < 30)) = true := by rfl)
    (hline : (apos.endLine == cpos.line) = true := by rfl) (hs : starEach (e :: es) X.env = (false, eval e X.env) :: starEach es X.env := by rfl) (hplain : (backTo cpos (starEach es X.env)).any (·.1) = false := by rfl) :
    DE X W (.Call (.Attribute eo name apos) (e :: es) [] cpos) (dBM ty o to t) := by
  obtain ⟨t1, p1, g1⟩ := ho.ex
  obtain ⟨t2, p2, g2⟩ := ha.ex
  refine de_pe (pe_bm pa slot hty hm p1 p2 hbase hfew hline hs hplain) fun s σ η μ Q q E S hq l lx => g1 s σ η μ _ _ E S hq (fun ex μ1 x s1 hk1 x1 R1 r1 f1 => ?_) lx
  refine ⟨rc s1 μ1 x ex R1 r1 hk1.1, g2 s1 σ η μ1 _ _ E (S.go x1 R1) hk1.2 (fun es' μ2 vs s2 hk2 x2 R2 r2 => ?_) (lx.go x1 R1)⟩
  have h1 := fun n (hn : n < μ1.length) => R1.here hn
  exact ms s _ s2 μ2 x vs ex es' q Q R2 (x1.trans x2 h1) (r1.ext x2) f1 (r2.back x1 h1) hk2 l
theorem de_bm0 (pa : PlainAttrs T) (slot : Slot T name id) (hty : typeOf (.builtin id) = pure (.type "method_descriptor")) (hm : MtR X id r) (rc : RcS X.K T ty) (ms : MtS X.K r o) (ho : DE X W eo to)
    (hbase : attributeBase eo name X.env (eval eo X.env) = eval eo X.env := by rfl) (hline : (apos.endLine == cpos.line) = true := by rfl) : DE X W (.Call (.Attribute eo name apos) [] [] cpos) (dBM0 ty o to) := by
  obtain ⟨t1, p1, g1⟩ := ho.ex
  exact de_pe (pe_bm0 pa slot hty hm p1 hbase hline) fun s σ η μ Q q E S hq l lx => g1 s σ η μ _ _ E S hq (fun ex μ1 x s1 hk1 x1 R1 r1 f1 => ⟨rc s1 μ1 x ex R1 r1 hk1.1, ms s _ s1 μ1 x [] ex [] q Q R1 x1 r1 f1 .nil hk1.2 l⟩) lx
end
/-! join -/
/-! ### lists that change -/
theorem mut_ok {K : PySem.W.Frag} {s0 s : Wd} {N0 n : Nat} {μ : Mu} {xs ys : List PyData} {ws : List V} (R : Rep K s μ) (x : Ext s0 N0 s μ.length) (hn : μ[n]? = some (.lst xs)) (hd : DRs K s.F ws ys) :
    Rep K { s with H := upd s.H (s.L n) (.lst ws) } (μ.set n (.lst ys)) ∧ Ext s0 N0 { s with H := upd s.H (s.L n) (.lst ws) } (μ.set n (.lst ys)).length := by
  obtain ⟨hf, vs, hp, hv⟩ := R.cell n _ hn
  have hlt := (List.getElem?_eq_some_iff.mp hn).1
  exact mut_g R x hlt hf ⟨hf, ws, upd_same, hd⟩ (fun t z => nomatch z)
def withL (μ : Mu) (e : EV) (k : Nat → List PyData → Prop) : Prop := match e with
  | .loc n => match μ[n]? with
    | some (.lst xs) => k n xs
    | _ => False
  | _ => False
theorem withL_ex {μ : Mu} {e : EV} {k : Nat → List PyData → Prop} (h : withL μ e k) : ∃ n xs, e = .loc n ∧ μ[n]? = some (.lst xs) ∧ k n xs := by
  unfold withL at h
  split at h
  · split at h
    · exact ⟨_, _, rfl, by assumption, h⟩
    · exact h.elim
  · exact h.elim
def oAppend : MD := fun x es μ q => withL μ x fun n xs => match es with
  | [.dat d] => xs.length < 100000 ∧ q (.dat .none) (μ.set n (.lst (xs ++ [d])))
  | _ => False
theorem line_lt {n : Nat} (h : n < 100000) : n < sizeLine := Nat.lt_of_lt_of_le h (by decide)
theorem ms_append {K : PySem.W.Frag} : MtS K rAppend oAppend := by
  intro s0 N0 s μ x xs ex es q Q R xt rx fx r h l
  obtain ⟨n, ys, rfl, hn, h⟩ := withL_ex h
  obtain ⟨hlt, rfl⟩ := rx
  split at h
  · cases r with
    | cons ry fy rr =>
      cases rr
      obtain ⟨hf, vs, hp, hv⟩ := R.cell n _ hn
      obtain ⟨a1, a2⟩ := mut_ok R xt hn (hv.append (.cons ry .nil))
      exact ⟨_, vs, _, rfl, rfl, hp, line_lt (by rw [hv.length]; exact h.1), l (.dat .none) _ .non _ h.2 a2 a1 .non trivial⟩
  · exact h.elim
/-- xs[i] = v -/
def oSetL : SetD := fun x y z μ q => withL μ x fun n xs => match y, z with
  | .dat (.int k), .dat d => ∃ j, ixN xs.length k = some j ∧ q (μ.set n (.lst (xs.set j d)))
  | _, _ => False
theorem ss_list {K : PySem.W.Frag} : SetS K rSetL oSetL := by
  intro s0 N0 s μ x y z ex ey ez q Q R xt rx ry rz h l
  obtain ⟨n, ys, rfl, hn, h⟩ := withL_ex h
  obtain ⟨hlt, rfl⟩ := rx
  split at h
  · obtain ⟨j, hj, h⟩ := h
    obtain ⟨hf, vs, hp, hv⟩ := R.cell n _ hn
    obtain ⟨a1, a2⟩ := mut_ok R xt hn (hv.set rz j)
    exact ⟨_, vs, _, j, rfl, vr_i ry, hp, by rw [hv.length]; exact hj, l _ _ h a2 a1⟩
  · exact h.elim
end DL
set_option Elab.async false
set_option linter.all false
set_option maxRecDepth 100000
set_option maxHeartbeats 4000000
namespace DL
open PySem L2 PyProof.Rows
/-! ### words for whole programs -/
/-- a new list, a new dict becomes still, all else is as it is -/
def stlK (q : PQ) : PQ := fun e μ1 => match e with
  | .new xs => q (.dat (.list xs)) μ1
  | .newd kvs => q (.dat (.dict (kvT kvs))) μ1
  | .newk kvs => kvs ≠ [] ∧ q (.dat (.dict (kvK kvs))) μ1
  | e => q e μ1
def dStl (t : TDE) : TDE := fun η μ q E => t η μ (stlK q) E
/-- what is told may be locked for good -/
def tLk (t : TE) : TE := fun σ H Q => t σ H fun v H1 => Q v H1 ∨ ∃ d u, H1 d = some u ∧ Mut (some u) ∧ ∀ od, Q v (upd H1 d (.frz od u))
theorem pe_lk {X : Cx} {e : Expr} {t : TE} (h : PE X e t) : PE X e (tLk t) := by
  refine ⟨fun pins s σ H Q I hw => ?_⟩
  refine thn (h.run pins s σ _ _ I hw) fun v s1 ⟨x, H1, I2, r, q⟩ => ?_
  rcases q with q | ⟨d, u, hd, mu, q⟩
  · exact ⟨x, H1, I2, r, q⟩
  · obtain ⟨od, I3⟩ := I2.lock hd mu
    exact ⟨x, _, I3, r, q od⟩
theorem still_O {K : PySem.W.Frag} {s0 s : Wd} {N0 : Nat} {μ : Mu} {p : Addr} {o : HO} (R : Rep K s μ) (x : Ext s0 N0 s μ.length) (hf : s.F p = none) (hl : NL s μ.length p) (h0 : s0.H p = none) :
    Rep K { s with H := upd s.H p o, F := upd s.F p o } μ ∧ Ext s0 N0 { s with H := upd s.H p o, F := upd s.F p o } μ.length ∧ Same s.F (upd s.F p o) := by
  have e : Same s.F (upd s.F p o) := fun y o' q => by rw [upd_ne (ne_of_none q hf)]; exact q
  have R1 := R.poke (o := o) hf hl
  refine ⟨R.of rfl (fun a u q => ?_) (fun n c q => cell_still (R1.cell n c q) (R.rootNe hl n (List.getElem?_eq_some_iff.mp q).1) hf) (fun a h => upd_live h) (R.beside e fun n a hn ha => keeps_putF fun z => hl n hn (z ▸ ha)), ⟨fun a u q => e a u (x.f a u q), x.l, x.le, fun a u q hn => ?_, fun a h1 h2 h3 h4 => ?_, x.lnew, x.onew, fun a h => upd_live (x.alive a h)⟩, e⟩
  · have q' : upd s.F p o a = some u := q
    show upd s.H p o a = some u
    by_cases ha : a = p
    · subst ha
      rw [upd_same] at q' ⊢
      exact q'
    · rw [upd_ne ha] at q' ⊢
      exact R.sub a u q'
  · show upd s.H p o a = some u
    rw [upd_ne (ne_of_none q h0)]
    exact x.keep a u q hn
  · show upd s.F p o a = none
    rw [upd_ne (fun z => h3 (by rw [z]; exact h0))]
    exact x.fnew a h1 h2 h3 h4
section
variable {X : Cx} {W : WX} {e : Expr} {te : TDE} {pos : Pos}
theorem sem_stl {K : PySem.W.Frag} {t : TE} {td : TDE} (g : SemE K W t td) : SemE K W (tLk t) (dStl td) := fun s σ η μ Q q E S hq l lx => g s σ η μ _ _ E S hq (fun e μ' v s' hk x R r f => by
  cases e with
  | new xs =>
    obtain ⟨p, vs, rfl, h1, h2, h3, h4⟩ := r
    obtain ⟨a1, a2, a3⟩ := still_new R x h1 h2 h3 h4 (f p rfl)
    exact .inl (l _ _ _ { s' with F := upd s'.F p (.lst vs) } hk a2 a1 a3 trivial)
  | newd kvs =>
    obtain ⟨p, ks, rfl, h1, h2, h3, h4, h5⟩ := r
    refine .inr ⟨p, _, h1, trivial, fun od => ?_⟩
    obtain ⟨a1, a2, a3⟩ := still_O (o := .frz od (.dT ks)) R x h2 h3 (f p rfl)
    exact l _ _ _ _ hk a2 a1 (.dcT upd_same h4 (h5.mono a3) rfl) trivial
  | newk kvs =>
    obtain ⟨p, ks, rfl, h1, h2, h3, h4, h5⟩ := r
    refine .inr ⟨p, _, h1, trivial, fun od => ?_⟩
    obtain ⟨a1, a2, a3⟩ := still_O (o := .frz od (.dK ks)) R x h2 h3 (f p rfl)
    exact l _ _ _ _ hk.2 a2 a1 (.dcK upd_same h4 (h5.mono a3) rfl hk.1) trivial
  | dat d => exact .inl (l _ _ _ _ hk x R r f)
  | loc d => exact .inl (l _ _ _ _ hk x R r f)
  | raw d => exact .inl (l _ _ _ _ hk x R r f)
  | exc d => exact .inl (l _ _ _ _ hk x R r f)
  | «at» _ _ _ => exact .inl (l _ _ _ _ hk x R r f)
  | newo _ => exact .inl (l _ _ _ _ hk x R r f)
  | per _ => exact .inl (l _ _ _ _ hk x R r f)
  | ro d => exact .inl (l _ _ _ _ hk x R r f)) lx
theorem de_stl (h : DE X W e te) : DE X W e (dStl te) := by
  obtain ⟨t, hp, g⟩ := h.ex
  exact de_pe (pe_lk hp) (sem_stl g)
/-- a slot -/
theorem dv (i : Nat) {x : Str} (hN : X.N[i]? = some x := by rfl) (hv : Vis X.env.scope x := by first | exact Or.inl rfl | exact Or.inr (Or.inl rfl) | exact Or.inr (Or.inr rfl)) (hd : (x == ("__debug__" : Str)) = false := by decide)
    (hcd : (x == ("__classdict__" : Str)) = false := by decide) : DE X W (.Name x pos) (dVar i) := de_var (pv i hN hv hd hcd)
/-- a module's constants -/
theorem de_gint {x : Str} {n : Int} (hm : ∃ t, X.mg x = some (.int n t)) (hg : Gl X x := by rfl) (hd : (x == ("__debug__" : Str)) = false := by decide) : DE X W (.Name x pos) (dC (.int n)) := by
  obtain ⟨t, hm⟩ := hm
  exact de_c (pe_glob (v := .int n) hg hm ⟨t, rfl⟩ hd) fun _ _ => .int n
/-- a built-in class as a value -/
theorem de_ty {x : Str} {T : String} (hm : X.mg x = none) (hv : bootBuiltins x = some (.type T)) (hg : Gl X x := by rfl) (hn : x ≠ "__name__" := by decide) (hd : (x == ("__debug__" : Str)) = false := by decide) : DE X W (.Name x pos) (dRaw (.ty T)) :=
  de_raw (pe_bltn hg hm hv rfl hn hd)
end
theorem bt_int : bootBuiltins "int" = some (.type "int") := by decide +kernel
theorem bt_bool : bootBuiltins "bool" = some (.type "bool") := by decide +kernel
theorem bt_list : bootBuiltins "list" = some (.type "list") := by decide +kernel
theorem bt_tuple : bootBuiltins "tuple" = some (.type "tuple") := by decide +kernel
theorem bt_dict : bootBuiltins "dict" = some (.type "dict") := by decide +kernel
theorem bb_len : bootBuiltins "len" = some (.builtin "len") := by decide +kernel
theorem bb_max : bootBuiltins "max" = some (.builtin "max") := by decide +kernel
theorem bb_min : bootBuiltins "min" = some (.builtin "min") := by decide +kernel
theorem bb_sum : bootBuiltins "sum" = some (.builtin "sum") := by decide +kernel
theorem bb_sorted : bootBuiltins "sorted" = some (.builtin "sorted") := by decide +kernel
theorem bb_isinstance : bootBuiltins "isinstance" = some (.builtin "isinstance") := by decide +kernel
section
variable {P : Program} {w : World} {K : PySem.W.Frag} {mg : Str → Option Value} {base : Heap}
/-- a def by its body, with its contract -/
theorem def_ok {x qual : Str} {st : Stmt} {f : Addr} {fd : FuncData} {N ps : List Str} {k : Nat} {td : TDS} (sp : SpD) (F : Fun K x qual st f fd) (S : FnScope N ps (defScope st)) (hm : mg x = some (.ref f)) (hb : Binds K fd ps [])
    (body : ∀ (cdv : Value) (A : Around) (outer : List Env) (s : Shared) (H : Hp) (E : XK), Room k (A.deeper (envOfC qual (defScope st) s.heap.objs.size f cdv)) →
      Takes (cxOf (L2.CX P w) P w K mg base N qual (defScope st) f cdv A outer s H E) (fun cls d _ H => E cls d H) →
      PassesOwn (model P w) (A.deeper (envOfC qual (defScope st) s.heap.objs.size f cdv)) (envOfC qual (defScope st) s.heap.objs.size f cdv) (cxOf (L2.CX P w) P w K mg base N qual (defScope st) f cdv A outer s H E).xe →
      DSs (cxOf (L2.CX P w) P w K mg base N qual (defScope st) f cdv A outer s H E) (fun cls d _ H => E cls d H) (defBody st) td)
    (h : ∀ (es : List EV) (μ : Mu) (q : PQ) (x : XQ), es.length = ps.length → sp es μ q x → td { nx := fun _ μ' => exitQ μ.length q (.dat .none) μ', rt := exitQ μ.length q } (fun y μ' => x y (μ'.take μ.length)) (startD N es) μ) :
    DefAt P w K mg base x (k + 1) ps [] [] sp :=
  ⟨⟨f, fd, fd_of F S (fun cdv A outer s H E hr => body cdv A outer s H E hr (takes_of rfl rfl rfl rfl) (passes_of rfl)) h, hm, F.kp, hb⟩, .nil⟩
end
theorem tk0 {X : Cx} : Takes X WF := takes0
theorem drs_ints {K : PySem.W.Frag} {F : Hp} : ∀ ns : List Int, DRs K F (ns.map V.int) (ns.map .int)
  | [] => .nil
  | n :: r => .cons (.int n) (drs_ints r)
end DL
set_option Elab.async false
set_option linter.all false
set_option maxRecDepth 100000
set_option maxHeartbeats 4000000
namespace DL
open PySem L2 PyProof.Rows
/-! ### words for proofs over data readings -/
section
variable {N : Nat} {q : PQ} {μ : Mu}
theorem exitQ_dat {d : PyData} : DL.exitQ N q (.dat d) μ = q (.dat d) (μ.take N) := Eq.trans rfl rfl
theorem exitQ_new {d : List PyData} : DL.exitQ N q (.new d) μ = q (.new d) (μ.take N) := Eq.trans rfl rfl
end
def isIntD : PyData → Bool
  | .int _ => true
  | .bool _ => true
  | _ => false
def isBoolD : PyData → Bool
  | .bool _ => true
  | _ => false
def isTupD : PyData → Bool
  | .tuple _ => true
  | _ => false
section
variable {d : PyData} {q : PQ} {μ : Mu}
theorem isi_int : oIsi [.dat d, .raw (.ty "int")] μ q = q (.dat (.bool (isIntD d))) μ := by
  cases d <;> simp [oIsi, tyE, tyOf, isT, isIntD]
theorem isi_bool : oIsi [.dat d, .raw (.ty "bool")] μ q = q (.dat (.bool (isBoolD d))) μ := by
  cases d <;> simp [oIsi, tyE, tyOf, isT, isBoolD]
end
section
variable {q : PQ} {μ : Mu} {z z' : Str} {xs ys : List PyData} {n : Nat} {i j : Int} {x y : EV}
theorem ix_tupD : oIx (.dat (.tuple xs)) (.dat (.int i)) μ q = (∃ d, atI xs i = some d ∧ q (.dat d) μ) := Eq.trans rfl rfl
theorem ix_lstD : oIx (.dat (.list xs)) (.dat (.int i)) μ q = (∃ d, atI xs i = some d ∧ q (.dat d) μ) := Eq.trans rfl rfl
theorem ix_new : oIx (.new xs) (.dat (.int i)) μ q = (∃ d, atI xs i = some d ∧ q (.dat d) μ) := Eq.trans rfl rfl
theorem ix_ro : oIx (.ro xs) (.dat (.int i)) μ q = (∃ d, atI xs i = some d ∧ q (.dat d) μ) := Eq.trans rfl rfl
theorem at_nn {α : Type} {as : List α} {k : Int} (h : 0 ≤ k) : atI as k = as[k.toNat]? := by
  unfold atI ixN
  rw [if_pos h]
  split
  · rfl
  · rename_i hk
    rw [List.getElem?_eq_none (by omega)]
    rfl
theorem add_int : oAdd (.dat (.int i)) (.dat (.int j)) μ q = q (.dat (.int (i + j))) μ := Eq.trans rfl rfl
theorem add_lst (hx : lstOf μ x = some xs) (hy : lstOf μ y = some ys) : oAdd x y μ q = (xs.length + ys.length ≤ 100000 ∧ q (.new (xs ++ ys)) μ) := by
  unfold oAdd
  split
  · cases hx
  · cases hx
  · cases hx
  · rw [hx, hy]
theorem add_ln : oAdd (.dat (.list xs)) (.new ys) μ q = (xs.length + ys.length ≤ 100000 ∧ q (.new (xs ++ ys)) μ) := add_lst rfl rfl
theorem add_nn : oAdd (.new xs) (.new ys) μ q = (xs.length + ys.length ≤ 100000 ∧ q (.new (xs ++ ys)) μ) := add_lst rfl rfl
theorem mul_int : oMul (.dat (.int i)) (.dat (.int j)) μ q = (CMul i j ∧ q (.dat (.int (i * j))) μ) := Eq.trans rfl rfl
theorem sl_lstD {lo hi : Option Int} : oSl (.dat (.list xs)) lo hi μ q = q (.new (cutD xs lo hi)) μ := Eq.trans rfl rfl
theorem stl_dat {d : PyData} : stlK q (.dat d) μ = q (.dat d) μ := Eq.trans rfl rfl
theorem stl_new : stlK q (.new xs) μ = q (.dat (.list xs)) μ := Eq.trans rfl rfl
theorem stl_ro : stlK q (.ro xs) μ = q (.ro xs) μ := Eq.trans rfl rfl
theorem stl_exc {y : Exn} : stlK q (.exc y) μ = q (.exc y) μ := Eq.trans rfl rfl
theorem cel_new : cellK q (.new xs) μ = q (.loc μ.length) (μ ++ [.lst xs]) := Eq.trans rfl rfl
theorem cel_loc : cellK q (.loc n) μ = q (.loc n) μ := Eq.trans rfl rfl
theorem nN_dat {d : PyData} : noNew (.dat d) = true := Eq.trans rfl rfl
theorem nN_loc : noNew (.loc n) = true := Eq.trans rfl rfl
theorem nN_ro : noNew (.ro xs) = true := Eq.trans rfl rfl
theorem nN_exc {y : Exn} : noNew (.exc y) = true := Eq.trans rfl rfl
theorem aO_nil : allOld [] = true := Eq.trans rfl rfl
theorem aO_cons {e : EV} {es : List EV} : allOld (e :: es) = (noNew e && allOld es) := Eq.trans rfl rfl
theorem wB_b {b : Bool} {k : Bool → Prop} : withB (.dat (.bool b)) k = k b := Eq.trans rfl rfl
theorem oI_ii {C : Int → Int → Prop} {g : Int → Int → PyData} : oI C g (.dat (.int i)) (.dat (.int j)) μ q = (C i j ∧ q (.dat (g i j)) μ) := Eq.trans rfl rfl
theorem oI0_ii {g : Int → Int → PyData} : oI0 g (.dat (.int i)) (.dat (.int j)) μ q = q (.dat (g i j)) μ := Eq.trans rfl rfl
theorem neg_i : oNeg (.dat (.int i)) μ q = q (.dat (.int (-i))) μ := Eq.trans rfl rfl
theorem eq_dd {d e : PyData} : oEq (.dat d) (.dat e) μ q = ((noD d = true ∧ noD e = true) ∧ min d.depth e.depth ≤ 64 ∧ q (.dat (.bool (PyData.eqv d e))) μ) := Eq.trans rfl rfl
theorem ne_dd {d e : PyData} : oNe (.dat d) (.dat e) μ q = ((noD d = true ∧ noD e = true) ∧ min d.depth e.depth ≤ 64 ∧ q (.dat (.bool (!PyData.eqv d e))) μ) := Eq.trans rfl rfl
theorem eq_dn {d : PyData} : oEq (.dat d) (.new xs) μ q = ((noD d = true ∧ noD (.list xs) = true) ∧ min d.depth (PyData.list xs).depth ≤ 64 ∧ q (.dat (.bool (PyData.eqv d (.list xs)))) μ) := Eq.trans rfl rfl
theorem ne_dn {d : PyData} : oNe (.dat d) (.new xs) μ q = ((noD d = true ∧ noD (.list xs) = true) ∧ min d.depth (PyData.list xs).depth ≤ 64 ∧ q (.dat (.bool (!PyData.eqv d (.list xs)))) μ) := Eq.trans rfl rfl
theorem max_ii : oMax2 [.dat (.int i), .dat (.int j)] μ q = q (.dat (.int (if j > i then j else i))) μ := Eq.trans rfl rfl
theorem min_ii : oMin2 [.dat (.int i), .dat (.int j)] μ q = q (.dat (.int (if j < i then j else i))) μ := Eq.trans rfl rfl
theorem wD_dat {d : PyData} {k : PyData → Mu → Prop} : withDat μ (.dat d) k = k d μ := Eq.trans rfl rfl
theorem wD_new {k : PyData → Mu → Prop} : withDat μ (.new xs) k = k (.list xs) μ := Eq.trans rfl rfl
end
theorem eqv_int {i j : Int} : PyData.eqv (.int i) (.int j) = decide (i = j) := by
  rw [PyData.eqv]
  exact Bool.beq_eq_decide_eq i j
theorem eqv_bool {i j : Bool} : PyData.eqv (.bool i) (.bool j) = (i == j) := by rw [PyData.eqv]
theorem eqv_str {i j : Str} : PyData.eqv (.str i) (.str j) = decide (i = j) := by
  rw [PyData.eqv]
  exact Bool.beq_eq_decide_eq i j
theorem dep_int {i : Int} : (PyData.int i).depth = 0 := by rw [PyData.depth]
theorem dep_bool {i : Bool} : (PyData.bool i).depth = 0 := by rw [PyData.depth]
theorem dep_str {i : Str} : (PyData.str i).depth = 0 := by rw [PyData.depth]
/-! ### statements, one by one -/
section
variable {t u v : TDS} {te : TDE} {ta : TDA} {tc : TDT} {g : TDG} {ti : TDI} {d : DEnds} {E : XQ} {η : DEnv} {μ : Mu} {i j : Nat} {o : OD}
theorem q_next (h : v d E η μ) : sSeq sNext v d E η μ := h
theorem q_asg (h : te η μ (fun e μ1 => g e η μ1 fun η' μ' => v d E η' μ') E) : sSeq (sAsg te g) v d E η μ := h
theorem q_set (h : te η μ (fun e μ1 => noNew e = true ∧ v d E (η.set i (some e)) μ1) E) : sSeq (sAsg te (gNm i)) v d E η μ := h
theorem q_par (h : ta η μ (fun es μ1 => match es with
  | [e1, e2] => noNew e1 = true ∧ noNew e2 = true ∧ v d E ((η.set i (some e1)).set j (some e2)) μ1
  | _ => False) E) : sSeq (sPar i j ta) v d E η μ := h
theorem q_drop (h : te η μ (fun _ μ1 => v d E η μ1) E) : sSeq (sDrop te) v d E η μ := h
theorem q_ret (h : te η μ d.rt E) : sSeq (sRet te) v d E η μ := h
theorem q_retN (h : d.rt (.dat .none) μ) : sSeq sRetN v d E η μ := h
theorem q_if (h : tc η μ (fun b μ1 => if b = true then t { d with nx := v d E } E η μ1 else u { d with nx := v d E } E η μ1) E) : sSeq (sIf tc t u) v d E η μ := h
/-- .. an if without else -/
theorem q_when (h : tc η μ (fun b μ1 => if b = true then t { d with nx := v d E } E η μ1 else v d E η μ1) E) : sSeq (sIf tc t sNext) v d E η μ := h
theorem q_ifB (b : Bool) (h : ∀ K : Bool → Mu → Prop, K b μ → tc η μ K E) (h1 : b = true → t { d with nx := v d E } E η μ) (h2 : b = false → u { d with nx := v d E } E η μ) : sSeq (sIf tc t u) v d E η μ :=
  h _ (by cases b with
    | true => exact h1 rfl
    | false => exact h2 rfl)
theorem s_next (h : d.nx η μ) : sNext d E η μ := h
theorem s_asg (h : te η μ (fun e μ1 => g e η μ1 d.nx) E) : sAsg te g d E η μ := h
theorem s_set (h : te η μ (fun e μ1 => noNew e = true ∧ d.nx (η.set i (some e)) μ1) E) : sAsg te (gNm i) d E η μ := h
theorem s_drop (h : te η μ (fun _ μ1 => d.nx η μ1) E) : sDrop te d E η μ := h
theorem s_ret (h : te η μ d.rt E) : sRet te d E η μ := h
theorem s_retN (h : d.rt (.dat .none) μ) : sRetN d E η μ := h
theorem s_if (h : tc η μ (fun b μ1 => if b = true then t d E η μ1 else u d E η μ1) E) : sIf tc t u d E η μ := h
theorem s_when (h : tc η μ (fun b μ1 => if b = true then t d E η μ1 else d.nx η μ1) E) : sIf tc t sNext d E η μ := h
theorem q_whenB (b : Bool) (h : ∀ K : Bool → Mu → Prop, K b μ → tc η μ K E) (h1 : b = true → t { d with nx := v d E } E η μ) (h2 : b = false → v d E η μ) : sSeq (sIf tc t sNext) v d E η μ := q_ifB b h h1 h2
end
/-- what a comprehension asks of its items -/
def LcG (g : TDG) (tt : TDT) (te : TDE) (vs : List Nat) (η : DEnv) (q : PQ) (items : List EV) (G : Mu → Prop) (μ1 : Mu) : Prop := items.length ≤ 100000 ∧ ∃ Inv : Nat → List PyData → Mu → Prop, Inv 0 [] μ1 ∧ (∀ i acc μ, Inv i acc μ → G μ ∧ acc.length ≤ i) ∧
  (∀ (i : Nat) (e : EV) acc μ, items[i]? = some e → Inv i acc μ → g e (wipeD η vs) μ fun η2 μ2 => tt η2 μ2 (fun b μ3 => if b = true then te η2 μ3 (fun ev μ4 => withDat μ4 ev fun d μ5 => Inv (i + 1) (acc ++ [d]) (μ5.take μ1.length)) EF else Inv (i + 1) acc (μ3.take μ1.length)) EF) ∧
  ∀ acc μ, Inv items.length acc μ → q (.new acc) μ
/-- over items told by a list, every one kept, the store as it was -/
theorem lc_map {α : Type} {as : List α} {h : α → EV} {G : Mu → Prop} {g : TDG} {te : TDE} {vs : List Nat} {η : DEnv} {q : PQ} {μ1 : Mu} (f : α → PyData) (hz : as.length ≤ 100000) (hG : G μ1)
    (hs : ∀ (a : α) (K : PyData → Mu → Prop), a ∈ as → K (f a) μ1 → g (h a) (wipeD η vs) μ1 fun η2 μ2 => te η2 μ2 (fun ev μ4 => withDat μ4 ev fun d μ5 => K d (μ5.take μ1.length)) EF)
    (hq : q (.new (as.map f)) μ1) : LcG g tYesD te vs η q (as.map h) G μ1 := by
  refine ⟨by rw [List.length_map]; exact hz, fun i acc μ => μ = μ1 ∧ acc = (as.take i).map f, ⟨rfl, rfl⟩, ?_, ?_, ?_⟩
  · rintro i acc μ ⟨rfl, rfl⟩
    refine ⟨hG, ?_⟩
    rw [List.length_map, List.length_take]
    omega
  · rintro i e acc μ hi ⟨rfl, rfl⟩
    obtain ⟨a, ha, rfl⟩ : ∃ a, as[i]? = some a ∧ e = h a := by
      rw [List.getElem?_map] at hi
      cases q : as[i]? with
      | none => rw [q] at hi; cases hi
      | some a => rw [q] at hi; exact ⟨a, rfl, (Option.some.inj hi).symm⟩
    refine hs a (fun d μ' => μ' = μ ∧ (as.take i).map f ++ [d] = (as.take (i + 1)).map f) (List.mem_of_getElem? ha) ⟨rfl, ?_⟩
    rw [List.take_add_one, ha, List.map_append]
    rfl
  · rintro acc μ ⟨rfl, rfl⟩
    rw [List.length_map, List.take_length]
    exact hq
/-- .. with a test -/
theorem lc_filter {α : Type} {as : List α} {h : α → EV} {G : Mu → Prop} {g : TDG} {tt : TDT} {te : TDE} {vs : List Nat} {η : DEnv} {q : PQ} {μ1 : Mu} (p : α → Bool) (f : α → PyData) (hz : as.length ≤ 100000) (hG : G μ1)
    (hs : ∀ (a : α) (K : PyData → Mu → Prop) (K' : Mu → Prop), a ∈ as → (p a = true → K (f a) μ1) → (p a = false → K' μ1) → g (h a) (wipeD η vs) μ1 fun η2 μ2 => tt η2 μ2 (fun b μ3 => if b = true then te η2 μ3 (fun ev μ4 => withDat μ4 ev fun d μ5 => K d (μ5.take μ1.length)) EF else K' (μ3.take μ1.length)) EF)
    (hq : q (.new ((as.filter p).map f)) μ1) : LcG g tt te vs η q (as.map h) G μ1 := by
  refine ⟨by rw [List.length_map]; exact hz, fun i acc μ => μ = μ1 ∧ acc = ((as.take i).filter p).map f, ⟨rfl, rfl⟩, ?_, ?_, ?_⟩
  · rintro i acc μ ⟨rfl, rfl⟩
    refine ⟨hG, ?_⟩
    have := List.length_filter_le p (as.take i)
    rw [List.length_map]
    rw [List.length_take] at this
    omega
  · rintro i e acc μ hi ⟨rfl, rfl⟩
    obtain ⟨a, ha, rfl⟩ : ∃ a, as[i]? = some a ∧ e = h a := by
      rw [List.getElem?_map] at hi
      cases q : as[i]? with
      | none => rw [q] at hi; cases hi
      | some a => rw [q] at hi; exact ⟨a, rfl, (Option.some.inj hi).symm⟩
    refine hs a (fun d μ' => μ' = μ ∧ ((as.take i).filter p).map f ++ [d] = ((as.take (i + 1)).filter p).map f) (fun μ' => μ' = μ ∧ ((as.take i).filter p).map f = ((as.take (i + 1)).filter p).map f) (List.mem_of_getElem? ha) (fun hp => ⟨rfl, ?_⟩) (fun hp => ⟨rfl, ?_⟩)
    · rw [List.take_add_one, ha, List.filter_append, List.map_append]
      simp [hp]
    · rw [List.take_add_one, ha, List.filter_append, List.map_append]
      simp [hp]
  · rintro acc μ ⟨rfl, rfl⟩
    rw [List.length_map, List.take_length]
    exact hq
/-- over items, by an invariant of the store and what was made -/
theorem lc_inv {α : Type} {as : List α} {h : α → EV} {G : Mu → Prop} {g : TDG} {tt : TDT} {te : TDE} {vs : List Nat} {η : DEnv} {q : PQ} {μ1 : Mu} (Inv : Nat → List PyData → Mu → Prop) (hz : as.length ≤ 100000) (h0 : Inv 0 [] μ1) (hG : ∀ i acc μ, Inv i acc μ → G μ ∧ acc.length ≤ i)
    (hs : ∀ (i : Nat) (a : α) acc μ, as[i]? = some a → Inv i acc μ → g (h a) (wipeD η vs) μ fun η2 μ2 => tt η2 μ2 (fun b μ3 => if b = true then te η2 μ3 (fun ev μ4 => withDat μ4 ev fun d μ5 => Inv (i + 1) (acc ++ [d]) (μ5.take μ1.length)) EF else Inv (i + 1) acc (μ3.take μ1.length)) EF)
    (hd : ∀ acc μ, Inv as.length acc μ → q (.new acc) μ) : LcG g tt te vs η q (as.map h) G μ1 := by
  refine ⟨by rw [List.length_map]; exact hz, Inv, h0, hG, fun i e acc μ hi iv => ?_, fun acc μ iv => hd acc μ (by rw [List.length_map] at iv; exact iv)⟩
  obtain ⟨a, ha, rfl⟩ : ∃ a, as[i]? = some a ∧ e = h a := by
    rw [List.getElem?_map] at hi
    cases q : as[i]? with
    | none => rw [q] at hi; cases hi
    | some a => rw [q] at hi; exact ⟨a, rfl, (Option.some.inj hi).symm⟩
  exact hs i a acc μ ha iv
theorem map_get {α β : Type} {as : List α} {h : α → β} {i : Nat} {e : β} (x : (as.map h)[i]? = some e) : ∃ a, as[i]? = some a ∧ e = h a := by
  rw [List.getElem?_map] at x
  cases q : as[i]? with
  | none => rw [q] at x; cases x
  | some a => rw [q] at x; exact ⟨a, rfl, (Option.some.inj x).symm⟩
theorem get_lt {α : Type} {as : List α} {i : Nat} {a : α} (x : as[i]? = some a) : i < as.length := (List.getElem?_eq_some_iff.mp x).1
/-! ### the law's drawing -/
/-- a drawing state at n -/
def StAt (μ : Mu) (n : Nat) : Prop := ∃ a b : Int, μ[n]? = some (.lst [.int a, .int b]) ∧ 0 ≤ a ∧ a < 2147483648
/-- drawn from -/
def Stp (μ : Mu) (n : Nat) (μ' : Mu) : Prop := ∃ a b : Int, μ' = μ.set n (.lst [.int a, .int b]) ∧ 0 ≤ a ∧ a < 2147483648
theorem StAt.lt {μ : Mu} {n : Nat} (h : StAt μ n) : n < μ.length := let ⟨_, _, e, _⟩ := h; get_lt e
theorem Stp.len {μ μ' : Mu} {n : Nat} (h : Stp μ n μ') : μ'.length = μ.length := by
  obtain ⟨a, b, rfl, _⟩ := h
  exact List.length_set
theorem Stp.at {μ μ' : Mu} {n : Nat} (h : Stp μ n μ') (s : StAt μ n) : StAt μ' n := by
  have hl := s.lt
  obtain ⟨a, b, rfl, h1, h2⟩ := h
  exact ⟨a, b, by rw [List.getElem?_set_self hl], h1, h2⟩
theorem Stp.refl {μ : Mu} {n : Nat} (s : StAt μ n) : Stp μ n μ := by
  obtain ⟨a, b, e, h1, h2⟩ := s
  refine ⟨a, b, ?_, h1, h2⟩
  obtain ⟨h3, h4⟩ := List.getElem?_eq_some_iff.mp e
  rw [← h4, List.set_getElem_self]
theorem Stp.trans {μ μ1 μ2 : Mu} {n : Nat} (h : Stp μ n μ1) (h' : Stp μ1 n μ2) : Stp μ n μ2 := by
  obtain ⟨a, b, rfl, h1, h2⟩ := h
  obtain ⟨a', b', rfl, h3, h4⟩ := h'
  exact ⟨a', b', List.set_set .., h3, h4⟩
theorem Stp.take {μ μ' : Mu} {n : Nat} (h : Stp μ n μ') : μ'.take μ.length = μ' := by
  rw [← h.len]
  exact List.take_length
theorem pick {α : Type} {xs : List α} {r : Int} (h0 : 0 ≤ r) (h1 : r < xs.length) : ∃ d, xs[r.toNat]? = some d ∧ d ∈ xs := by
  have h : r.toNat < xs.length := by omega
  exact ⟨xs[r.toNat], List.getElem?_eq_getElem h, List.getElem_mem h⟩
def sp_cell : SpD := fun es μ q _ => ∃ (ns : List Int) (k : Int), es = [.ro (ns.map .int), .dat (.int k)] ∧ 0 ≤ k ∧ k ≤ 1000 ∧ ns.length ≤ 63 ∧ ∀ r : Int, q (.dat (.int r)) μ
def sp_state : SpD := fun es μ q _ => ∃ c k : Int, es = [.dat (.int c), .dat (.int k)] ∧ 0 ≤ k ∧ k ≤ 1000 ∧ ∀ a b : Int, 0 ≤ a → a < 2147483648 → q (.new [.int a, .int b]) μ
def sp_next : SpD := fun es μ q _ => ∃ (n : Nat) (k : Int), es = [.loc n, .dat (.int k)] ∧ StAt μ n ∧ 0 < k ∧ k < 1073741824 ∧ ∀ (r : Int) (μ' : Mu), 0 ≤ r → r < k → Stp μ n μ' → q (.dat (.int r)) μ'
end DL
set_option Elab.async false
set_option linter.all false
set_option maxRecDepth 100000
set_option maxHeartbeats 4000000
namespace DL
open PySem L2 PyProof.Rows
/-! ### words for proofs over data readings -/
/-- an old reading -/
def oldK (q : PQ) : PQ := fun e μ => match e with
  | .new _ => False
  | .newd _ => False
  | .newk _ => False
  | .newo _ => False
  | e => q e μ
theorem old_at {q : PQ} {n : Nat} {p : List Nat} {b : Addr} {μ : Mu} : oldK q (.at n p b) μ = q (.at n p b) μ := Eq.trans rfl rfl
theorem old_per {q : PQ} {d : Per} {μ : Mu} : oldK q (.per d) μ = q (.per d) μ := Eq.trans rfl rfl
theorem old_dat {q : PQ} {d : PyData} {μ : Mu} : oldK q (.dat d) μ = q (.dat d) μ := Eq.trans rfl rfl
theorem old_loc {q : PQ} {d : Nat} {μ : Mu} : oldK q (.loc d) μ = q (.loc d) μ := Eq.trans rfl rfl
theorem old_exc {q : PQ} {d : Exn} {μ : Mu} : oldK q (.exc d) μ = q (.exc d) μ := Eq.trans rfl rfl
theorem old_ro {q : PQ} {d : List PyData} {μ : Mu} : oldK q (.ro d) μ = q (.ro d) μ := Eq.trans rfl rfl
theorem dVar_0 {v : EV} {η : DEnv} {μ : Mu} {q : PQ} {E : XQ} : dVar 0 (some v :: η) μ q E = oldK q v μ := by
  cases v <;> rfl
theorem dVar_1 {a0 : Option EV} {v : EV} {η : DEnv} {μ : Mu} {q : PQ} {E : XQ} : dVar 1 (a0 :: some v :: η) μ q E = oldK q v μ := by
  cases v <;> rfl
theorem dVar_2 {a0 a1 : Option EV} {v : EV} {η : DEnv} {μ : Mu} {q : PQ} {E : XQ} : dVar 2 (a0 :: a1 :: some v :: η) μ q E = oldK q v μ := by
  cases v <;> rfl
theorem dVar_3 {a0 a1 a2 : Option EV} {v : EV} {η : DEnv} {μ : Mu} {q : PQ} {E : XQ} : dVar 3 (a0 :: a1 :: a2 :: some v :: η) μ q E = oldK q v μ := by
  cases v <;> rfl
theorem dVar_4 {a0 a1 a2 a3 : Option EV} {v : EV} {η : DEnv} {μ : Mu} {q : PQ} {E : XQ} : dVar 4 (a0 :: a1 :: a2 :: a3 :: some v :: η) μ q E = oldK q v μ := by
  cases v <;> rfl
theorem dVar_5 {a0 a1 a2 a3 a4 : Option EV} {v : EV} {η : DEnv} {μ : Mu} {q : PQ} {E : XQ} : dVar 5 (a0 :: a1 :: a2 :: a3 :: a4 :: some v :: η) μ q E = oldK q v μ := by
  cases v <;> rfl
theorem dVar_6 {a0 a1 a2 a3 a4 a5 : Option EV} {v : EV} {η : DEnv} {μ : Mu} {q : PQ} {E : XQ} : dVar 6 (a0 :: a1 :: a2 :: a3 :: a4 :: a5 :: some v :: η) μ q E = oldK q v μ := by
  cases v <;> rfl
theorem dVar_7 {a0 a1 a2 a3 a4 a5 a6 : Option EV} {v : EV} {η : DEnv} {μ : Mu} {q : PQ} {E : XQ} : dVar 7 (a0 :: a1 :: a2 :: a3 :: a4 :: a5 :: a6 :: some v :: η) μ q E = oldK q v μ := by
  cases v <;> rfl
theorem dVar_8 {a0 a1 a2 a3 a4 a5 a6 a7 : Option EV} {v : EV} {η : DEnv} {μ : Mu} {q : PQ} {E : XQ} : dVar 8 (a0 :: a1 :: a2 :: a3 :: a4 :: a5 :: a6 :: a7 :: some v :: η) μ q E = oldK q v μ := by
  cases v <;> rfl
theorem dVar_9 {a0 a1 a2 a3 a4 a5 a6 a7 a8 : Option EV} {v : EV} {η : DEnv} {μ : Mu} {q : PQ} {E : XQ} : dVar 9 (a0 :: a1 :: a2 :: a3 :: a4 :: a5 :: a6 :: a7 :: a8 :: some v :: η) μ q E = oldK q v μ := by
  cases v <;> rfl
theorem dVar_10 {a0 a1 a2 a3 a4 a5 a6 a7 a8 a9 : Option EV} {v : EV} {η : DEnv} {μ : Mu} {q : PQ} {E : XQ} : dVar 10 (a0 :: a1 :: a2 :: a3 :: a4 :: a5 :: a6 :: a7 :: a8 :: a9 :: some v :: η) μ q E = oldK q v μ := by
  cases v <;> rfl
theorem dVar_11 {a0 a1 a2 a3 a4 a5 a6 a7 a8 a9 a10 : Option EV} {v : EV} {η : DEnv} {μ : Mu} {q : PQ} {E : XQ} : dVar 11 (a0 :: a1 :: a2 :: a3 :: a4 :: a5 :: a6 :: a7 :: a8 :: a9 :: a10 :: some v :: η) μ q E = oldK q v μ := by
  cases v <;> rfl
theorem dVar_12 {a0 a1 a2 a3 a4 a5 a6 a7 a8 a9 a10 a11 : Option EV} {v : EV} {η : DEnv} {μ : Mu} {q : PQ} {E : XQ} : dVar 12 (a0 :: a1 :: a2 :: a3 :: a4 :: a5 :: a6 :: a7 :: a8 :: a9 :: a10 :: a11 :: some v :: η) μ q E = oldK q v μ := by
  cases v <;> rfl
theorem dVar_13 {a0 a1 a2 a3 a4 a5 a6 a7 a8 a9 a10 a11 a12 : Option EV} {v : EV} {η : DEnv} {μ : Mu} {q : PQ} {E : XQ} : dVar 13 (a0 :: a1 :: a2 :: a3 :: a4 :: a5 :: a6 :: a7 :: a8 :: a9 :: a10 :: a11 :: a12 :: some v :: η) μ q E = oldK q v μ := by
  cases v <;> rfl
theorem dVar_14 {a0 a1 a2 a3 a4 a5 a6 a7 a8 a9 a10 a11 a12 a13 : Option EV} {v : EV} {η : DEnv} {μ : Mu} {q : PQ} {E : XQ} : dVar 14 (a0 :: a1 :: a2 :: a3 :: a4 :: a5 :: a6 :: a7 :: a8 :: a9 :: a10 :: a11 :: a12 :: a13 :: some v :: η) μ q E = oldK q v μ := by
  cases v <;> rfl
theorem dVar_15 {a0 a1 a2 a3 a4 a5 a6 a7 a8 a9 a10 a11 a12 a13 a14 : Option EV} {v : EV} {η : DEnv} {μ : Mu} {q : PQ} {E : XQ} : dVar 15 (a0 :: a1 :: a2 :: a3 :: a4 :: a5 :: a6 :: a7 :: a8 :: a9 :: a10 :: a11 :: a12 :: a13 :: a14 :: some v :: η) μ q E = oldK q v μ := by
  cases v <;> rfl
theorem dVar_16 {a0 a1 a2 a3 a4 a5 a6 a7 a8 a9 a10 a11 a12 a13 a14 a15 : Option EV} {v : EV} {η : DEnv} {μ : Mu} {q : PQ} {E : XQ} : dVar 16 (a0 :: a1 :: a2 :: a3 :: a4 :: a5 :: a6 :: a7 :: a8 :: a9 :: a10 :: a11 :: a12 :: a13 :: a14 :: a15 :: some v :: η) μ q E = oldK q v μ := by
  cases v <;> rfl
theorem dVar_17 {a0 a1 a2 a3 a4 a5 a6 a7 a8 a9 a10 a11 a12 a13 a14 a15 a16 : Option EV} {v : EV} {η : DEnv} {μ : Mu} {q : PQ} {E : XQ} : dVar 17 (a0 :: a1 :: a2 :: a3 :: a4 :: a5 :: a6 :: a7 :: a8 :: a9 :: a10 :: a11 :: a12 :: a13 :: a14 :: a15 :: a16 :: some v :: η) μ q E = oldK q v μ := by
  cases v <;> rfl
theorem wDs_nil {k : List PyData → Prop} : withDats [] k = k [] := by simp [withDats, datsOf]
theorem wDs_cons {d : PyData} {es : List EV} {k : List PyData → Prop} : withDats (.dat d :: es) k = withDats es fun ds => k (d :: ds) := by
  have h : datsOf (.dat d :: es) = (datsOf es).map (d :: ·) := Eq.trans rfl rfl
  unfold withDats
  rw [h]
  cases datsOf es <;> rfl
theorem x_dC {d : PyData} {η : DEnv} {μ : Mu} {q : PQ} {E : XQ} : dC d η μ q E = q (.dat d) μ := Eq.trans rfl rfl
theorem x_dRaw {v : V} {η : DEnv} {μ : Mu} {q : PQ} {E : XQ} : dRaw v η μ q E = q (.raw v) μ := Eq.trans rfl rfl
theorem x_dFrz {t : TDE} {η : DEnv} {μ : Mu} {q : PQ} {E : XQ} : dFrz t η μ q E = t η μ (fun e μ1 => withDat μ1 e fun d μ2 => q (.dat d) μ2) E := Eq.trans rfl rfl
theorem x_dCell {t : TDE} {η : DEnv} {μ : Mu} {q : PQ} {E : XQ} : dCell t η μ q E = t η μ (cellK q) E := Eq.trans rfl rfl
theorem x_dStl {t : TDE} {η : DEnv} {μ : Mu} {q : PQ} {E : XQ} : dStl t η μ q E = t η μ (stlK q) E := Eq.trans rfl rfl
theorem x_aNil  {η : DEnv} {μ : Mu} {q : List EV → Mu → Prop} {E : XQ} : aNil η μ q E = q [] μ := Eq.trans rfl rfl
theorem x_aCons {t : TDE} {u : TDA} {η : DEnv} {μ : Mu} {q : List EV → Mu → Prop} {E : XQ} : aCons t u η μ q E = t η μ (fun e μ1 => u η μ1 (fun es μ2 => q (e :: es) μ2) E) E := Eq.trans rfl rfl
theorem x_dLst {t : TDA} {η : DEnv} {μ : Mu} {q : PQ} {E : XQ} : dLst t η μ q E = t η μ (fun es μ1 => withDats es fun ds => ds.length ≤ 100000 ∧ q (.new ds) μ1) E := Eq.trans rfl rfl
theorem x_dTup {t : TDA} {η : DEnv} {μ : Mu} {q : PQ} {E : XQ} : dTup t η μ q E = t η μ (fun es μ1 => withDats es fun ds => ds.length ≤ 100000 ∧ q (.dat (.tuple ds)) μ1) E := Eq.trans rfl rfl
theorem x_tVal {t : TDE} {η : DEnv} {μ : Mu} {q : Bool → Mu → Prop} {E : XQ} : tVal t η μ q E = t η μ (fun e μ1 => withB e fun b => q b μ1) E := Eq.trans rfl rfl
theorem x_tAndD {t u : TDT} {η : DEnv} {μ : Mu} {q : Bool → Mu → Prop} {E : XQ} : tAndD t u η μ q E = t η μ (fun b μ1 => if b = true then u η μ1 q E else q false μ1) E := Eq.trans rfl rfl
theorem x_tOrD {t u : TDT} {η : DEnv} {μ : Mu} {q : Bool → Mu → Prop} {E : XQ} : tOrD t u η μ q E = t η μ (fun b μ1 => if b = true then q true μ1 else u η μ1 q E) E := Eq.trans rfl rfl
theorem x_tNotD {t : TDT} {η : DEnv} {μ : Mu} {q : Bool → Mu → Prop} {E : XQ} : tNotD t η μ q E = t η μ (fun b μ1 => q (!b) μ1) E := Eq.trans rfl rfl
theorem x_dAndV {t u : TDE} {η : DEnv} {μ : Mu} {q : PQ} {E : XQ} : dAndV t u η μ q E = t η μ (fun e μ1 => withB e fun b => if b = true then u η μ1 q E else q (.dat (.bool false)) μ1) E := Eq.trans rfl rfl
theorem x_dNotV {t : TDE} {η : DEnv} {μ : Mu} {q : PQ} {E : XQ} : dNotV t η μ q E = t η μ (fun e μ1 => withB e fun b => q (.dat (.bool (!b))) μ1) E := Eq.trans rfl rfl
theorem x_dOp {o : OD} {ta tb : TDE} {η : DEnv} {μ : Mu} {q : PQ} {E : XQ} : dOp o ta tb η μ q E = ta η μ (fun x μ1 => tb η μ1 (fun y μ2 => o x y μ2 q) E) E := Eq.trans rfl rfl
theorem x_dUn {o : UD} {ta : TDE} {η : DEnv} {μ : Mu} {q : PQ} {E : XQ} : dUn o ta η μ q E = ta η μ (fun x μ1 => o x μ1 q) E := Eq.trans rfl rfl
theorem x_dCB {o : CD} {t : TDA} {η : DEnv} {μ : Mu} {q : PQ} {E : XQ} : dCB o t η μ q E = t η μ (fun es μ1 => o es μ1 q) E := Eq.trans rfl rfl
theorem x_dChain {o o' : OD} {ta tb tc : TDE} {η : DEnv} {μ : Mu} {q : PQ} {E : XQ} : dChain o o' ta tb tc η μ q E = ta η μ (fun x μ1 => tb η μ1 (fun y μ2 => noNew x = true ∧ noNew y = true ∧ o x y μ2 fun z μ3 => withB z fun k => if k = true then tc η μ3 (fun w μ4 => o' y w μ4 q) E else q (.dat (.bool false)) μ3) E) E := Eq.trans rfl rfl
def intK (k : Int → Prop) (e : EV) : Prop := match e with
  | .dat (.int i) => k i
  | _ => False
theorem intK_i {k : Int → Prop} {i : Int} : intK k (.dat (.int i)) = k i := Eq.trans rfl rfl
theorem x_oNo  {η : DEnv} {μ : Mu} {q : Option Int → Mu → Prop} {E : XQ} : oNo η μ q E = q none μ := Eq.trans rfl rfl
theorem x_oSome {t : TDE} {η : DEnv} {μ : Mu} {q : Option Int → Mu → Prop} {E : XQ} : oSome t η μ q E = t η μ (fun e μ1 => intK (fun i => q (some i) μ1) e) E := Eq.trans rfl rfl
theorem x_dSl {o : SD} {te : TDE} {tl th : TDO} {η : DEnv} {μ : Mu} {q : PQ} {E : XQ} : dSl o te tl th η μ q E = te η μ (fun x μ1 => tl η μ1 (fun l μ2 => th η μ2 (fun h μ3 => o x l h μ3 q) E) E) E := Eq.trans rfl rfl
theorem x_gNm {i : Nat} {e : EV} {η : DEnv} {μ : Mu} {q : DEnv → Mu → Prop} : gNm i e η μ q = (noNew e = true ∧ q (η.set i (some e)) μ) := Eq.trans rfl rfl
theorem x_gNl0  {η : DEnv} {μ : Mu} {q : DEnv → Mu → Prop} : gNl [] η μ q = q η μ := by
  simp [gNl]
theorem x_gCn {t : TDG} {u : TDGs} {d : PyData} {r : List PyData} {η : DEnv} {μ : Mu} {q : DEnv → Mu → Prop} : gCn t u (d :: r) η μ q = t (.dat d) η μ (fun η' μ' => u r η' μ' q) := Eq.trans rfl rfl
theorem x_gTp {n : Nat} {t : TDGs} {ds : List PyData} {η : DEnv} {μ : Mu} {q : DEnv → Mu → Prop} : gTp n t (.dat (.tuple ds)) η μ q = (ds.length = n ∧ t ds η μ q) := Eq.trans rfl rfl
theorem x_gSb {to ti : TDE} {o : SetD} {e : EV} {η : DEnv} {μ : Mu} {q : DEnv → Mu → Prop} : gSb to ti o e η μ q = to η μ (fun x μ1 => ti η μ1 (fun y μ2 => o x y e μ2 fun μ3 => q η μ3) fun _ _ => False) fun _ _ => False := Eq.trans rfl rfl
theorem x_dCall {n : Nat} {sp : SpD} {des : List EV} {t : TDA} {η : DEnv} {μ : Mu} {q : PQ} {E : XQ} : dCall n sp des t η μ q E = t η μ (fun es μ1 => allOld es = true ∧ (es ++ des).length = n ∧ sp (es ++ des) μ1 q E) E := Eq.trans rfl rfl
abbrev RI := List EV → (Mu → Prop) → Mu → Prop
def seqK (r : RI) (e : EV) (μ1 : Mu) : Prop := match e with
  | .loc n => match μ1[n]? with
    | some (.lst xs) => r (xs.map .dat) (fun μ => μ[n]? = some (.lst xs) ∨ μ[n]? = some (.frz xs)) μ1
    | some (.frz xs) => r (xs.map .dat) (fun _ => True) μ1
    | _ => False
  | .dat (.tuple xs) => r (xs.map .dat) (fun _ => True) μ1
  | .dat (.list xs) => r (xs.map .dat) (fun _ => True) μ1
  | .new xs => r (xs.map .dat) (fun _ => True) μ1
  | .dat (.str z) => r (z.cps.toList.map fun c => .dat (.str ⟨#[c]⟩)) (fun _ => True) μ1
  | .ro xs => r (xs.map .dat) (fun _ => True) μ1
  | _ => False
def rng1K (r : RI) (es : List EV) (μ1 : Mu) : Prop := match es with
  | [.dat (.int j)] => (-1000000 ≤ j ∧ j ≤ 1000000) ∧ r (rngItems 0 j.toNat) (fun _ => True) μ1
  | _ => False
theorem rng1_i {r : RI} {j : Int} {μ : Mu} : rng1K r [.dat (.int j)] μ = ((-1000000 ≤ j ∧ j ≤ 1000000) ∧ r (rngItems 0 j.toNat) (fun _ => True) μ) := Eq.trans rfl rfl
theorem x_iRange1 {t : TDA} {η : DEnv} {μ : Mu} {r : RI} {E : XQ} : iRange1 t η μ r E = t η μ (fun es μ1 => rng1K r es μ1) E := Eq.trans rfl rfl
theorem x_dBM {ty : EV → Mu → Prop} {o : MD} {to : TDE} {t : TDA} {η : DEnv} {μ : Mu} {q : PQ} {E : XQ} : dBM ty o to t η μ q E = to η μ (fun x μ1 => ty x μ1 ∧ t η μ1 (fun es μ2 => o x es μ2 q) E) E := Eq.trans rfl rfl
theorem x_dBM0 {ty : EV → Mu → Prop} {o : MD} {to : TDE} {η : DEnv} {μ : Mu} {q : PQ} {E : XQ} : dBM0 ty o to η μ q E = to η μ (fun x μ1 => ty x μ1 ∧ o x [] μ1 q) E := Eq.trans rfl rfl
def intsK (ds : List PyData) (k : List Int → Prop) : Prop := match intsOf ds with
  | some bs => k bs
  | none => False
theorem ints_k {bs : List Int} {k : List Int → Prop} : intsK (bs.map .int) k = k bs := by simp [intsK, ints_map]
def lstK (μ : Mu) (e : EV) (k : List PyData → Prop) : Prop := match lstOf μ e with
  | some ds => k ds
  | none => False
def sqK (μ : Mu) (e : EV) (k : List PyData → Prop) : Prop := match seqOf μ e with
  | some ds => k ds
  | none => False
theorem lstK_new {xs : List PyData} {k : List PyData → Prop} {μ : Mu} : lstK μ (.new xs) k = k xs := Eq.trans rfl rfl
theorem sqK_lst {xs : List PyData} {k : List PyData → Prop} {μ : Mu} : sqK μ (.dat (.list xs)) k = k xs := Eq.trans rfl rfl
theorem x_oSum {e : EV} {μ : Mu} {q : PQ} : oSum [e] μ q = lstK μ e fun ds => intsK ds fun bs => q (.dat (.int bs.sum)) μ := Eq.trans rfl rfl
theorem x_oTuple {e : EV} {μ : Mu} {q : PQ} : oTuple [e] μ q = sqK μ e fun ds => q (.dat (.tuple ds)) μ := Eq.trans rfl rfl
theorem x_oIsN {x y : EV} {μ : Mu} {q : PQ} : oIsN x y μ q = (isRaw x = false ∧ isNon y = true ∧ q (.dat (.bool (isNon x))) μ) := Eq.trans rfl rfl
theorem x_lc {ti : TDI} {g : TDG} {tt : TDT} {te : TDE} {vs : List Nat} {η : DEnv} {μ : Mu} {q : PQ} {E : XQ} : dLc ti g tt te vs η μ q E = ti η μ (LcG g tt te vs η q) E := Eq.trans rfl rfl
theorem cl_nil {N : Nat} : clean N [] = [] := Eq.trans rfl rfl
theorem cl_none {N : Nat} {η : DEnv} : clean N (none :: η) = none :: clean N η := Eq.trans rfl rfl
theorem cl_dat {N : Nat} {η : DEnv} {d : PyData} : clean N (some (.dat d) :: η) = some (.dat d) :: clean N η := Eq.trans rfl rfl
theorem cl_loc {N n : Nat} {η : DEnv} (h : n < N) : clean N (some (.loc n) :: η) = some (.loc n) :: clean N η := by simp [clean, h]
/-- a law's call throws nothing -/
theorem cx_no {P : Program} {w : World} {o : List Env} {H : Hp} {s s' : Shared} {e : Value} (x : L2.CX P w o H s (fun _ _ _ => False) e s') : False := by
  obtain ⟨_, _, _, _, _, _, _, _, _, _, _, _, z⟩ := x
  exact z
end DL
set_option Elab.async false
set_option linter.all false
set_option maxRecDepth 100000
set_option maxHeartbeats 4000000
namespace DL
open PySem PySem.Spec PyProof.Rows L2
/-! ### exceptions: raised, caught, kept -/
section
variable {X : Cx} {pins : List (Addr × Obj)} {σ : L2.St} {H : Hp} {sI s' : Shared} {B : Heap}
/-- back on the ground, the exception's object tracked from now on -/
theorem landedK (I : Inv X pins σ H sI) (nb : ∀ b o, sI.heap.get? b = some o → b ∉ frs X.stack → B.get? b = some o) (st : B.StaysIn s'.heap) (up : sI.heap.UpToSlots s'.heap) (os : s'.os = sI.os) (ag : AllBare s'.gens)
    {a : Addr} {oe : Obj} {vs : Array Value} {cls : Value} {d : Option Addr} (hB : B.get? a = none) (na : H a = none) (nfr : a ∉ frs X.stack) (he : s'.heap.get? a = some oe) (hz : Zc cls d oe) (hd : oe.data = .fields vs) :
    Inv X pins σ (upd H a (excO a cls d)) s' := by
  have ha : sI.heap.get? a = none := by
    cases q : sI.heap.get? a with
    | none => rfl
    | some o => rw [nb a o q nfr] at hB; cases hB
  have nf : ∀ b ∈ frs X.stack, ∀ o, sI.heap.get? b = some o → ∃ sl, s'.heap.get? b = some { o with slots := sl } := fun b hb o e => by
    obtain ⟨_, o', e', hd⟩ := I.stack.mem hb
    rw [e] at e'; cases e'
    exact up b o e hd
  have ne : ∀ b o, sI.heap.get? b = some o → b ≠ a := fun b o e z => by rw [z, ha] at e; cases e
  have G : HOk X.prog X.w H s'.heap := (I.inGround nb).kept st
  have same : ∀ b u, H b = some u → upd H a (excO a cls d) b = some u := fun b u q => by rw [upd_ne (ne_of_none q na)]; exact q
  have J := I.call (ch := []) (h' := s'.heap) (g' := s'.gens) (t' := s'.toks) (d' := s'.drawn) (H' := upd H a (excO a cls d))
    ⟨fun b o e _ hb _ => st b o (nb b o e hb), fun b o e _ hb _ => nf b hb o e, fun b o e n _ => by rw [upd_ne (ne b o e)]; exact n, fun b o e _ => by
      by_cases hb : b ∈ frs X.stack
      · obtain ⟨sl, q⟩ := nf b hb o e
        exact ⟨_, q⟩
      · exact ⟨o, st b o (nb b o e hb)⟩, fun b xs e => same b _ e, fun b o u e => same b _ e, fun b ps e => ⟨#[], by rw [same b _ e]; simp⟩⟩
    (fun b u e => by
      by_cases hb : b = a
      · subst hb
        rw [upd_same] at e
        cases e
        exact ⟨⟨oe, vs, he, hz, hd⟩, ⟨oe, he⟩, fun h1 h2 ⟨o, ws, q, z⟩ k => ⟨o, ws, k o q, z⟩⟩
      · rw [upd_ne hb] at e
        exact (G b u e).stay (fun c v _ q => q) (fun c q => same c _ q) fun c xs q => same c _ q) ag (fun _ z => nomatch z)
  obtain ⟨a1, a2, a3, a4, a5⟩ := s'
  have e5 : a5 = sI.os := os
  subst e5
  exact J
theorem unsuiteK {a : Addr} (I : Inv (X.suite a (X.pn ++ pins)) [] σ H sI) (ok : X.Ok) : Inv X pins σ H sI :=
  ⟨ok, I.os, I.bare, I.base, I.loc, I.cell, I.free, I.freeC, fun p hp => I.pin p (by rw [List.append_nil]; exact hp), I.hok, I.len⟩
theorem suiteK {a : Addr} (I : Inv X pins σ H sI) : Inv (X.suite a (X.pn ++ pins)) [] σ H sI :=
  ⟨I.ok.suite _ _, I.os, I.bare, I.base, I.loc, I.cell, I.free, I.freeC, fun p hp => I.pin p (by rw [List.append_nil] at hp; exact hp), I.hok, I.len⟩
end
/-- what 'except x as n' wishes, the exception kept -/
def wKeep (K : PySem.W.Frag) (c : Value) (i : Nat) (ts : Addr → Value → Option Addr → TS) (Wout : WX) (D : Ends) : WX := fun cls d σ H =>
  ∃ b, PySem.W.exmOne K cls c = some b ∧ (b = true → ∀ a, H a = none → ts a cls d { nx := fun σ' H' => D.nx (σ'.set i none) H', rt := D.rt, bk := fun σ' H' => D.bk (σ'.set i none) H', ct := fun σ' H' => D.ct (σ'.set i none) H' } (σ.set i (some (.ref a))) (upd H a (excO a cls d))) ∧
    (b = false → Wout cls d σ H)
section
variable {X : Cx} {x n : Str} {c : Value} {i : Nat} {body suite : List Stmt} {b₀ : Stmt} {np pos pos' : Pos} {tb : WX → TS} {ts : Addr → Value → Option Addr → TS} {Wout : WX}
/-- out of a try's body, nothing raised -/
theorem outTry {pins : List (Addr × Obj)} {xe : Value → Shared → Prop} {D : Ends} {f : Flow} {s : Shared} (ok : X.Ok) (h : SP (X.tr (X.pn ++ pins) xe) [] D f s) : SP X pins D f s := by
  cases f <;> (try obtain ⟨u, t, r, I, j, k⟩ := h) <;> first
    | exact ⟨u, t, r, I.ofTry ok, j, k⟩
    | (obtain ⟨t, r, I, k⟩ := h; exact ⟨t, r, I.ofTry ok, k⟩)
/-- out of an except suite: the clause's name goes -/
theorem outSuite {pins : List (Addr × Obj)} {a : Addr} {D : Ends} {f : Flow} {s : Shared} (ok : X.Ok) (hN : X.N.Nodup) (hi : X.N[i]? = some n) (hln : X.env.kindOf n = some .local)
    (h : SP (X.suite a (X.pn ++ pins)) [] { nx := fun σ' H' => D.nx (σ'.set i none) H', rt := D.rt, bk := fun σ' H' => D.bk (σ'.set i none) H', ct := fun σ' H' => D.ct (σ'.set i none) H' } f s) :
    wpAny (model X.prog X.w) X.A (do bindName X.env n .none; unbindBehindTheSuite X.env n pos') (fun _ s7 => SP X pins D f s7) X.xe s := by
  cases f with
  | ret u =>
    obtain ⟨v, t, r, I, j, k⟩ := h
    exact gone_ok (unsuiteK I ok) hN hi hln fun s7 J => ⟨v, _, r, J, j, k⟩
  | _ =>
    obtain ⟨t, r, I, k⟩ := h
    exact gone_ok (unsuiteK I ok) hN hi hln fun s7 J => ⟨_, r, J, k⟩
/-- no clause takes it: on it flies -/
theorem flyOn {pins : List (Addr × Obj)} {σ : L2.St} {H : Hp} {sI s : Shared} {B : Heap} {a : Addr} {cls : Value} {d : Option Addr} {R : Flow → Shared → Prop} (hs : X.stack = X.env :: X.outer) (hf : X.env.frame = some X.env.locals) (tk : Takes X Wout)
    (I : Inv X pins σ H sI) (nb : ∀ b o, sI.heap.get? b = some o → b ∉ frs X.stack → B.get? b = some o) (up : sI.heap.UpToSlots s.heap) (fl : HandSPX.FlyingZ B (X.env :: X.outer) a (Zc cls d) s.heap) (na : H a = none) (os : s.os = sI.os) (ag : AllBare s.gens) (w : Wout cls d σ H) :
    wpAny (model X.prog X.w) X.A (handleBy (.ref a) X.env []) R X.xe s := by
  have e : wpAny (model X.prog X.w) X.A (setFlight (.ref a) X.env.frame) (fun _ s4 => wpAny (model X.prog X.w) X.A (throw (.ref a) : Sem Flow) R X.xe s4) X.xe s := by
    rw [hf]
    exact HandSPX.setFlight_upZ fl fun h4 q up' => wpAny_throw (tk _ _ ⟨a, B, sI, pins, σ, H, cls, d, rfl, I, nb, up.trans up', .inr (.inr (by rw [hs]; exact q)), na, os, ag, w⟩)
  obtain ⟨_, _, _, oe, vs, T, _, _, he, _, hd, h1, _⟩ := id fl
  refine wpAny_handleBy_nil ?_
  unfold PySem.passOn
  refine wpAny_bind (wpAny_field he hd h1 ?_)
  rw [if_neg (by simp)]
  first | exact wpAny_bind (wpAny_pure (wpAny_bind e)) | exact wpAny_bind e
theorem ps_try_keep (hs : X.stack = X.env :: X.outer) (hf : X.env.frame = some X.env.locals) (hN : X.N.Nodup) (hi : X.N[i]? = some n) (hln : X.env.kindOf n = some .local) (hc : Names X x c) (tk : Takes X Wout)
    (body_ : ∀ (W : WX) (pn : List (Addr × Obj)) (xe : Value → Shared → Prop), Takes (X.tr pn xe) W → PassesOwn (model X.prog X.w) X.A X.env xe → PSs (X.tr pn xe) body (tb W))
    (suite_ : ∀ (a : Addr) (cls : Value) (d : Option Addr) (pn : List (Addr × Obj)), PSs (X.suite a pn) (b₀ :: suite) (ts a cls d)) :
    PS X (.Try body [.ExceptHandler (some (.Name x np)) (some n) (b₀ :: suite) pos'] [] [] pos) (fun D σ H => tb (wKeep X.K c i ts Wout D) D σ H) := by
  refine ⟨fun pins s σ H D I h => wpAny_Try_except ?_⟩
  have ok := I.ok
  have fr0 : X.A.frames = some (X.env :: X.outer) := hs ▸ ok.frames
  have p := (body_ (wKeep X.K c i ts Wout D) (X.pn ++ pins) (fun e t => wpAny (model X.prog X.w) X.A (noteFrame e X.env) (fun _ t2 => wpAny (model X.prog X.w) X.A (setFlight e none) (fun _ t3 =>
    wpAny (model X.prog X.w) X.A (handleBy e X.env [.ExceptHandler (some (.Name x np)) (some n) (b₀ :: suite) pos']) (SP X pins D) X.xe t3) X.xe t2) X.xe t) (fun u t caught => ?_) PassesOwn.looking).run [] s σ H D (I.toTry _) h
  · refine wpAny_mono p (fun f t hsp => ?_) fun _ _ z => z
    have q := outTry ok hsp
    cases f with
    | next => exact wpAny_execs_nil q
    | _ => exact q
  · obtain ⟨a, B, sI, pins', σ', H', cls, d, rfl, J0, nb, up, sky, na, os, ag, b, hb, yes, no⟩ := caught
    have J := J0.ofTry ok
    refine Sky.land Zc.steady fr0 hf (hs ▸ sky : Sky B (X.env :: X.outer) a (Zc cls d) X.env.locals t.heap) fun h3 fl3 up3 => ?_
    have J3 : Inv X pins σ' H' { t with heap := h3 } := J.landed nb fl3.1 (up.trans up3) os ag
    have S3 := suiteK (a := a) J3
    obtain ⟨oe3, vs3, he3, hz3, hd3⟩ := fl3.there
    have out : a ∉ frs X.stack := by
      rw [hs]
      intro hm
      obtain ⟨_, o', e', z⟩ := fl3.2.2.1.mem hm
      cases he3.symm.trans e'
      exact z _ hd3
    have LT : PySem.W.Looks (model X.prog X.w) h3 (typeOf (.ref a)) cls := fun A Q E s k q => wpAny_typeOf_ref (k _ _ he3) (hz3.1 ▸ q)
    have sees : ∀ {Q E : Value → Shared → Prop}, Q c { t with heap := h3 } → wpAny (model X.prog X.w) (X.A.mark (some (.ref a))) (eval (.Name x np) X.env) Q E { t with heap := h3 } := fun q =>
      match hc with
      | ⟨hg, hd, .inl hm⟩ => ld_glob (X := X.suite a (X.pn ++ pins)) S3 hg hm q hd
      | ⟨hg, hd, .inr ⟨hm, hv, ne⟩⟩ => ld_blt (X := X.suite a (X.pn ++ pins)) S3 hg hm hv q ne hd
    refine wpAny_handleBy_cons (codeAny_handlers_test (sees ((PySem.W.exm_one (M := model X.prog X.w) J3.kIn LT hb).here ?_))) (by intro z; cases z)
    cases b with
    | false => exact flyOn hs hf tk J nb (up.trans up3) fl3 na os ag (no rfl)
    | true =>
      refine codeAny_handlers_suite_as (HandSPX.lands_againZ fl3 fun h4 fl4 up4 => ?_)
      obtain ⟨oe4, vs4, he4, hz4, hd4⟩ := fl4.there
      have J4 : Inv X pins σ' (upd H' a (excO a cls d)) { t with heap := h4 } := landedK (s' := { t with heap := h4 }) J nb fl4.1 ((up.trans up3).trans up4) os ag fl3.2.1 na out he4 hz4 hd4
      refine store_ok (X := X.suite a (X.pn ++ pins)) (v := .ref a) (suiteK J4) hN hi (.inl hln) rfl (fun s5 S5 => ?_) (.inr hln)
      exact wpAny_mono ((suite_ a cls d (X.pn ++ pins)).run [] s5 _ _ _ S5 (yes rfl a na)) (fun f s6 hsp => outSuite ok hN hi hln hsp) fun _ _ z => z.elim
end
end DL
set_option Elab.async false
set_option linter.all false
set_option maxRecDepth 100000
set_option maxHeartbeats 4000000
namespace DL
open PySem PySem.Spec PyProof.Rows L2
section
variable {K : PySem.W.Frag} {s : Wd} {μ : Mu}
/-- the world that holds an exception's object too -/
def Wd.trk (s : Wd) (a : Addr) (o : HO) : Wd := { s with H := upd s.H a o, F := upd s.F a o }
theorem trk_ok {a : Addr} {o : HO} (R : Rep K s μ) (na : s.H a = none) : Rep K (s.trk a o) μ ∧ Ext s μ.length (s.trk a o) μ.length := by
  have fa : s.F a = none := by
    cases q : s.F a with
    | none => rfl
    | some u => rw [R.sub a u q] at na; cases na
  have eF : Same s.F (upd s.F a o) := fun b u q => by rw [upd_ne (ne_of_none q fa)]; exact q
  have eH : ∀ b u, s.H b = some u → upd s.H a o b = some u := fun b u q => by rw [upd_ne (ne_of_none q na)]; exact q
  refine ⟨R.of rfl (fun b u q => ?_) (fun n c q => ?_) (fun b h => upd_live h) (R.beside eF fun n b hn hb => keeps_putF fun z => R.live n b hn hb (z ▸ na)), ⟨eF, fun _ _ => rfl, Nat.le_refl _, fun b u q _ => eH b u q, fun b h1 _ h3 _ => ?_, fun n h1 h2 => absurd h1 (Nat.not_le_of_lt h2), fun n a h1 h2 => .inr ⟨h1, h2⟩, fun b h => upd_live h⟩⟩
  · have q' : upd s.F a o b = some u := q
    show upd s.H a o b = some u
    by_cases hb : b = a
    · subst hb
      rw [upd_same] at q' ⊢
      exact q'
    · rw [upd_ne hb] at q' ⊢
      exact R.sub b u q'
  · have C := R.cell n c q
    have hn : s.L n ≠ a := fun e => R.here (List.getElem?_eq_some_iff.mp q).1 (by rw [e]; exact na)
    cases c with
    | lst xs =>
      obtain ⟨h1, ws, h2, h3⟩ := C
      exact ⟨(upd_ne hn).trans h1, ws, eH _ _ h2, h3.mono eF⟩
    | frz xs =>
      obtain ⟨ws, h2, h3⟩ := C
      exact ⟨ws, eF _ _ h2, h3.mono eF⟩
    | dct kvs =>
      obtain ⟨h1, ks, h2, h3, h4⟩ := C
      exact ⟨(upd_ne hn).trans h1, ks, eH _ _ h2, h3, h4.mono eF⟩
    | dck kvs =>
      obtain ⟨h1, ks, h2, h3, h4⟩ := C
      exact ⟨(upd_ne hn).trans h1, ks, eH _ _ h2, h3, h4.mono eF⟩
    | abs P =>
      obtain ⟨xs, hP, h1, ws, h2, h3⟩ := C
      exact ⟨xs, hP, (upd_ne hn).trans h1, ws, eH _ _ h2, h3.mono eF⟩
    | tab P nm => exact ⟨C.1, C.2.to eF ((upd_ne hn).trans C.2.nf) fun _ z => eH _ _ z⟩
    | own t => exact upd_live C
    | dead => exact upd_live C
  · show upd s.F a o b = none
    have : b ≠ a := fun e => h3 (by rw [e]; exact na)
    rw [upd_ne this]
    exact h1
end
/-- a block that raises, if it does, with the slots as they were ahead of it -/
structure DSx (X : Cx) (W : WX) (st : List Stmt) (td : TDS) : Prop where
  ex : ∃ t : TS, PSs X st t ∧ ∀ (s : Wd) (σ : L2.St) (η : DEnv) (μ : Mu) (D : Ends) (d : DEnds) (E : XQ), Sit X.K s μ σ η → td d E η μ → LS X.K s μ.length d EF D W → LX X.K s μ.length σ E W → t D σ s.H
def upS (K : PySem.W.Frag) (W : WX) (td : TDS) : TS := fun D σ H => ∃ (s : Wd) (η : DEnv) (μ : Mu) (d : DEnds) (E : XQ), s.H = H ∧ Sit K s μ σ η ∧ td d E η μ ∧ LS K s μ.length d EF D W ∧ LX K s μ.length σ E W
theorem up_dsx {X : Cx} {W : WX} {st : List Stmt} {td : TDS} (h : DSx X W st td) : PSs X st (upS X.K W td) := by
  obtain ⟨t, p, g⟩ := h.ex
  refine ⟨fun pins sh σ H D I hq => ?_⟩
  obtain ⟨s, η, μ, d, E, rfl, S, q, l, lx⟩ := hq
  exact p.run pins sh σ s.H D I (g s σ η μ D d E S q l lx)
theorem LS.none {K : PySem.W.Frag} {s : Wd} {N : Nat} {d : DEnds} {E : XQ} {D : Ends} {W W' : WX} (l : LS K s N d E D W) : LS K s N d EF D W' := ⟨l.nx, l.rt, l.bk, l.ct, fun _ _ _ _ _ _ z => z.elim⟩
def upN (K : PySem.W.Frag) (td : TDS) : TS := fun D σ H => ∃ (s : Wd) (η : DEnv) (μ : Mu) (d : DEnds), s.H = H ∧ Sit K s μ σ η ∧ td d EF η μ ∧ LS K s μ.length d EF D WF
theorem up_dss {X : Cx} {st : List Stmt} {td : TDS} (h : DSs X WF st td) : PSs X st (upN X.K td) := by
  obtain ⟨t, p, g⟩ := h.ex
  refine ⟨fun pins sh σ H D I hq => ?_⟩
  obtain ⟨s, η, μ, d, rfl, S, q, l⟩ := hq
  exact p.run pins sh σ s.H D I (g s σ η μ D d EF S q l)
section
variable {X : Cx} {W : WX} {e : Expr} {te : TDE} {pos : Pos}
theorem dsx_expr (h : DE X W e te) (hs : swapsWith e none pos.line X.env = pure false := by rfl) : DSx X W [.Expr e pos] (sDrop te) := by
  obtain ⟨t1, p1, g1⟩ := h.ex
  exact ⟨_, pss_one (ps_expr p1 hs), fun s σ η μ D d E S hq l lx => g1 s σ η μ _ _ E S hq (fun ev μ1 v s1 hk x R r f => l.nx η μ1 σ s1 hk x (S.go x R)) lx⟩
end
/-- try: body, except C as n: suite; the exception stands in slot i -/
def sTry (K : PySem.W.Frag) (c : Value) (i : Nat) (tb ts : TDS) : TDS := fun d E η μ => tb d (fun x μ' => ∃ b, PySem.W.exmOne K (.ref x.c) c = some b ∧
  (b = true → ts { nx := fun η' μ2 => d.nx (η'.set i none) μ2, rt := d.rt, bk := fun η' μ2 => d.bk (η'.set i none) μ2, ct := fun η' μ2 => d.ct (η'.set i none) μ2 } EF (η.set i (some (.exc x))) μ') ∧ (b = false → E x μ')) η μ
section
variable {X : Cx} {W : WX} {x n : Str} {c : Value} {i : Nat} {body suite : List Stmt} {b₀ : Stmt} {np pos pos' : Pos} {tb ts : TDS}
theorem ds_try (hs : X.stack = X.env :: X.outer) (hf : X.env.frame = some X.env.locals) (hN : X.N.Nodup) (hi : X.N[i]? = some n) (hln : X.env.kindOf n = some .local) (hc : Names X x c) (tk : Takes X W)
    (hb : ∀ (W' : WX) (pn : List (Addr × Obj)) (xe : Value → Shared → Prop), Takes (X.tr pn xe) W' → PassesOwn (model X.prog X.w) X.A X.env xe → DSx (X.tr pn xe) W' body tb)
    (hsu : ∀ (a : Addr) (pn : List (Addr × Obj)), DSs (X.suite a pn) WF (b₀ :: suite) ts) :
    DS X W (.Try body [.ExceptHandler (some (.Name x np)) (some n) (b₀ :: suite) pos'] [] [] pos) (sTry X.K c i tb ts) := by
  refine ⟨_, ps_try_keep (tb := fun W' => upS X.K W' tb) (ts := fun _ _ _ => upN X.K ts) hs hf hN hi hln hc tk (fun W' pn xe tk' po => up_dsx (hb W' pn xe tk' po)) (fun a _ _ pn => up_dss (hsu a pn)), fun s σ η μ D d E S hq l => ?_⟩
  refine ⟨s, η, μ, d, _, rfl, S, hq, l.none, fun y μ' cls dd s' hE x' R r => ?_⟩
  obtain ⟨b, hb1, yes, no⟩ := hE
  obtain ⟨rfl, hr⟩ := id r
  refine ⟨b, hb1, fun h a na => ?_, fun h => l.xq y μ' _ dd σ s' (no h) x' R r⟩
  obtain ⟨R2, x2⟩ := trk_ok (o := excO a (.ref y.c) dd) R na
  have x3 := x'.trans x2 fun n hn => R.here hn
  have v : VR X.K (s'.trk a (excO a (.ref y.c) dd)) μ'.length (.ref a) (.exc y) := ⟨a, dd, rfl, upd_same, fun h => by
    rw [h] at hr
    cases dd with
    | none => rfl
    | some _ => exact hr.elim, fun fs h => by
    rw [h] at hr
    cases dd with
    | none => exact hr.elim
    | some e =>
      obtain ⟨ws, h1, h2, h3⟩ := hr
      exact ⟨e, ws, rfl, x2.f _ _ h1, h2, h3.mono x2.f⟩⟩
  have S2 : Sit X.K (s'.trk a (excO a (.ref y.c) dd)) μ' (σ.set i (some (.ref a))) (η.set i (some (.exc y))) := ⟨R2, (S.er.ext x3).set i v⟩
  have l2 := l.go x3 R2
  refine ⟨_, _, μ', _, rfl, S2, yes h, ⟨fun η' μ3 σ' s3 hk x4 S4 => ?_, l2.rt, fun η' μ3 σ' s3 hk x4 S4 => ?_, fun η' μ3 σ' s3 hk x4 S4 => ?_, fun _ _ _ _ _ _ z => z.elim⟩⟩
  · exact l2.nx _ μ3 _ s3 hk x4 ⟨S4.rep, S4.er.wipe1 i⟩
  · exact l2.bk _ μ3 _ s3 hk x4 ⟨S4.rep, S4.er.wipe1 i⟩
  · exact l2.ct _ μ3 _ s3 hk x4 ⟨S4.rep, S4.er.wipe1 i⟩
end
/-- raise C('m'), C without own __init__ -/
def sRaise (C : Addr) : TDS := fun _ E _ μ => E ⟨C, none⟩ μ
theorem ds_raise {X : Cx} {W : WX} {C : Addr} {bmB : List Value} {B newId initId : String} {x m : Str} {j : Nat} {p p2 pos pos' : Pos} (hc : X.calm = true) (tk : Takes X W) (F : ExcBaseFacts B newId initId bmB) (q : PySem.W.excIn X.K C bmB newId = true) (gC : X.mg x = some (.ref C)) (kC : PySem.W.keepIn X.K (.ref C) = true) (r : Raises X (.ref C)) (hg : Gl X x)
    (hdb : (x == ("__debug__" : Str)) = false := by decide) : DS X W (.Raise (some (.Call (.Name x p) [.Constant (.str m) j p2] [] pos)) none pos') (sRaise C) :=
  ⟨_, ps_raise hc tk (pmk_own F q gC kC r hg hdb), fun s σ η μ D d E S hq l => l.xq ⟨C, none⟩ μ (.ref C) none σ s hq (Ext.refl _ _) S.rep ⟨rfl, trivial⟩⟩
/-- isinstance of a caught one that is kept -/
def rIsK (K : PySem.W.Frag) : List V → Hp → VK → Prop := fun xs H Q => ∃ (a D : Addr) (c : V) (cv : Value) (b : Bool), xs = [.ref a, c] ∧ (H a = some (excO a (.ref D) none) ∨ ∃ dd fs, H a = some (excO a (.ref D) (some dd)) ∧ H dd = some (.xd fs)) ∧ ExcC K D ∧ (∀ u, RelV c u → u = cv) ∧ PySem.W.kitOne K (.ref D) cv = some b ∧ Q (.bl b) H
theorem call_isK {X : Cx} : CallR X (.builtin "isinstance") (rIsK X.K) := by
  intro pins s σ H xs us Q I r h
  obtain ⟨a, D, c, cv, b, rfl, hH, C, hcv, e, q⟩ := h
  cases r with
  | cons rx rr =>
    cases rr with
    | cons rt rr =>
      cases rr
      cases rx
      cases hcv _ rt
      rcases hH with hH | ⟨dd, fs, hH, hdd⟩
      case inr =>
        obtain ⟨⟨oe, vs, hget, hz, hv⟩, _, _⟩ := I.hok a _ hH
        have hx : ObjOk X.prog X.w H s.heap dd (.xd fs) := I.hok dd _ hdd
        obtain ⟨mA, hns, hr⟩ := hx
        obtain ⟨od, ho, hl⟩ := lookIn_ns hns
        have J : PySem.W.InstAt s.heap a oe D (some od) := ⟨hget, hz.1, by unfold PySem.W.notCls; rw [hv] <;> rfl, by rw [hz.2]; exact ho⟩
        obtain ⟨cd, hcd, _⟩ := PySem.W.any_some C.hd
        exact PySem.W.kia_one (PySem.W.kitx_exc (by rw [hcd]; rfl) C.hg C.hk C.hs C.ha C.hn C.ht C.hm) I.kIn J e (fun z => nomatch z) fun tk => ⟨.bl b, H, I.kept (t' := tk) fun _ _ z => z, rfl, q⟩
      obtain ⟨⟨oe, vs, hget, hz, hv⟩, _, _⟩ := I.hok a _ hH
      have J : PySem.W.InstAt s.heap a oe D none := by
        obtain ⟨oc, od, oda, osl⟩ := oe
        obtain ⟨h1, h2⟩ := hz
        dsimp only at h1 h2 hv
        subst h1 h2 hv
        exact ⟨hget, rfl, rfl, trivial⟩
      exact PySem.W.kia_one (PySem.W.handS_kitx_exc C.hg C.hk C.hs C.hd C.ha C.hn C.ht C.hm) I.kIn J e (fun z => nomatch z) fun tk => ⟨.bl b, H, I.kept (t' := tk) fun _ _ z => z, rfl, q⟩
/-- .. by data: the class is a value that is known -/
def oIsK (K : PySem.W.Frag) (D : Addr → Prop) : CD := fun es μ q => match es with
  | [.exc y, .raw v] => ExcC K y.c ∧ ∃ cv b, (∀ u, RelV v u → u = cv) ∧ PySem.W.kitOne K (.ref y.c) cv = some b ∧ q (.dat (.bool b)) μ
  | _ => False
theorem cs_isK {K : PySem.W.Frag} {D : Addr → Prop} : CallS K (rIsK K) (oIsK K D) := by
  intro s0 N0 s μ xs es q Q R xt r h l
  unfold oIsK at h
  split at h
  · rename_i y u
    obtain ⟨C, cv, b, h1, h2, hq⟩ := h
    cases r with
    | cons rx fx rr =>
      cases rr with
      | cons ry fy rr =>
        cases rr
        obtain ⟨a, d, rfl, e, hd, hd2⟩ := rx
        cases ry
        cases hf : y.fs with
        | none =>
          cases hd hf
          exact ⟨a, _, _, cv, b, rfl, .inl (R.sub _ _ e), C, h1, h2, l _ _ _ s hq xt R (.bl b) trivial⟩
        | some fs =>
          obtain ⟨dd, ws, rfl, g1, _, _⟩ := hd2 fs hf
          exact ⟨a, _, _, cv, b, rfl, .inr ⟨dd, ws, R.sub _ _ e, R.sub _ _ g1⟩, C, h1, h2, l _ _ _ s hq xt R (.bl b) trivial⟩
  · exact h.elim
end DL
set_option Elab.async false
set_option linter.all false
set_option maxRecDepth 100000
set_option maxHeartbeats 4000000
namespace DL
open PySem PySem.Spec PyProof.Rows L2
/-! ### in, sorted, int, classes as values -/
section
variable {X : Cx} {W : WX} {e : Expr} {te : TDE} {pos : Pos}
/-- a class of the program as a value -/
theorem de_gcls {x : Str} {C : Addr} (hm : X.mg x = some (.ref C)) (hg : Gl X x := by rfl) (hd : (x == ("__debug__" : Str)) = false := by decide) : DE X W (.Name x pos) (dRaw (.ref C)) := de_raw (pe_glob (v := .ref C) hg hm rfl hd)
end
/-- the data that a list or a tuple holds -/
def boxD : PyData → Option (List PyData)
  | .list ds => some ds
  | .tuple ds => some ds
  | _ => none
def rMem (K : PySem.W.Frag) (neg : Bool) : R2 := fun x y H Q => ∃ d c ds, Dp K H x d ∧ Dp K H y c ∧ boxD c = some ds ∧ d.canLay0 = true ∧ c.canLay0 = true ∧ d.depth ≤ 60 ∧ Q (.bl (if neg then !ds.any fun z => PyData.eqv z d else ds.any fun z => PyData.eqv z d)) H
theorem opD_in {X : Cx} (hu : X.A.units + 64 < cLine) : OpR X (compareOp .In) (rMem X.K false) := by
  intro pins s σ H x y v u Q I rx ry h
  obtain ⟨d, c, ds, hd, hc, hb, ld, lc, dd, q⟩ := h
  obtain ⟨as, r1⟩ := Dp.reads I d x v hd rx
  obtain ⟨bs, r2⟩ := Dp.reads I c y u hc ry
  have room : X.A.units + 1 + min (PyData.depthAll ds) d.depth < cLine := by omega
  cases c with
  | list es =>
    cases hb
    exact SeqAt.in_list_reads r2 r1 (by simpa [PyData.canLay0] using lc) ld room ⟨.bl _, H, I, rfl, q⟩
  | tuple es =>
    cases hb
    exact SeqAt.in_tuple_reads r2 r1 (by simpa [PyData.canLay0] using lc) ld room ⟨.bl _, H, I, rfl, q⟩
  | _ => cases hb
theorem opD_notIn {X : Cx} (hu : X.A.units + 64 < cLine) : OpR X (compareOp .NotIn) (rMem X.K true) := by
  intro pins s σ H x y v u Q I rx ry h
  obtain ⟨d, c, ds, hd, hc, hb, ld, lc, dd, q⟩ := h
  obtain ⟨as, r1⟩ := Dp.reads I d x v hd rx
  obtain ⟨bs, r2⟩ := Dp.reads I c y u hc ry
  have room : X.A.units + 1 + min (PyData.depthAll ds) d.depth < cLine := by omega
  cases c with
  | list es =>
    cases hb
    exact SeqAt.notIn_list_reads r2 r1 (by simpa [PyData.canLay0] using lc) ld room ⟨.bl _, H, I, rfl, q⟩
  | tuple es =>
    cases hb
    exact SeqAt.notIn_tuple_reads r2 r1 (by simpa [PyData.canLay0] using lc) ld room ⟨.bl _, H, I, rfl, q⟩
  | _ => cases hb
def oMem (neg : Bool) : OD := fun x y μ q => match datOf μ x, datOf μ y with
  | some d, some c => match boxD c with
    | some ds => (noD d = true ∧ noD c = true) ∧ d.depth ≤ 60 ∧ q (.dat (.bool (if neg then !ds.any fun z => PyData.eqv z d else ds.any fun z => PyData.eqv z d))) μ
    | none => False
  | _, _ => False
theorem os_mem {K : PySem.W.Frag} {neg : Bool} : OpS K (rMem K neg) (oMem neg) := by
  intro s0 N0 s μ x y ex ey q Q R xt rx fx ry fy h l
  unfold oMem at h
  split at h
  · rename_i d c hd hc
    split at h
    · rename_i ds hb
      obtain ⟨⟨n1, n2⟩, h⟩ := h
      obtain ⟨a1, a2⟩ := dat_ok R rx hd n1
      obtain ⟨b1, b2⟩ := dat_ok R ry hc n2
      exact ⟨d, c, ds, a1, b1, hb, a2, b2, h.1, ans R xt l h.2 (.bl _)⟩
    · exact h.elim
  · exact h.elim
/-- int(x) -/
def oInt : CD := fun es μ q => match es with
  | [.dat (.int i)] => q (.dat (.int i)) μ
  | [.dat (.bool b)] => q (.dat (.int (if b then 1 else 0))) μ
  | _ => False
theorem cs_int {K : PySem.W.Frag} : CallS K (fun xs H Q => (∃ i, xs = [.int i] ∧ Q (.int i) H) ∨ ∃ k, xs = [.bl k] ∧ Q (.int (if k then 1 else 0)) H) oInt := by
  intro s0 N0 s μ xs es q Q R xt r h l
  unfold oInt at h
  split at h
  · cases r with
    | cons rx fx rr =>
      cases rr
      cases (show DR K s.F _ (.int _) from rx)
      exact .inl ⟨_, rfl, ans R xt l h (.int _)⟩
  · cases r with
    | cons rx fx rr =>
      cases rr
      cases (show DR K s.F _ (.bool _) from rx)
      exact .inr ⟨_, rfl, ans R xt l h (.int _)⟩
  · exact h.elim
end DL
set_option Elab.async false
set_option linter.all false
set_option maxRecDepth 100000
set_option maxHeartbeats 4000000
namespace DL
open PySem L2 PyProof.Rows
section
variable {K : PySem.W.Frag} {c : Value} {C : Addr} {i : Nat} {tb ts v : TDS} {d : DEnds} {E : XQ} {η : DEnv} {μ : Mu} {q : PQ}
theorem s_raise (h : E ⟨C, none⟩ μ) : sRaise C d E η μ := h
theorem q_raise (h : E ⟨C, none⟩ μ) : sSeq (sRaise C) v d E η μ := h
theorem int_b {b : Bool} : oInt [.dat (.bool b)] μ q = q (.dat (.int (if b then 1 else 0))) μ := Eq.trans rfl rfl
/-- some of them is the thing -/
def has (ds : List PyData) (d : PyData) : Bool := ds.any fun z => PyData.eqv z d
theorem isK_e {D : Addr → Prop} {y : Exn} {u : V} : oIsK K D [.exc y, .raw u] μ q = (ExcC K y.c ∧ ∃ cv b, (∀ w, RelV u w → w = cv) ∧ PySem.W.kitOne K (.ref y.c) cv = some b ∧ q (.dat (.bool b)) μ) := Eq.trans rfl rfl
theorem rel_ref {C : Addr} : ∀ w, RelV (.ref C) w → w = .ref C := fun w h => by cases h; rfl
theorem rel_ty {z : String} : ∀ w, RelV (.ty z) w → w = .type z := fun w h => by cases h; rfl
end
/-- equality of data with itself -/
theorem bt_ValueError : bootBuiltins "ValueError" = some (.type "ValueError") := by decide +kernel
end DL
set_option Elab.async false
set_option linter.all false
set_option maxRecDepth 100000
set_option maxHeartbeats 4000000
namespace DL
open PySem L2 PyProof.Rows
/-! ### defs with defaults -/
section
variable {X : Cx} {W : WX} {x n : Str} {c : Value} {i : Nat} {body suite : List Stmt} {b₀ : Stmt} {np pos pos' : Pos} {tb ts : TDS}
theorem ds_tryK {K : PySem.W.Frag} (hK : X.K = K) (hs : X.stack = X.env :: X.outer) (hf : X.env.frame = some X.env.locals) (hN : X.N.Nodup) (hi : X.N[i]? = some n) (hln : X.env.kindOf n = some .local) (hc : Names X x c) (tk : Takes X W)
    (hb : ∀ (W' : WX) (pn : List (Addr × Obj)) (xe : Value → Shared → Prop), Takes (X.tr pn xe) W' → PassesOwn (model X.prog X.w) X.A X.env xe → DSx (X.tr pn xe) W' body tb)
    (hsu : ∀ (a : Addr) (pn : List (Addr × Obj)), DSs (X.suite a pn) WF (b₀ :: suite) ts) :
    DS X W (.Try body [.ExceptHandler (some (.Name x np)) (some n) (b₀ :: suite) pos'] [] [] pos) (sTry K c i tb ts) := by
  subst hK
  exact ds_try hs hf hN hi hln hc tk hb hsu
end
end DL
set_option Elab.async false
set_option linter.all false
set_option maxRecDepth 100000
set_option maxHeartbeats 4000000
namespace DL
open PySem L2 PyProof.Rows
/-! ### lists that are known by a property alone -/
section
variable {K : PySem.W.Frag} {s : Wd} {μ : Mu} {n : Nat} {P : List PyData → Prop} {xs : List PyData}
theorem Rep.cellSet (R : Rep K s μ) (c : Cell) (h : CellAt K s (s.L n) c) (ho : ∀ t, c ≠ .own t := by intro t z; cases z) : Rep K s (μ.set n c) :=
  R.of (by simp) R.sub (fun m c' q => by
    by_cases e : n = m
    · subst e
      by_cases hl : n < μ.length
      · rw [List.getElem?_set_self hl] at q
        cases q
        exact h
      · rw [List.getElem?_eq_none (by simpa using hl)] at q
        cases q
    · rw [List.getElem?_set_ne e] at q
      exact R.cell m c' q) (fun _ h => h) (fun m t q => by
    by_cases e : n = m
    · subst e
      by_cases hl : n < μ.length
      · rw [List.getElem?_set_self hl] at q
        cases q
        exact absurd rfl (ho t)
      · rw [List.getElem?_eq_none (by simpa using hl)] at q
        cases q
    · rw [List.getElem?_set_ne e] at q
      exact R.tree m t q)
theorem Rep.open (R : Rep K s μ) (h : μ[n]? = some (.abs P)) : ∃ xs, P xs ∧ Rep K s (μ.set n (.lst xs)) := by
  obtain ⟨xs, hP, c⟩ := R.cell n _ h
  exact ⟨xs, hP, R.cellSet (.lst xs) c⟩
theorem Rep.close (R : Rep K s μ) (h : μ[n]? = some (.lst xs)) (hP : P xs) : Rep K s (μ.set n (.abs P)) := R.cellSet (.abs P) ⟨xs, hP, R.cell n _ h⟩
theorem set_back {c c' : Cell} (h : μ[n]? = some c) : (μ.set n c').set n c = μ := by
  rw [List.set_set]
  obtain ⟨h1, h2⟩ := List.getElem?_eq_some_iff.mp h
  rw [← h2, List.set_getElem_self]
theorem spOf_abs {k : Nat} {spc spa : SpD} (h : ∀ es μ q x, spa es μ q x → ∃ n P, μ[n]? = some (.abs P) ∧ ∀ xs, P xs → spc es (μ.set n (.lst xs)) (fun e μ' => ∃ ys, P ys ∧ μ' = μ.set n (.lst ys) ∧ q e μ) (fun _ _ => False))
    {vs : List V} {H : Hp} {Q : VK} {E : XK} (hs : spOf K k spa vs H Q E) : spOf K k spc vs H Q E := by
  obtain ⟨hl, s, μ, es, q, x, rfl, R, hv, hsp, l, lx⟩ := hs
  obtain ⟨n, P, hn, hx⟩ := h es μ q x hsp
  obtain ⟨xs, hP, R'⟩ := R.open hn
  refine ⟨hl, s, μ.set n (.lst xs), es, _, _, rfl, R', by rw [List.length_set]; exact hv, hx xs hP, fun e μ' v s' hq x' R2 r f => ?_, fun _ _ _ _ _ z => z.elim⟩
  obtain ⟨ys, hP2, rfl, hq⟩ := hq
  have hlt := (List.getElem?_eq_some_iff.mp hn).1
  have R3 := R2.close (n := n) (xs := ys) (by rw [List.getElem?_set_self hlt]) hP2
  rw [set_back hn] at R3
  rw [List.length_set] at r
  rw [List.length_set, List.length_set] at x'
  exact l e μ v s' hq x' R3 r f
theorem DefAt.abs {Pr : Program} {w : World} {mg : Str → Option Value} {base : Heap} {x : Str} {k : Nat} {ps : List Str} {dvs : List V} {ds : List Value} {spc spa : SpD} (D : DefAt Pr w K mg base x k ps dvs ds spc)
    (h : ∀ es μ q x, spa es μ q x → ∃ n P, μ[n]? = some (.abs P) ∧ ∀ xs, P xs → spc es (μ.set n (.lst xs)) (fun e μ' => ∃ ys, P ys ∧ μ' = μ.set n (.lst ys) ∧ q e μ) (fun _ _ => False)) : DefAt Pr w K mg base x k ps dvs ds spa := by
  obtain ⟨f, fd, G, h1, h2, h3⟩ := D.ex
  exact ⟨⟨f, fd, G.imp fun vs H Q E hs => spOf_abs h hs, h1, h2, h3⟩, D.dv⟩
end
/-- a drawing state -/
def rngP (xs : List PyData) : Prop := ∃ a b : Int, xs = [.int a, .int b] ∧ 0 ≤ a ∧ a < 2147483648
def isR (μ : Mu) (n : Nat) : Prop := μ[n]? = some (.abs rngP)
theorem isR.lt {μ : Mu} {n : Nat} (h : isR μ n) : n < μ.length := get_lt h
theorem isR_app {μ ν : Mu} {n : Nat} (h : isR μ n) : isR (μ ++ ν) n = True := eq_true (by
  unfold isR
  rw [List.getElem?_append_left h.lt]
  exact h)
theorem isR_h {μ : Mu} {n : Nat} (h : isR μ n) : isR μ n = True := eq_true h
theorem isR_last {μ ν : Mu} : isR (μ ++ .abs rngP :: ν) μ.length = True := eq_true (by simp [isR])
def sp_nextA : SpD := fun es μ q _ => match es with
  | [.loc n, .dat (.int k)] => isR μ n ∧ 0 < k ∧ k < 1073741824 ∧ ∀ r : Int, 0 ≤ r → r < k → q (.dat (.int r)) μ
  | _ => False
theorem nextA_eq {n : Nat} {k : Int} {μ : Mu} {q : PQ} {x : XQ} : sp_nextA [.loc n, .dat (.int k)] μ q x = (isR μ n ∧ 0 < k ∧ k < 1073741824 ∧ ∀ r : Int, 0 ≤ r → r < k → q (.dat (.int r)) μ) := Eq.trans rfl rfl
theorem next_abs : ∀ es μ q x, sp_nextA es μ q x → ∃ n P, μ[n]? = some (.abs P) ∧ ∀ xs, P xs → sp_next es (μ.set n (.lst xs)) (fun e μ' => ∃ ys, P ys ∧ μ' = μ.set n (.lst ys) ∧ q e μ) (fun _ _ => False) := by
  intro es μ q x h
  unfold sp_nextA at h
  split at h
  · rename_i n k
    obtain ⟨hr, h0, h1, hq⟩ := h
    refine ⟨n, rngP, hr, fun xs hP => ?_⟩
    obtain ⟨a, b, rfl, ha, hb⟩ := hP
    refine ⟨n, k, rfl, ⟨a, b, List.getElem?_set_self hr.lt, ha, hb⟩, h0, h1, fun r μ' r0 r1 st => ?_⟩
    obtain ⟨a', b', rfl, ha', hb'⟩ := st
    exact ⟨_, ⟨a', b', rfl, ha', hb'⟩, by rw [List.set_set], hq r r0 r1⟩
  · exact h.elim
def cellAK (P : List PyData → Prop) (q : PQ) : PQ := fun e μ1 => match e with
  | .new xs => P xs ∧ q (.loc μ1.length) (μ1 ++ [.abs P])
  | _ => False
/-- a new list known by a property -/
def dCellA (P : List PyData → Prop) (t : TDE) : TDE := fun η μ q E => t η μ (cellAK P q) E
theorem sem_cellA {K : PySem.W.Frag} {W : WX} {P : List PyData → Prop} {t : TE} {td : TDE} (g : SemE K W t td) : SemE K W t (dCellA P td) := fun s σ η μ Q q E S hq l lx => g s σ η μ Q _ E S hq (fun e μ' v s' hk x R r f => by
  cases e with
  | new xs =>
    obtain ⟨hP, hk⟩ := hk
    obtain ⟨p, vs, rfl, h1, h2, h3, h4⟩ := r
    obtain ⟨a1, a2⟩ := cell_new R x h1 h2 h3 h4 (f p rfl)
    have a3 := a1.close (n := μ'.length) (xs := xs) (by simp) hP
    have e1 : (μ' ++ [Cell.lst xs]).set μ'.length (.abs P) = μ' ++ [.abs P] := by simp
    rw [e1] at a3
    have e2 : (μ' ++ [Cell.abs P]).length = (μ' ++ [Cell.lst xs]).length := by simp
    exact l (.loc μ'.length) _ _ (newL s' μ'.length p (· = p)) hk (by rw [e2]; exact a2) a3 ⟨by simp, by rw [newL_L]⟩ trivial
  | dat d => exact hk.elim
  | loc d => exact hk.elim
  | raw d => exact hk.elim
  | exc d => exact hk.elim
  | ro d => exact hk.elim
  | newd d => exact hk.elim
  | newk d => exact hk.elim
  | «at» _ _ _ => exact hk.elim
  | newo _ => exact hk.elim
  | per _ => exact hk.elim) lx
theorem de_cellA {X : Cx} {W : WX} {e : Expr} {te : TDE} (P : List PyData → Prop) (h : DE X W e te) : DE X W e (dCellA P te) := by
  obtain ⟨t, hp, g⟩ := h.ex
  exact de_pe hp (sem_cellA g)
theorem x_dCellA {P : List PyData → Prop} {t : TDE} {η : DEnv} {μ : Mu} {q : PQ} {E : XQ} : dCellA P t η μ q E = t η μ (cellAK P q) E := Eq.trans rfl rfl
theorem cellA_new {P : List PyData → Prop} {q : PQ} {μ : Mu} {xs : List PyData} : cellAK P q (.new xs) μ = (P xs ∧ q (.loc μ.length) (μ ++ [.abs P])) := Eq.trans rfl rfl
def sp_stateA : SpD := fun es μ q _ => match es with
  | [.dat (.int c), .dat (.int k)] => 0 ≤ k ∧ k ≤ 1000 ∧ ∀ xs, rngP xs → q (.new xs) μ
  | _ => False
theorem stateA_eq {c k : Int} {μ : Mu} {q : PQ} {x : XQ} : sp_stateA [.dat (.int c), .dat (.int k)] μ q x = (0 ≤ k ∧ k ≤ 1000 ∧ ∀ xs, rngP xs → q (.new xs) μ) := Eq.trans rfl rfl
theorem DefAt.imp {K : PySem.W.Frag} {Pr : Program} {w : World} {mg : Str → Option Value} {base : Heap} {x : Str} {k : Nat} {ps : List Str} {dvs : List V} {ds : List Value} {sp sp' : SpD} (D : DefAt Pr w K mg base x k ps dvs ds sp)
    (h : ∀ es μ q x, sp' es μ q x → sp es μ q x) : DefAt Pr w K mg base x k ps dvs ds sp' := by
  obtain ⟨f, fd, G, h1, h2, h3⟩ := D.ex
  refine ⟨⟨f, fd, G.imp fun vs H Q E hs => ?_, h1, h2, h3⟩, D.dv⟩
  obtain ⟨hl, s, μ, es, q, x, e, R, hv, hsp, l, lx⟩ := hs
  exact ⟨hl, s, μ, es, q, x, e, R, hv, h es μ q x hsp, l, lx⟩
theorem state_abs : ∀ es μ q x, sp_stateA es μ q x → sp_state es μ q x := by
  intro es μ q x h
  unfold sp_stateA at h
  split at h
  · exact ⟨_, _, rfl, h.1, h.2.1, fun a b h0 h1 => h.2.2 _ ⟨a, b, rfl, h0, h1⟩⟩
  · exact h.elim
def sp_cellA : SpD := fun es μ q _ => match es with
  | [.ro ds, .dat (.int k)] => ∃ ns : List Int, ds = ns.map .int ∧ 0 ≤ k ∧ k ≤ 1000 ∧ ns.length ≤ 63 ∧ ∀ r : Int, q (.dat (.int r)) μ
  | _ => False
theorem map_int_inj {a b : List Int} : (a.map PyData.int = b.map PyData.int) = (a = b) := propext ⟨fun h => by
  have := congrArg (fun l => l.map fun d => match d with | PyData.int i => i | _ => 0) h
  simpa [Function.comp_def] using this, fun h => by rw [h]⟩
theorem cellA_eq {ns : List Int} {k : Int} {μ : Mu} {q : PQ} {x : XQ} : sp_cellA [.ro (ns.map .int), .dat (.int k)] μ q x = (0 ≤ k ∧ k ≤ 1000 ∧ ns.length ≤ 63 ∧ ∀ r : Int, q (.dat (.int r)) μ) := by
  unfold sp_cellA
  simp only [map_int_inj]
  exact propext ⟨fun ⟨ms, e, h⟩ => by subst e; exact h, fun h => ⟨ns, rfl, h⟩⟩
theorem cell_abs : ∀ es μ q x, sp_cellA es μ q x → sp_cell es μ q x := by
  intro es μ q x h
  unfold sp_cellA at h
  split at h
  · obtain ⟨ns, rfl, h⟩ := h
    exact ⟨ns, _, rfl, h⟩
  · exact h.elim
/-! ### slots forgotten -/
def forget (η : DEnv) : List Nat → DEnv
  | [] => η
  | v :: vs => (forget η vs).set v none
theorem ER.forget {K : PySem.W.Frag} {s : Wd} {N : Nat} {σ : L2.St} {η : DEnv} (h : ER K s N σ η) (vs : List Nat) : ER K s N σ (DL.forget η vs) := by
  induction vs with
  | nil => exact h
  | cons v vs ih =>
    refine ih.sub (by simp [DL.forget]) fun i e q => ?_
    unfold DL.forget at q
    by_cases hj : v = i
    · subst hj
      by_cases hl : v < (DL.forget η vs).length
      · rw [List.getElem?_set_self hl] at q
        cases q
      · rw [List.getElem?_eq_none (by simpa using hl)] at q
        cases q
    · rwa [List.getElem?_set_ne hj] at q
theorem Sit.forget {K : PySem.W.Frag} {s : Wd} {μ : Mu} {σ : L2.St} {η : DEnv} (h : Sit K s μ σ η) (vs : List Nat) : Sit K s μ σ (DL.forget η vs) := ⟨h.rep, h.er.forget vs⟩
theorem fg_nil {η : DEnv} : forget η [] = η := Eq.trans rfl rfl
theorem fg_cons {η : DEnv} {v : Nat} {vs : List Nat} : forget η (v :: vs) = (forget η vs).set v none := Eq.trans rfl rfl
/-- behind a statement slots are forgotten -/
def sWipe (vs : List Nat) (t : TDS) : TDS := fun d E η μ => t { d with nx := fun η' μ' => d.nx (forget η' vs) μ' } E η μ
section
variable {X : Cx} {W : WX} {st : Stmt} {t : TDS} {pos : Pos} {tA : TDT}
theorem ds_wipe (vs : List Nat) (h : DS X W st t) : DS X W st (sWipe vs t) := by
  obtain ⟨t1, p1, g1⟩ := h.ex
  exact ⟨t1, p1, fun s σ η μ D d E S hq l => g1 s σ η μ D _ E S hq ⟨fun η' μ' σ' s' q x S' => l.nx _ _ _ _ q x (S'.forget vs), l.rt, l.bk, l.ct, l.xq⟩⟩
def sForF (vs : List Nat) (ti : TDI) (g : TDG) (tb : TDS) : TDS := fun d E η μ => ti η μ (fun items G μ1 => ∃ Inv : Nat → DEnv → Mu → Prop, Inv 0 (forget η vs) μ1 ∧ (∀ i η μ, Inv i η μ → G μ) ∧
  (∀ (i : Nat) (e : EV) η μ, items[i]? = some e → Inv i η μ → g e η μ fun η2 μ2 => tb { nx := fun η' μ' => Inv (i + 1) (clean μ1.length (forget η' vs)) (μ'.take μ1.length), ct := fun η' μ' => Inv (i + 1) (clean μ1.length (forget η' vs)) (μ'.take μ1.length), bk := d.nx, rt := d.rt } E η2 μ2) ∧
  ∀ η μ, Inv items.length η μ → d.nx η μ) E
theorem ds_forF (vs : List Nat) {tg iter : Expr} {body : List Stmt} {is : List Nat} {ti : TDI} {g : TDG} {tb : TDS} (hp : PassesOwn (model X.prog X.w) X.A X.env X.xe) (hc : X.calm = true) (hi : DI X W tg iter ti) (hg : DG X tg is g) (hb : DSs X W body tb)
    (hs : ∀ x, foldedSetIterable iter X.env x = pure x := by intro _; rfl) : DS X W (.For tg iter body [] pos) (sForF vs ti g tb) := by
  obtain ⟨wi, p1, g1⟩ := hi.ex
  obtain ⟨gg, p2, g2⟩ := hg.ex
  obtain ⟨tb', p3, g3⟩ := hb.ex
  refine ⟨_, ps_for hp hc p1 p2 p3 hs, fun s σ η μ D d E S hq l => g1 s σ η μ _ _ E S hq (fun J items G μ1 s1 hk x1 R1 wk => ?_) (l.lx σ)⟩
  obtain ⟨Inv, h0, hG, hs, hd⟩ := hk
  have l1 := l.go x1 R1
  refine ⟨fun i m σ' H' => m = items.length - i ∧ i ≤ items.length ∧ ∃ (s' : Wd) (η' : DEnv) (μ' : Mu), s'.H = H' ∧ Ext s1 μ1.length s' μ'.length ∧ Sit X.K s' μ' σ' η' ∧ Inv i η' μ', ⟨items.length, by simp, Nat.zero_le _, s1, _, μ1, rfl, Ext.refl _ _, (S.go x1 R1).forget vs, h0⟩, ?_⟩
  rintro i m σ' H' ⟨rfl, hi, s', η', μ', rfl, x', S', iv⟩
  have ⟨wgo, wstop, wy⟩ := wk i s' μ' x' S'.rep (hG i η' μ' iv)
  by_cases hlt : i < items.length
  · refine .inr ⟨wgo hlt, fun σ2 H2 => ∃ (s2 : Wd) (η2 : DEnv) (μ2 : Mu), s2.H = H2 ∧ Ext s1 μ1.length s2 μ2.length ∧ Sit X.K s2 μ2 σ2 η2 ∧ Inv (i + 1) η2 μ2, fun σ2 H2 h2 => ⟨items.length - (i + 1), by omega, rfl, hlt, h2⟩, fun x H'' hy => ?_⟩
    obtain ⟨s2, e, rfl, he, hne, x2, R2, r2⟩ := wy x H'' hlt hy
    have x12 := x'.trans x2 fun n hn => S'.rep.here hn
    refine g2 s2 σ' η' μ' x e _ _ (S'.go x2 R2) r2 (hs i e η' μ' he iv) fun η3 μ3 σ3 s3 hk3 x3 S3 _ => ?_
    have x13 := x12.trans x3 fun n hn => R2.here hn
    have l3 := l1.go x13 S3.rep
    have fin : ∀ (η4 : DEnv) (μ4 : Mu) (σ4 : L2.St) (s4 : Wd), Inv (i + 1) (clean μ1.length (forget η4 vs)) (μ4.take μ1.length) → Ext s3 μ3.length s4 μ4.length → Sit X.K s4 μ4 σ4 η4 →
        ∃ (s2 : Wd) (η2 : DEnv) (μ2 : Mu), s2.H = s4.H ∧ Ext s1 μ1.length s2 μ2.length ∧ Sit X.K s2 μ2 σ4 η2 ∧ Inv (i + 1) η2 μ2 := fun η4 μ4 σ4 s4 hk4 x4 S4 => by
      have x14 := x13.trans x4 fun n hn => S3.rep.here hn
      have e4 : (μ4.take μ1.length).length = μ1.length := by rw [List.length_take]; have := x14.le; omega
      exact ⟨s4, _, _, rfl, by rw [e4]; exact x14.take (Nat.le_refl _) x14.le, (S4.forget vs).clean x14.le, hk4⟩
    exact g3 s3 σ3 η3 μ3 _ _ E S3 hk3 ⟨fin, l3.rt, l3.nx, fin, l3.xq⟩
  · have e : i = items.length := by omega
    subst e
    exact .inl ⟨wstop, (l1.go x' S'.rep).nx η' μ' σ' s' (hd η' μ' iv) (Ext.refl _ _) S'⟩
def sWhileF (vs : List Nat) (c : TDT) (tb : TDS) : TDS := fun d E η μ => ∃ Inv : Nat → DEnv → Mu → Prop, (∃ m, Inv m (forget η vs) μ) ∧ ∀ m η' μ', Inv m η' μ' →
  c η' μ' (fun b μ1 => if b = true then tb { nx := fun η2 μ2 => ∃ m', m' < m ∧ Inv m' (clean μ.length (forget η2 vs)) (μ2.take μ.length), ct := fun η2 μ2 => ∃ m', m' < m ∧ Inv m' (clean μ.length (forget η2 vs)) (μ2.take μ.length), bk := d.nx, rt := d.rt } E η' μ1 else d.nx η' μ1) E
theorem ds_whileF (vs : List Nat) {c : Expr} {body : List Stmt} {tb : TDS} (hp : PassesOwn (model X.prog X.w) X.A X.env X.xe) (hc : DT X W c tA) (hb : DSs X W body tb) : DS X W (.While c body [] pos) (sWhileF vs tA tb) := by
  obtain ⟨tc, p1, g1⟩ := hc.ex
  obtain ⟨tb', p3, g3⟩ := hb.ex
  refine ⟨_, ps_while hp p1 p3, fun s σ η μ D d E S hq l => ?_⟩
  obtain ⟨Inv, ⟨m0, h0⟩, turn⟩ := hq
  refine ⟨fun m σ' H' => ∃ (s' : Wd) (η' : DEnv) (μ' : Mu), s'.H = H' ∧ Ext s μ.length s' μ'.length ∧ Sit X.K s' μ' σ' η' ∧ Inv m η' μ', ⟨m0, s, _, μ, rfl, Ext.refl _ _, S.forget vs, h0⟩, ?_⟩
  rintro m σ' H' ⟨s', η', μ', rfl, x', S', iv⟩
  have l' := l.go x' S'.rep
  refine g1 s' σ' η' μ' _ _ E S' (turn m η' μ' iv) (fun b μ1 s1 hk x1 R1 => ?_) (l'.lx σ')
  have S1 := S'.go x1 R1
  have l1 := l'.go x1 R1
  have xs1 := x'.trans x1 fun n hn => S'.rep.here hn
  cases b with
  | false => exact l1.nx η' μ1 σ' s1 hk (Ext.refl _ _) S1
  | true =>
    refine ⟨fun σ2 H2 => ∃ m', m' < m ∧ ∃ (s' : Wd) (η' : DEnv) (μ' : Mu), s'.H = H2 ∧ Ext s μ.length s' μ'.length ∧ Sit X.K s' μ' σ2 η' ∧ Inv m' η' μ', fun _ _ h => h, ?_⟩
    have fin : ∀ (η4 : DEnv) (μ4 : Mu) (σ4 : L2.St) (s4 : Wd), (∃ m', m' < m ∧ Inv m' (clean μ.length (forget η4 vs)) (μ4.take μ.length)) → Ext s1 μ1.length s4 μ4.length → Sit X.K s4 μ4 σ4 η4 →
        ∃ m', m' < m ∧ ∃ (s' : Wd) (η' : DEnv) (μ' : Mu), s'.H = s4.H ∧ Ext s μ.length s' μ'.length ∧ Sit X.K s' μ' σ4 η' ∧ Inv m' η' μ' := fun η4 μ4 σ4 s4 ⟨m', hm, hk4⟩ x4 S4 => by
      have x14 := xs1.trans x4 fun n hn => R1.here hn
      have e4 : (μ4.take μ.length).length = μ.length := by rw [List.length_take]; have := x14.le; omega
      exact ⟨m', hm, s4, _, _, rfl, by rw [e4]; exact x14.take (Nat.le_refl _) x14.le, (S4.forget vs).clean x14.le, hk4⟩
    exact g3 s1 σ' η' μ1 _ _ E S1 hk ⟨fin, l1.rt, l1.nx, fin, l1.xq⟩
end
/-! ### stepping -/
def ForGF (vs : List Nat) (g : TDG) (tb : TDS) (d : DEnds) (E : XQ) (η : DEnv) (items : List EV) (G : Mu → Prop) (μ1 : Mu) : Prop := ∃ Inv : Nat → DEnv → Mu → Prop, Inv 0 (forget η vs) μ1 ∧ (∀ i η μ, Inv i η μ → G μ) ∧
  (∀ (i : Nat) (e : EV) η μ, items[i]? = some e → Inv i η μ → g e η μ fun η2 μ2 => tb { nx := fun η' μ' => Inv (i + 1) (clean μ1.length (forget η' vs)) (μ'.take μ1.length), ct := fun η' μ' => Inv (i + 1) (clean μ1.length (forget η' vs)) (μ'.take μ1.length), bk := d.nx, rt := d.rt } E η2 μ2) ∧
  ∀ η μ, Inv items.length η μ → d.nx η μ
section
variable {t v : TDS} {ti : TDI} {tc : TDT} {g : TDG} {d : DEnds} {E : XQ} {η : DEnv} {μ μ1 : Mu} {vs : List Nat}
theorem s_wipe (h : t { d with nx := fun η' μ' => d.nx (forget η' vs) μ' } E η μ) : sWipe vs t d E η μ := h
theorem q_wipe (h : t { d with nx := fun η' μ' => v d E (forget η' vs) μ' } E η μ) : sSeq (sWipe vs t) v d E η μ := h
theorem s_forF (h : ti η μ (ForGF vs g t d E η) E) : sForF vs ti g t d E η μ := h
theorem q_forF (h : ti η μ (ForGF vs g t { d with nx := v d E } E η) E) : sSeq (sForF vs ti g t) v d E η μ := h
theorem for_st {α σ : Type} {as : List α} {h : α → EV} {G : Mu → Prop} (ok : Nat → σ → Prop) (up : DEnv → σ → DEnv) (sto : Mu → σ → Mu) (s0 : σ)
    (e0 : up (forget η vs) s0 = forget η vs) (m0 : sto μ1 s0 = μ1) (k0 : ok 0 s0) (hG : ∀ s, G (sto μ1 s))
    (hs : ∀ (i : Nat) (a : α) (s : σ) (J : DEnv → Mu → Prop), as[i]? = some a → ok i s → (∀ s', ok (i + 1) s' → J (up (forget η vs) s') (sto μ1 s')) →
      g (h a) (up (forget η vs) s) (sto μ1 s) fun η2 μ2 => t { nx := fun η' μ' => J (clean μ1.length (forget η' vs)) (μ'.take μ1.length), ct := fun η' μ' => J (clean μ1.length (forget η' vs)) (μ'.take μ1.length), bk := d.nx, rt := d.rt } E η2 μ2)
    (hd : ∀ s, ok as.length s → d.nx (up (forget η vs) s) (sto μ1 s)) : ForGF vs g t d E η (as.map h) G μ1 := by
  refine ⟨fun i η' μ' => ∃ s, ok i s ∧ η' = up (forget η vs) s ∧ μ' = sto μ1 s, ⟨s0, k0, e0.symm, m0.symm⟩, ?_, ?_, ?_⟩
  · rintro i η' μ' ⟨s, _, rfl, rfl⟩
    exact hG s
  · rintro i e η' μ' hi ⟨s, hk, rfl, rfl⟩
    obtain ⟨a, ha, rfl⟩ := map_get hi
    exact hs i a s (fun η' μ' => ∃ s, ok (i + 1) s ∧ η' = up (forget η vs) s ∧ μ' = sto μ1 s) ha hk fun s' k => ⟨s', k, rfl, rfl⟩
  · rintro η' μ' ⟨s, hk, rfl, rfl⟩
    rw [List.length_map] at hk
    exact hd s hk
end
end DL
set_option Elab.async false
set_option linter.all false
set_option maxRecDepth 100000
set_option maxHeartbeats 4000000
namespace DL
open PySem L2 PyProof.Rows
/-! ### what a cell holds, by equations -/
def lcR (c : Option Cell) (k : List PyData → Prop) : Prop := match c with
  | some (.lst xs) => k xs
  | some (.frz xs) => k xs
  | _ => False
def lcK (c : Option Cell) (k : List PyData → Prop) : Prop := match c with
  | some (.lst xs) => k xs
  | _ => False
theorem lcR_l {xs : List PyData} {k : List PyData → Prop} : lcR (some (.lst xs)) k = k xs := Eq.trans rfl rfl
theorem lcK_l {xs : List PyData} {k : List PyData → Prop} : lcK (some (.lst xs)) k = k xs := Eq.trans rfl rfl
section
variable {μ ν : Mu} {n : Nat} {q : PQ} {xs ys : List PyData} {N : Nat}
theorem c_ix {i : Int} : oIx (.loc n) (.dat (.int i)) μ q = lcR μ[n]? fun xs => ∃ d, atI xs i = some d ∧ q (.dat d) μ := by
  simp only [oIx, seqOf, tupOf, roOf, lstOf, lcR]
  all_goals (cases μ[n]? with
    | none => rfl
    | some c => cases c <;> rfl)
theorem c_app {d : PyData} : oAppend (.loc n) [.dat d] μ q = lcK μ[n]? fun xs => xs.length < 100000 ∧ q (.dat .none) (μ.set n (.lst (xs ++ [d]))) := by
  simp only [oAppend, withL, lcK]
  all_goals (cases μ[n]? with
    | none => rfl
    | some c => cases c <;> rfl)
theorem c_set {k : Int} {d : PyData} {q : Mu → Prop} : oSetL (.loc n) (.dat (.int k)) (.dat d) μ q = lcK μ[n]? fun xs => ∃ j, ixN xs.length k = some j ∧ q (μ.set n (.lst (xs.set j d))) := by
  simp only [oSetL, withL, lcK]
  all_goals (cases μ[n]? with
    | none => rfl
    | some c => cases c <;> rfl)
theorem c_isL : isLstE (.loc n) μ = lcR μ[n]? fun _ => True := by
  simp only [isLstE, lstOf, lcR]
  all_goals (cases μ[n]? with
    | none => simp
    | some c => cases c <;> simp)
theorem c_addn : oAdd (.loc n) (.new ys) μ q = lcR μ[n]? fun xs => xs.length + ys.length ≤ 100000 ∧ q (.new (xs ++ ys)) μ := by
  simp only [oAdd, lstOf, lcR]
  all_goals (cases μ[n]? with
    | none => rfl
    | some c => cases c <;> rfl)
def seqC (r : RI) (n : Nat) (μ : Mu) (c : Option Cell) : Prop := match c with
  | some (.lst xs) => r (xs.map .dat) (fun μ => μ[n]? = some (.lst xs) ∨ μ[n]? = some (.frz xs)) μ
  | some (.frz xs) => r (xs.map .dat) (fun _ => True) μ
  | _ => False
theorem c_seqK {r : RI} : seqK r (.loc n) μ = seqC r n μ μ[n]? := by
  have e : seqK r (.loc n) μ = (match μ[n]? with
    | some (.lst xs) => r (xs.map .dat) (fun μ => μ[n]? = some (.lst xs) ∨ μ[n]? = some (.frz xs)) μ
    | some (.frz xs) => r (xs.map .dat) (fun _ => True) μ
    | _ => False) := Eq.trans rfl rfl
  rw [e]
  cases μ[n]? with
  | none => rfl
  | some c => cases c <;> rfl
def exC (q : PQ) (N : Nat) (μ : Mu) (c : Option Cell) : Prop := match c with
  | some (.lst xs) => q (.new xs) (μ.take N)
  | some (.frz xs) => q (.dat (.list xs)) (μ.take N)
  | some (.dct kvs) => q (.newd kvs) (μ.take N)
  | some (.dck kvs) => q (.newk kvs) (μ.take N)
  | _ => False
theorem exitQ_ge (h : N ≤ n) : DL.exitQ N q (.loc n) μ = exC q N μ μ[n]? := by
  have : ¬ n < N := by omega
  simp only [DL.exitQ, this, if_false, exC]
  all_goals (cases μ[n]? with
    | none => rfl
    | some c => cases c <;> rfl)
theorem exC_d {kvs : List (List Key × PyData)} : exC q N μ (some (.dct kvs)) = q (.newd kvs) (μ.take N) := Eq.trans rfl rfl
/-! stores with cells behind -/
variable {c c0 c1 c2 d : Cell}
theorem get_a0 : (μ ++ c :: ν)[μ.length]? = some c := by simp
theorem get_a1 : (μ ++ c0 :: c :: ν)[μ.length + 1]? = some c := by
  rw [List.getElem?_append_right (by omega)]
  simp
theorem set_a0 : (μ ++ c :: ν).set μ.length d = μ ++ d :: ν := by simp
theorem set_a1 : (μ ++ c0 :: c :: ν).set (μ.length + 1) d = μ ++ c0 :: d :: ν := by
  rw [List.set_append_right _ _ (by omega)]
  simp
theorem tk_0 : μ.take μ.length = μ := List.take_length
theorem tk_a0 : (μ ++ ν).take μ.length = μ := by simp
theorem tk_a1 : (μ ++ c :: ν).take (μ.length + 1) = μ ++ [c] := by
  rw [List.take_append, List.take_of_length_le (by omega)]
  simp
theorem tk_a2 : (μ ++ c :: c0 :: ν).take (μ.length + 2) = μ ++ [c, c0] := by
  rw [List.take_append, List.take_of_length_le (by omega)]
  simp
end
/-! no dict -/
theorem noD_b {b : Bool} : noD (.bool b) = true := by simp [noD]
theorem noD_i {b : Int} : noD (.int b) = true := by simp [noD]
theorem noD_s {b : Str} : noD (.str b) = true := by simp [noD]
theorem noD_l {b : List PyData} : noD (.list b) = noDs b := by simp [noD]
theorem noD_t {b : List PyData} : noD (.tuple b) = noDs b := by simp [noD]
theorem noDs_nil : noDs [] = true := by simp [noDs]
theorem noDs_cons {d : PyData} {b : List PyData} : noDs (d :: b) = (noD d && noDs b) := by simp [noDs]
theorem noDs_app {a : List PyData} {b : List PyData} : noDs (a ++ b) = (noDs a && noDs b) := by
  induction a with
  | nil => simp [noDs]
  | cons x xs ih => simp [noDs, ih, Bool.and_assoc]
theorem noDs_map {α : Type} {f : α → PyData} (h : ∀ a, noD (f a) = true) (xs : List α) : noDs (xs.map f) = true := by
  induction xs with
  | nil => simp [noDs]
  | cons x xs ih => simp [noDs, ih, h]
/-! data that is equal -/
theorem eqv_tup {xs ys : List PyData} : PyData.eqv (.tuple xs) (.tuple ys) = PyData.eqvAll xs ys := by rw [PyData.eqv]
theorem eqv_lst {xs ys : List PyData} : PyData.eqv (.list xs) (.list ys) = PyData.eqvAll xs ys := by rw [PyData.eqv]
theorem eqvA_nn : PyData.eqvAll [] [] = true := by rw [PyData.eqvAll]
theorem eqvA_cc {x y : PyData} {xs ys : List PyData} : PyData.eqvAll (x :: xs) (y :: ys) = (PyData.eqv x y && PyData.eqvAll xs ys) := by rw [PyData.eqvAll]
theorem eqvA_nc {y : PyData} {ys : List PyData} : PyData.eqvAll [] (y :: ys) = false := by rw [PyData.eqvAll]
theorem eqvA_cn {y : PyData} {ys : List PyData} : PyData.eqvAll (y :: ys) [] = false := by rw [PyData.eqvAll]
theorem dep_tup {xs : List PyData} : (PyData.tuple xs).depth = PyData.depthAll xs + 1 := by rw [PyData.depth]
theorem dep_lst {xs : List PyData} : (PyData.list xs).depth = PyData.depthAll xs + 1 := by rw [PyData.depth]
theorem depA_nil : PyData.depthAll [] = 0 := by rw [PyData.depthAll]
theorem depA_cons {x : PyData} {xs : List PyData} : PyData.depthAll (x :: xs) = max x.depth (PyData.depthAll xs) := by rw [PyData.depthAll]
theorem depA_map {α : Type} (f : α → PyData) {n : Nat} (h : ∀ a, (f a).depth ≤ n) : ∀ xs : List α, PyData.depthAll (xs.map f) ≤ n
  | [] => by rw [List.map_nil, depA_nil]; exact Nat.zero_le _
  | x :: xs => by
    rw [List.map_cons, depA_cons]
    exact Nat.max_le.mpr ⟨h x, depA_map f h xs⟩
/-- an encoding by data whose == is the equality -/
structure Enc {α : Type} (f : α → PyData) (n : Nat) : Prop where
  nod : ∀ a, noD (f a) = true
  inj : ∀ a b, PyData.eqv (f a) (f b) = true ↔ a = b
  dep : ∀ a, (f a).depth ≤ n
theorem Enc.eqv {α : Type} [DecidableEq α] {f : α → PyData} {n : Nat} (h : Enc f n) (a b : α) : PyData.eqv (f a) (f b) = decide (a = b) := by
  rw [Bool.eq_iff_iff, h.inj, decide_eq_true_eq]
theorem enc_int : Enc PyData.int 0 := ⟨fun _ => noD_i, fun a b => by rw [eqv_int, decide_eq_true_eq], fun a => by rw [dep_int]; omega⟩
theorem Enc.all {α : Type} {f : α → PyData} {n : Nat} (h : Enc f n) : ∀ xs ys : List α, PyData.eqvAll (xs.map f) (ys.map f) = true ↔ xs = ys
  | [], [] => by simp [eqvA_nn]
  | [], _ :: _ => by simp [eqvA_nc]
  | _ :: _, [] => by simp [eqvA_cn]
  | x :: xs, y :: ys => by rw [List.map_cons, List.map_cons, eqvA_cc, Bool.and_eq_true, h.inj, h.all xs ys, List.cons.injEq]
theorem Enc.list {α : Type} {f : α → PyData} {n : Nat} (h : Enc f n) : Enc (fun xs : List α => .list (xs.map f)) (n + 1) :=
  ⟨fun a => by rw [noD_l]; exact noDs_map h.nod a, fun a b => by rw [eqv_lst, h.all], fun a => by rw [dep_lst]; exact Nat.succ_le_succ (depA_map f h.dep a)⟩
theorem Enc.tup {α : Type} {f : α → PyData} {n : Nat} (h : Enc f n) : Enc (fun xs : List α => .tuple (xs.map f)) (n + 1) :=
  ⟨fun a => by rw [noD_t]; exact noDs_map h.nod a, fun a b => by rw [eqv_tup, h.all], fun a => by rw [dep_tup]; exact Nat.succ_le_succ (depA_map f h.dep a)⟩
theorem Enc.t3 {α β γ : Type} {f : α → PyData} {g : β → PyData} {e : γ → PyData} {n m l : Nat} (h : Enc f n) (k : Enc g m) (j : Enc e l) : Enc (fun p : α × β × γ => .tuple [f p.1, g p.2.1, e p.2.2]) (n + m + l + 1) :=
  ⟨fun a => by simp [noD_t, noDs_cons, noDs_nil, h.nod, k.nod, j.nod], fun a b => by simp only [eqv_tup, eqvA_cc, eqvA_nn, Bool.and_true, Bool.and_eq_true, h.inj, k.inj, j.inj, Prod.ext_iff],
   fun a => by simp only [dep_tup, depA_cons, depA_nil]; have := h.dep a.1; have := k.dep a.2.1; have := j.dep a.2.2; omega⟩
theorem Enc.has {α : Type} [DecidableEq α] {f : α → PyData} {n : Nat} (h : Enc f n) (xs : List α) (x : α) : DL.has (xs.map f) (f x) = decide (x ∈ xs) := by
  unfold DL.has
  rw [List.any_map, Bool.eq_iff_iff, List.any_eq_true, decide_eq_true_eq]
  constructor
  · rintro ⟨y, hy, e⟩
    rw [(h.inj y x).mp e] at hy
    exact hy
  · intro hx
    exact ⟨x, hx, (h.inj x x).mpr rfl⟩
end DL
set_option Elab.async false
set_option linter.all false
set_option maxRecDepth 100000
set_option maxHeartbeats 4000000
namespace DL
open PySem L2 PyProof.Rows
theorem Enc.eq {α : Type} {f : α → PyData} {n : Nat} (h : Enc f n) {a b : α} : (f a = f b) = (a = b) :=
  propext ⟨fun e => (h.inj a b).mp (by rw [← e]; exact (h.inj a a).mpr rfl), fun e => by rw [e]⟩
theorem Enc.map_eq {α : Type} {f : α → PyData} {n : Nat} (h : Enc f n) {a b : List α} : (a.map f = b.map f) = (a = b) :=
  propext ⟨fun e => (h.all a b).mp (by rw [← e]; exact (h.all a a).mpr rfl), fun e => by rw [e]⟩
/-- the shape of a whole number between two bounds -/
def isNum (d : PyData) (a b : Int) : Bool := match d with
  | .int i => decide (a ≤ i) && decide (i ≤ b)
  | _ => false
theorem isNum_i {i a b : Int} : isNum (.int i) a b = (decide (a ≤ i) && decide (i ≤ b)) := Eq.trans rfl rfl
theorem isNum_ex {t : PyData} {a b : Int} (h : isNum t a b = true) : ∃ n : Int, t = .int n ∧ a ≤ n ∧ n ≤ b := by
  cases t with
  | int i =>
    simp only [isNum, Bool.and_eq_true, decide_eq_true_eq] at h
    exact ⟨i, rfl, h⟩
  | _ => cases h
theorem kit_self {K : PySem.W.Frag} {D : Addr} : PySem.W.kitOne K (.ref D) (.ref D) = some true := by
  unfold PySem.W.kitOne
  rw [if_pos (beq_iff_eq.mpr rfl)]
theorem kit_ref {K : PySem.W.Frag} {D C : Addr} {b : Bool} (ne : D ≠ C) (hdct : PySem.W.hasDictIn K C = true) (ht : PySem.W.typeIn K (.ref C) = some (.type "type")) (h4 : PySem.W.subIn K (.ref D) (.ref C) = some b) : PySem.W.kitOne K (.ref D) (.ref C) = some b := by
  obtain ⟨cd, hc, _⟩ := PySem.W.any_some hdct
  have e2 : ((PySem.W.clsIn K C).isSome && PySem.W.typeIn K (.ref C) == some (.type "type")) = true := by rw [hc, ht] <;> rfl
  unfold PySem.W.kitOne
  rw [if_neg (fun h => ne (Value.ref.inj (beq_iff_eq.mp h)))]
  show (if ((PySem.W.clsIn K C).isSome && PySem.W.typeIn K (.ref C) == some (.type "type")) = true then PySem.W.subIn K (.ref D) (.ref C) else none) = some b
  rw [if_pos e2]
  exact h4
theorem kit_typ {K : PySem.W.Frag} {D : Addr} {S : String} {b : Bool} (hm : PySem.W.kitMeta S = true) (hne : Value.ref D = .type S → False) (h4 : PySem.W.subIn K (.ref D) (.type S) = some b) : PySem.W.kitOne K (.ref D) (.type S) = some b := by
  unfold PySem.W.kitOne
  rw [if_neg (fun h => hne (beq_iff_eq.mp h))]
  show (if PySem.W.kitMeta S = true then PySem.W.subIn K (.ref D) (.type S) else none) = some b
  rw [if_pos hm]
  exact h4
theorem isK_mk {K : PySem.W.Frag} {D : Addr → Prop} {μ : Mu} {q : PQ} {c : Addr} {fs : Option (List (Str × PyData))} {u : V} {cv : Value} {b : Bool} (h1 : ExcC K c) (h2 : ∀ w, RelV u w → w = cv) (r : RelV u cv) (h3 : PySem.W.kitOne K (.ref c) cv = some b) : oIsK K D [.exc ⟨c, fs⟩, .raw u] μ q = q (.dat (.bool b)) μ := by
  rw [isK_e]
  refine propext ⟨fun ⟨_, cv', b', g1, g2, g3⟩ => ?_, fun h => ⟨h1, cv, b, h2, h3, h⟩⟩
  have e := g1 cv r
  subst e
  rw [h3] at g2
  cases g2
  exact g3
theorem rng_c {p : Prop} : (∀ xs, rngP xs → rngP xs ∧ p) = p := propext ⟨fun h => (h _ ⟨0, 0, rfl, Int.le_refl _, by decide⟩).2, fun h xs hx => ⟨hx, h⟩⟩
theorem cmul_l {i j : Int} (h1 : -18446744073709551616 < i) (h2 : i < 18446744073709551616) : CMul i j = True := eq_true (.inl ⟨h1, h2⟩)
theorem cmul_r {i j : Int} (h1 : -18446744073709551616 < j) (h2 : j < 18446744073709551616) : CMul i j = True := eq_true (.inr ⟨h1, h2⟩)
theorem cdiv_h {i j : Int} (h1 : 0 < j) (h2 : j < 1073741824) : CDiv i j = True := eq_true ⟨h1, h2⟩
theorem cpow_h {i j : Int} (h1 : 0 ≤ j) (h2 : j ≤ 1000000) (h3 : -18446744073709551616 < i) (h4 : i < 18446744073709551616) : CPow i j = True := eq_true ⟨h1, h2, by show i.natAbs < 18446744073709551616; omega⟩
theorem nle_h {a b : Nat} (h : a ≤ b) : (a ≤ b) = True := eq_true h
theorem nlt_h {a b : Nat} (h : a < b) : (a < b) = True := eq_true h
theorem ile_h {a b : Int} (h : a ≤ b) : (a ≤ b) = True := eq_true h
theorem ilt_h {a b : Int} (h : a < b) : (a < b) = True := eq_true h
/-- an item that a drawn number picks -/
theorem pick_at {xs : List PyData} {r : Int} {k : PyData → Prop} (h0 : 0 ≤ r) (h1 : r < xs.length) (h : ∀ d ∈ xs, k d) : ∃ d, xs[r.toNat]? = some d ∧ k d := by
  obtain ⟨d, h2, h3⟩ := pick h0 h1
  exact ⟨d, h2, h d h3⟩
theorem lc_filterD {α : Type} {as : List α} {en : α → PyData} {G : Mu → Prop} {g : TDG} {tt : TDT} {te : TDE} {vs : List Nat} {η : DEnv} {q : PQ} {μ1 : Mu} {p : α → Bool} {f : α → PyData} (hz : as.length ≤ 100000) (hG : G μ1)
    (hs : ∀ (a : α) (K : PyData → Mu → Prop) (K' : Mu → Prop), a ∈ as → (if p a = true then K (f a) μ1 else K' μ1) → g (.dat (en a)) (wipeD η vs) μ1 fun η2 μ2 => tt η2 μ2 (fun b μ3 => if b = true then te η2 μ3 (fun ev μ4 => withDat μ4 ev fun d μ5 => K d (μ5.take μ1.length)) EF else K' (μ3.take μ1.length)) EF)
    (hq : q (.new ((as.filter p).map f)) μ1) : LcG g tt te vs η q ((as.map en).map .dat) G μ1 := by
  rw [List.map_map]
  refine lc_filter (h := EV.dat ∘ en) p f hz hG (fun a K K' ha h1 h2 => hs a K K' ha ?_) hq
  split
  · exact h1 (by assumption)
  · rename_i h
    exact h2 (by simpa using h)
/-- .. over a range -/
theorem lc_rng {lo : Int} {n : Nat} {G : Mu → Prop} {g : TDG} {te : TDE} {vs : List Nat} {η : DEnv} {q : PQ} {μ1 : Mu} {f : Nat → PyData} (hz : n ≤ 100000) (hG : G μ1)
    (hs : ∀ (a : Nat) (K : PyData → Mu → Prop), a < n → K (f a) μ1 → g (.dat (.int (lo + (a : Nat)))) (wipeD η vs) μ1 fun η2 μ2 => te η2 μ2 (fun ev μ4 => withDat μ4 ev fun d μ5 => K d (μ5.take μ1.length)) EF)
    (hq : q (.new ((List.range n).map f)) μ1) : LcG g tYesD te vs η q (rngItems lo n) G μ1 :=
  lc_map (h := fun k : Nat => EV.dat (.int (lo + (k : Nat)))) f (by rw [List.length_range]; exact hz) hG (fun a K ha => hs a K (List.mem_range.mp ha)) hq
theorem lc_rngF {lo : Int} {n : Nat} {G : Mu → Prop} {g : TDG} {tt : TDT} {te : TDE} {vs : List Nat} {η : DEnv} {q : PQ} {μ1 : Mu} {p : Nat → Bool} {f : Nat → PyData} (hz : n ≤ 100000) (hG : G μ1)
    (hs : ∀ (a : Nat) (K : PyData → Mu → Prop) (K' : Mu → Prop), a < n → (if p a = true then K (f a) μ1 else K' μ1) → g (.dat (.int (lo + (a : Nat)))) (wipeD η vs) μ1 fun η2 μ2 => tt η2 μ2 (fun b μ3 => if b = true then te η2 μ3 (fun ev μ4 => withDat μ4 ev fun d μ5 => K d (μ5.take μ1.length)) EF else K' (μ3.take μ1.length)) EF)
    (hq : q (.new (((List.range n).filter p).map f)) μ1) : LcG g tt te vs η q (rngItems lo n) G μ1 := by
  refine lc_filter (h := fun k : Nat => EV.dat (.int (lo + (k : Nat)))) p f (by rw [List.length_range]; exact hz) hG (fun a K K' ha h1 h2 => hs a K K' (List.mem_range.mp ha) ?_) hq
  split
  · exact h1 (by assumption)
  · rename_i h
    exact h2 (by simpa using h)
/-! loops over encoded items, over ranges -/
section
variable {t : TDS} {g : TDG} {d : DEnds} {E : XQ} {η : DEnv} {μ1 : Mu} {vs : List Nat}
theorem for_stD {α σ : Type} {as : List α} {en : α → PyData} {G : Mu → Prop} (ok : Nat → σ → Prop) (up : DEnv → σ → DEnv) (sto : Mu → σ → Mu) (s0 : σ)
    (e0 : up (forget η vs) s0 = forget η vs) (m0 : sto μ1 s0 = μ1) (k0 : ok 0 s0) (hG : ∀ s, G (sto μ1 s))
    (hs : ∀ (i : Nat) (a : α) (s : σ) (J : DEnv → Mu → Prop), as[i]? = some a → ok i s → (∀ s', ok (i + 1) s' → J (up (forget η vs) s') (sto μ1 s')) →
      g (.dat (en a)) (up (forget η vs) s) (sto μ1 s) fun η2 μ2 => t { nx := fun η' μ' => J (clean μ1.length (forget η' vs)) (μ'.take μ1.length), ct := fun η' μ' => J (clean μ1.length (forget η' vs)) (μ'.take μ1.length), bk := d.nx, rt := d.rt } E η2 μ2)
    (hd : ∀ s, ok as.length s → d.nx (up (forget η vs) s) (sto μ1 s)) : ForGF vs g t d E η ((as.map en).map .dat) G μ1 := by
  rw [List.map_map]
  exact for_st (h := EV.dat ∘ en) ok up sto s0 e0 m0 k0 hG hs hd
theorem for_stR {σ : Type} {lo : Int} {n : Nat} {G : Mu → Prop} (ok : Nat → σ → Prop) (up : DEnv → σ → DEnv) (sto : Mu → σ → Mu) (s0 : σ)
    (e0 : up (forget η vs) s0 = forget η vs) (m0 : sto μ1 s0 = μ1) (k0 : ok 0 s0) (hG : ∀ s, G (sto μ1 s))
    (hs : ∀ (i : Nat) (s : σ) (J : DEnv → Mu → Prop), i < n → ok i s → (∀ s', ok (i + 1) s' → J (up (forget η vs) s') (sto μ1 s')) →
      g (.dat (.int (lo + (i : Nat)))) (up (forget η vs) s) (sto μ1 s) fun η2 μ2 => t { nx := fun η' μ' => J (clean μ1.length (forget η' vs)) (μ'.take μ1.length), ct := fun η' μ' => J (clean μ1.length (forget η' vs)) (μ'.take μ1.length), bk := d.nx, rt := d.rt } E η2 μ2)
    (hd : ∀ s, ok n s → d.nx (up (forget η vs) s) (sto μ1 s)) : ForGF vs g t d E η (rngItems lo n) G μ1 := by
  refine for_st (as := List.range n) (h := fun k : Nat => EV.dat (.int (lo + (k : Nat)))) ok up sto s0 e0 m0 k0 hG (fun i a s J ha hk hJ => ?_) (fun s hk => hd s (by rw [List.length_range] at hk; exact hk))
  have h1 := get_lt ha
  rw [List.length_range] at h1
  rw [List.getElem?_range h1] at ha
  cases ha
  exact hs i s J h1 hk hJ
end
end DL
set_option Elab.async false
set_option linter.all false
set_option maxRecDepth 100000
set_option maxHeartbeats 4000000
namespace DL
open PySem PySem.Spec PyProof.Rows L2
/-! ### dicts -/
section
variable {K : PySem.W.Frag} {s s0 : Wd} {N0 : Nat} {μ : Mu}
theorem cellF {s : Wd} {a b : Addr} {vs : List V} {c : Cell} (h : CellAt K s b c) (hq : s.H a = some (.tup vs)) (hn : s.F a = none) (sub : Same s.F s.H) : CellAt K { s with F := upd s.F a (.tup vs) } b c := by
  have e : Same s.F (upd s.F a (.tup vs)) := fun x o' q => by rw [upd_ne (ne_of_none q hn)]; exact q
  have ne : ∀ {o}, s.H b = some o → (∀ ws, o ≠ .tup ws) → b ≠ a := fun hb ho z => by rw [z, hq] at hb; cases hb; exact ho _ rfl
  cases c with
  | lst xs => obtain ⟨h1, ws, h2, h3⟩ := h; exact ⟨(upd_ne (ne h2 fun _ z => nomatch z)).trans h1, ws, h2, h3.mono e⟩
  | frz xs => obtain ⟨ws, h2, h3⟩ := h; exact ⟨ws, e _ _ h2, h3.mono e⟩
  | dct kvs => obtain ⟨h1, ks, h2, h3, h4⟩ := h; exact ⟨(upd_ne (ne h2 fun _ z => nomatch z)).trans h1, ks, h2, h3, h4.mono e⟩
  | dck kvs => obtain ⟨h1, ks, h2, h3, h4⟩ := h; exact ⟨(upd_ne (ne h2 fun _ z => nomatch z)).trans h1, ks, h2, h3, h4.mono e⟩
  | abs P => obtain ⟨xs, hP, h1, ws, h2, h3⟩ := h; exact ⟨xs, hP, (upd_ne (ne h2 fun _ z => nomatch z)).trans h1, ws, h2, h3.mono e⟩
  | tab P nm => exact ⟨h.1, h.2.to e ((upd_ne (by obtain ⟨_, ps, h2, _⟩ := h.2; exact ne h2 fun _ z => nomatch z)).trans h.2.nf) fun _ z => z⟩
  | own t => exact h
  | dead => exact h
/-- a tuple that stands becomes still -/
theorem tup_still {q : Addr} {vs : List V} {ds : List PyData} (R : Rep K s μ) (hq : s.H q = some (.tup vs)) (hd : DRs K s.F vs ds) :
    ∃ F', Same s.F F' ∧ Rep K { s with F := F' } μ ∧ Ext s μ.length { s with F := F' } μ.length ∧ DR K F' (.ref q) (.tuple ds) := by
  cases hF : s.F q with
  | some o =>
    have := R.sub q o hF
    rw [hq] at this
    cases this
    exact ⟨s.F, fun _ _ z => z, R, Ext.refl _ _, .tup hF hd⟩
  | none =>
    have e : Same s.F (upd s.F q (.tup vs)) := fun x o' z => by rw [upd_ne (ne_of_none z hF)]; exact z
    refine ⟨upd s.F q (.tup vs), e, R.of rfl (fun a u z => ?_) (fun n c z => cellF (R.cell n c z) hq hF R.sub) (fun _ h => h) (R.beside e fun n a _ _ => keeps_F (.inr ⟨vs, hq⟩)), ⟨e, fun _ _ => rfl, Nat.le_refl _, fun _ _ z _ => z, fun a h1 _ _ h4 => ?_, fun n h1 h2 => absurd h1 (Nat.not_le_of_lt h2), fun n a h1 h2 => .inr ⟨h1, h2⟩, fun _ h => h⟩, .tup upd_same (hd.mono e)⟩
    · have z' : upd s.F q (.tup vs) a = some u := z
      by_cases ha : a = q
      · subst ha
        rw [upd_same] at z'
        cases z'
        exact hq
      · rw [upd_ne ha] at z'
        exact R.sub a u z'
    · show upd s.F q (.tup vs) a = none
      rw [upd_ne fun z => h4 vs (by rw [z]; exact hq)]
      exact h1
theorem drs_keys {F : Hp} : ∀ {k : List Key}, (∀ x ∈ k, keyOk x) → DRs K F (k.map kV) (k.map keyD)
  | [], _ => .nil
  | .inl i :: r, h => .cons (.int i) (drs_keys fun x hx => h x (by simp [hx]))
  | .inr z :: r, h => .cons (.str z (h (.inr z) (by simp))) (drs_keys fun x hx => h x (by simp [hx]))
/-- the key that data tells -/
def keyOf : PyData → Option Key
  | .int i => some (.inl i)
  | .str x => some (.inr x)
  | _ => none
def keysOf : List PyData → Option (List Key)
  | [] => some []
  | d :: ds => match keyOf d, keysOf ds with
    | some k, some ks => some (k :: ks)
    | _, _ => none
theorem keyOf_ok {F : Hp} {v : V} {d : PyData} {k : Key} (r : DR K F v d) (h : keyOf d = some k) : v = kV k ∧ d = keyD k ∧ keyOk k := by
  cases r with
  | int i => cases h; exact ⟨rfl, rfl, trivial⟩
  | str x hx => cases h; exact ⟨rfl, rfl, hx⟩
  | _ => cases h
theorem keysOf_ok {F : Hp} : ∀ {vs : List V} {ds : List PyData} {k : List Key}, DRs K F vs ds → keysOf ds = some k → vs = k.map kV ∧ ds = k.map keyD ∧ ∀ x ∈ k, keyOk x
  | _, _, _, .nil, h => by cases h; exact ⟨rfl, rfl, fun x hx => by simp at hx⟩
  | _, _, _, .cons (d := d) (ds := ds) r rs, h => by
    unfold keysOf at h
    cases h1 : keyOf d with
    | none => rw [h1] at h; cases h
    | some k0 =>
      cases h2 : keysOf ds with
      | none => rw [h1, h2] at h; cases h
      | some ks =>
        rw [h1, h2] at h
        cases h
        obtain ⟨rfl, rfl, a3⟩ := keyOf_ok r h1
        obtain ⟨rfl, rfl, b3⟩ := keysOf_ok rs h2
        refine ⟨rfl, rfl, fun x hx => ?_⟩
        rcases List.mem_cons.mp hx with rfl | hx
        · exact a3
        · exact b3 x hx
/-! a dict's entries, changed -/
def putD {κ : Type} [DecidableEq κ] (kvs : List (κ × PyData)) (k : κ) (d : PyData) : List (κ × PyData) :=
  if (kvs.any fun kv => decide (kv.1 = k)) = true then kvs.map (fun kv => if kv.1 = k then (kv.1, d) else kv) else kvs ++ [(k, d)]
def getD {κ : Type} [DecidableEq κ] (kvs : List (κ × PyData)) (k : κ) : Option PyData := (kvs.find? fun kv => decide (kv.1 = k)).map (·.2)
theorem any_keys {κ α β : Type} [DecidableEq κ] {ks : List (κ × α)} {kvs : List (κ × β)} (h : ks.map (·.1) = kvs.map (·.1)) (k : κ) : (ks.any fun kv => decide (kv.1 = k)) = kvs.any fun kv => decide (kv.1 = k) := by
  have e1 : (ks.any fun kv => decide (kv.1 = k)) = (ks.map (·.1)).any fun x => decide (x = k) := by rw [List.any_map]; rfl
  have e2 : (kvs.any fun kv => decide (kv.1 = k)) = (kvs.map (·.1)).any fun x => decide (x = k) := by rw [List.any_map]; rfl
  rw [e1, e2, h]
theorem put_map {κ : Type} [DecidableEq κ] {F : Hp} {v : V} {d : PyData} (r : DR K F v d) (k : κ) : ∀ {ks : List (κ × V)} {kvs : List (κ × PyData)}, ks.map (·.1) = kvs.map (·.1) → DRs K F (ks.map (·.2)) (kvs.map (·.2)) →
    (ks.map fun kv => if kv.1 = k then (kv.1, v) else kv).map (·.1) = (kvs.map fun kv => if kv.1 = k then (kv.1, d) else kv).map (·.1) ∧ DRs K F ((ks.map fun kv => if kv.1 = k then (kv.1, v) else kv).map (·.2)) ((kvs.map fun kv => if kv.1 = k then (kv.1, d) else kv).map (·.2))
  | [], [], _, _ => ⟨rfl, .nil⟩
  | [], _ :: _, h, _ => by simp at h
  | _ :: _, [], h, _ => by simp at h
  | (a, x) :: ks, (b, y) :: kvs, h, .cons h1 h2 => by
    simp only [List.map_cons, List.cons.injEq] at h
    obtain ⟨e, h⟩ := h
    have e' : a = b := e
    subst e'
    obtain ⟨i1, i2⟩ := put_map r k h h2
    by_cases hk : a = k
    · simp only [List.map_cons, if_pos hk]
      exact ⟨by rw [i1], .cons r i2⟩
    · simp only [List.map_cons, if_neg hk]
      exact ⟨by rw [i1], .cons h1 i2⟩
theorem put_rel {κ : Type} [DecidableEq κ] {F : Hp} {v : V} {d : PyData} {ks : List (κ × V)} {kvs : List (κ × PyData)} (r : DR K F v d) (k : κ) (h : ks.map (·.1) = kvs.map (·.1)) (hs : DRs K F (ks.map (·.2)) (kvs.map (·.2))) :
    (putK ks k v).map (·.1) = (putD kvs k d).map (·.1) ∧ DRs K F ((putK ks k v).map (·.2)) ((putD kvs k d).map (·.2)) := by
  unfold putK putD
  rw [any_keys h k]
  split
  · exact put_map r k h hs
  · rw [List.map_append, List.map_append, List.map_append, List.map_append, h]
    exact ⟨rfl, hs.append (.cons r .nil)⟩
theorem put_ok {κ : Type} [DecidableEq κ] {P : κ → Prop} {d : PyData} {kvs : List (κ × PyData)} (k : κ) (h : ∀ p ∈ kvs, P p.1) (hk : P k) : ∀ p ∈ putD kvs k d, P p.1 := by
  intro p hp
  unfold putD at hp
  split at hp
  · obtain ⟨q, hq, rfl⟩ := List.mem_map.mp hp
    split
    · exact h q hq
    · exact h q hq
  · rcases List.mem_append.mp hp with hp | hp
    · exact h p hp
    · rw [List.mem_singleton.mp hp]
      exact hk
/-- a cell is written -/
theorem mut_c {n : Nat} {c c' : Cell} {o : HO} (R : Rep K s μ) (x : Ext s0 N0 s μ.length) (hn : μ[n]? = some c) (hf : s.F (s.L n) = none) (hc : CellAt K { s with H := upd s.H (s.L n) o } (s.L n) c') (ho : ∀ t, c' ≠ .own t := by intro t z; cases z) :
    Rep K { s with H := upd s.H (s.L n) o } (μ.set n c') ∧ Ext s0 N0 { s with H := upd s.H (s.L n) o } (μ.set n c').length := mut_g R x (List.getElem?_eq_some_iff.mp hn).1 hf hc ho
end
/-! {}, d[k] = v -/
def dNewD : TDE := fun _ μ q _ => q (.newd []) μ
theorem de_dnewT {X : Cx} {W : WX} {pos : Pos} : DE X W (.Dict [] [] pos) dNewD := de_pe pe_dnewT fun s σ η μ Q q E S hq l _ => by
  intro p hp
  exact l (.newd []) μ (.ref p) { s with H := upd s.H p (.dT []) } hq ((Ext.refl s _).put S.rep hp) (S.rep.put hp) ⟨p, [], rfl, upd_same, S.rep.notF hp, S.rep.notL hp, ⟨rfl, fun p hp => by simp at hp⟩, .nil⟩ (fun y hy => by cases hy; exact hp)
theorem x_dNewD {η : DEnv} {μ : Mu} {q : PQ} {E : XQ} : dNewD η μ q E = q (.newd []) μ := Eq.trans rfl rfl
def oSetD : SetD := fun x y z μ q => match x, y, z with
  | .loc n, .dat (.tuple ds), .dat d => match μ[n]?, keysOf ds with
    | some (.dct kvs), some k => kvs.length < 100000 ∧ q (μ.set n (.dct (putD kvs k d)))
    | _, _ => False
  | _, _, _ => False
theorem ss_dict {K : PySem.W.Frag} : SetS K rSetD oSetD := by
  intro s0 N0 s μ x y z ex ey ez q Q R xt rx ry rz h l
  unfold oSetD at h
  split at h
  · rename_i n ds d
    split at h
    · rename_i kvs k hn hk
      obtain ⟨hlt, rfl⟩ := rx
      have C := R.cell n _ hn
      obtain ⟨hf, ks, hH, ⟨hk1, hk2⟩, hd⟩ := C
      have ry' : DR K s.F y (.tuple ds) := ry
      cases ry' with
      | @tup b vs _ hb hs =>
        obtain ⟨rfl, rfl, hok⟩ := keysOf_ok hs hk
        have rz' : DR K s.F z d := rz
        obtain ⟨p1, p2⟩ := put_rel rz' k hk1 hd
        have hl : ks.length = kvs.length := by have := congrArg List.length hk1; simpa using this
        refine ⟨s.L n, _, rfl, DPut.t hH (R.sub _ _ hb) (Nat.lt_of_lt_of_le (by rw [hl]; exact h.1) (by decide)), ?_⟩
        obtain ⟨a1, a2⟩ := mut_c (c' := .dct (putD kvs k d)) (o := .dT (putK ks k z)) R xt hn hf ⟨hf, _, upd_same, ⟨p1, put_ok (P := fun k => ∀ x ∈ k, keyOk x) k hk2 hok⟩, p2⟩
        exact l _ _ h.2 a2 a1
    · exact h.elim
  · exact h.elim
/-! k in d; in a list or tuple -/
def rInD (neg : Bool) : R2 := fun x y H Q => ∃ a o, y = .ref a ∧ DGet H a x o ∧ Q (.bl (if neg then !o.isSome else o.isSome)) H
theorem opD_inD {X : Cx} (hu : X.A.units + 1 < cLine) : OpR X (compareOp .In) (rInD false) := by
  intro pins s σ H x y v u Q I rx ry h
  obtain ⟨a, o, rfl, g, q⟩ := h
  obtain rfl : u = Value.ref a := ry
  exact d_in hu I g rx fun s3 I3 => ⟨.bl o.isSome, H, I3, rfl, q⟩
theorem opD_notInD {X : Cx} (hu : X.A.units + 1 < cLine) : OpR X (compareOp .NotIn) (rInD true) := by
  intro pins s σ H x y v u Q I rx ry h
  obtain ⟨a, o, rfl, g, q⟩ := h
  obtain rfl : u = Value.ref a := ry
  exact d_notIn hu I g rx fun s3 I3 => ⟨.bl (!o.isSome), H, I3, rfl, q⟩
abbrev rMemA (K : PySem.W.Frag) (neg : Bool) : R2 := fun x y H Q => rMem K neg x y H Q ∨ rInD neg x y H Q
theorem opA_in {X : Cx} (hu : X.A.units + 64 < cLine) : OpR X (compareOp .In) (rMemA X.K false) := (opD_in hu).or (opD_inD (by omega))
theorem opA_notIn {X : Cx} (hu : X.A.units + 64 < cLine) : OpR X (compareOp .NotIn) (rMemA X.K true) := (opD_notIn hu).or (opD_notInD (by omega))
def hasKs (d : List (PyData × PyData)) (key : PyData) : Bool := d.any fun p => PyData.eqv p.1 key
def oMemA (neg : Bool) : OD := fun x y μ q => match x, y with
  | .dat (.tuple ds), .dat (.dict d) => (keysOf ds).isSome = true ∧ (d.all fun p => isTupD p.1) = true ∧ q (.dat (.bool (if neg then !hasKs d (.tuple ds) else hasKs d (.tuple ds)))) μ
  | .dat (.tuple ds), .loc n => match μ[n]? with
    | some (.dct kvs) => (keysOf ds).isSome = true ∧ q (.dat (.bool (if neg then !hasKs (kvT kvs) (.tuple ds) else hasKs (kvT kvs) (.tuple ds)))) μ
    | _ => oMem neg x y μ q
  | _, _ => oMem neg x y μ q
theorem enc_key : Enc keyD 0 := ⟨fun a => by cases a <;> simp [keyD, noD], fun a b => by
  cases a with
  | inl i => cases b with
    | inl j => simp [keyD, eqv_int]
    | inr z => simp [keyD, PyData.eqv]
  | inr y => cases b with
    | inl j => simp [keyD, PyData.eqv]
    | inr z => simp [keyD, eqv_str], fun a => by cases a <;> simp [keyD, PyData.depth]⟩
theorem hasKs_T (kvs : List (List Key × PyData)) (k : List Key) : hasKs (kvT kvs) (.tuple (k.map keyD)) = kvs.any fun kv => decide (kv.1 = k) := by
  unfold hasKs kvT
  rw [List.any_map]
  congr 1
  funext p
  simp only [Function.comp]
  rw [eqv_tup, Bool.eq_iff_iff, enc_key.all, decide_eq_true_eq]
theorem os_memA {K : PySem.W.Frag} {neg : Bool} : OpS K (rMemA K neg) (oMemA neg) := by
  intro s0 N0 s μ x y ex ey q Q R xt rx fx ry fy h l
  have low : oMem neg ex ey μ q → rMemA K neg x y s.H Q := fun h => .inl (os_mem s0 N0 s μ x y ex ey q Q R xt rx fx ry fy h l)
  have key : ∀ {ds : List PyData} {a : Addr} {ks : List (List Key × V)} {kvs : List (List Key × PyData)}, DR K s.F x (.tuple ds) → (keysOf ds).isSome = true → Rd s.H a (.dT ks) → ks.map (·.1) = kvs.map (·.1) → y = .ref a → q (.dat (.bool (if neg then !hasKs (kvT kvs) (.tuple ds) else hasKs (kvT kvs) (.tuple ds)))) μ → rMemA K neg x y s.H Q := by
    intro ds a ks kvs rx' hk rd hks ey' hq
    cases rx' with
    | @tup b vs _ hb hs =>
      obtain ⟨k, hk⟩ := Option.isSome_iff_exists.mp hk
      obtain ⟨rfl, rfl, hok⟩ := keysOf_ok hs hk
      refine .inr ⟨a, valV ks k, ey', .inr ⟨ks, k, b, rd, rfl, R.sub _ _ hb, rfl⟩, ?_⟩
      rw [hasKs_T] at hq
      rw [← valV_any k ks, any_keys hks k]
      exact ans R xt l hq (.bl _)
  unfold oMemA at h
  split at h
  · rename_i ds d
    obtain ⟨h1, h2, h3⟩ := h
    have ry' : DR K s.F y (.dict d) := ry
    cases ry' with
    | dcT hF hk hs e =>
      subst e
      exact key rx h1 (.inr ⟨_, R.sub _ _ hF⟩) hk.1 rfl h3
    | @dcK a od ks kvs _ hF hk hs e ne =>
      subst e
      cases kvs with
      | nil => exact absurd rfl ne
      | cons p r =>
        obtain ⟨k0, v0⟩ := p
        exfalso
        have : isTupD (keyD k0) = true := by
          simp only [kvK, List.map_cons, List.all_cons, Bool.and_eq_true] at h2
          exact h2.1
        cases k0 <;> simp [keyD, isTupD] at this
  · rename_i ds n
    split at h
    · rename_i kvs hn
      obtain ⟨hlt, rfl⟩ := ry
      obtain ⟨hf, ks, hH, hk, hs⟩ := R.cell n _ hn
      exact key rx h.1 (.inl hH) hk.1 rfl h.2
    · exact low h
  · exact low h
end DL
set_option Elab.async false
set_option linter.all false
set_option maxRecDepth 100000
set_option maxHeartbeats 4000000
namespace DL
open PySem PySem.Spec PyProof.Rows L2
/-! ### what is walked: dicts too, zip -/
def iAnyD (K : PySem.W.Frag) (tl : TE) : TI := fun σ H R => tl σ H fun x H1 => ((∃ a xs, x = .ref a ∧ SqL K H1 a xs ∧ R (Itl K a) H1) ∨ (∃ a xs, x = .ref a ∧ SqT K H1 a xs ∧ R (Itt K a) H1) ∨ ∃ z, x = .str z ∧ R (Its z) H1) ∨
  ∃ d o, x = .ref d ∧ ((∃ kvs, H1 d = some (.frz o (.dK kvs)) ∧ R (Itk d o kvs) H1) ∨ ∃ kvs, H1 d = some (.frz o (.dT kvs)) ∧ R (Itkt d o kvs) H1)
theorem pi_anyD {X : Cx} {tg le : Expr} {tl : TE} (hp : PE X le tl) : PI X tg le (iAnyD X.K tl) := by
  refine ⟨fun pins s σ H R I h => ?_⟩
  refine thn (hp.run pins s σ H _ I h) fun v s1 hv => ?_
  obtain ⟨x, H1, I1, r1, (⟨a, xs, rfl, hq, q⟩ | ⟨a, xs, rfl, hq, q⟩ | ⟨z, rfl, q⟩) | ⟨d, o, rfl, ⟨kvs, hd, q⟩ | ⟨kvs, hd, q⟩⟩⟩ := hv
  · obtain rfl : v = Value.ref a := r1
    obtain ⟨its, rv, p, hz⟩ := I1.list hq
    exact wpAny_pyIter_list p.isList (pi_one (J := Itl X.K a) (tk := s1.toks) I1 _ (turn_list a _) ⟨_, Heap.get?_push_size _ rfl, rfl, rfl⟩ q)
  · obtain rfl : v = Value.ref a := r1
    obtain ⟨its, rv, p, hz⟩ := I1.tuple hq
    exact wpAny_pyIter_tuple (show s1.heap.IsTuple a its.toArray from p) (pi_one (J := Itt X.K a) (tk := s1.toks) I1 _ (turn_tuple a _) ⟨_, Heap.get?_push_size _ rfl, rfl, rfl⟩ q)
  · obtain ⟨t, rfl⟩ := r1
    cases hall : z.cps.all (· < 128) with
    | false => exact wpAny_pyIter_wide hall (pi_one (J := Its z) (tk := s1.toks) I1 _ (turn_str _ z t "str_iterator" (.inr rfl)) ⟨_, Heap.get?_push_size _ rfl, rfl, rfl⟩ q)
    | true => exact wpAny_pyIter_ascii hall (pi_one (J := Its z) (tk := s1.toks) I1 _ (turn_str _ z t "str_ascii_iterator" (.inl rfl)) ⟨_, Heap.get?_push_size _ rfl, rfl, rfl⟩ q)
  · obtain rfl : v = Value.ref d := r1
    obtain ⟨hs, hgd, hx, es, ep, vs, hdt, hsz, kv, hm⟩ := I1.frzK hd
    refine iter_keys hs hgd hx hdt (pi_one (tk := s1.toks) I1 _ (turn_keys _ hdt) ⟨_, Heap.get?_push_size _ rfl, rfl, ?_⟩ q)
    rw [hsz] <;> rfl
  · obtain rfl : v = Value.ref d := r1
    obtain ⟨hs, hgd, hx, es, ep, hdt, hsz, ent⟩ := I1.frzT hd
    refine iter_keys hs hgd hx hdt (pi_one (tk := s1.toks) I1 _ (turn_keysT _ hdt) ⟨_, Heap.get?_push_size _ rfl, rfl, ?_⟩ q)
    rw [hsz] <;> rfl
section
variable {K : PySem.W.Frag} {s0 : Wd} {N0 : Nat} {G : Mu → Prop} {d : Addr} {od : Obj}
theorem walkDT {ks : List (List Key × V)} {kvs : List (List Key × PyData)} (hF : s0.F d = some (.frz od (.dT ks))) (hk : sameT ks kvs) : WalkS K (Itkt d od ks) s0 N0 ((kvT kvs).map fun p => .dat p.1) G := by
  intro n s μ x R _
  have hH := R.sub _ _ (x.f _ _ hF)
  have hl : ks.length = kvs.length := by have := congrArg List.length hk.1; simpa using this
  have hl2 : ((kvT kvs).map fun p => EV.dat p.1).length = ks.length := by simp [kvT, hl]
  refine ⟨fun hn => ⟨hH, by rw [hl2] at hn; exact hn⟩, ⟨hH, by rw [hl2]; exact Nat.le_refl _⟩, fun v H' hn hy => ?_⟩
  obtain ⟨rfl, k, v', q, hkv, rfl, hq⟩ := hy
  have h1 : (ks.map (·.1))[n]? = some k := by rw [List.getElem?_map, hkv]; rfl
  rw [hk.1, List.getElem?_map] at h1
  cases hg : kvs[n]? with
  | none => rw [hg] at h1; cases h1
  | some p =>
    rw [hg] at h1
    cases h1
    obtain ⟨F', f1, R', x', r'⟩ := tup_still R hq (drs_keys (hk.2 p (List.mem_of_getElem? hg)))
    exact ⟨{ s with F := F' }, .dat (.tuple (p.1.map keyD)), rfl, by simp [kvT, hg], rfl, x', R', r'⟩
theorem walkDK {ks : List (Key × V)} {kvs : List (Key × PyData)} (hF : s0.F d = some (.frz od (.dK ks))) (hk : sameK ks kvs) : WalkS K (Itk d od ks) s0 N0 ((kvK kvs).map fun p => .dat p.1) G := by
  intro n s μ x R _
  have hH := R.sub _ _ (x.f _ _ hF)
  have hl : ks.length = kvs.length := by have := congrArg List.length hk.1; simpa using this
  have hl2 : ((kvK kvs).map fun p => EV.dat p.1).length = ks.length := by simp [kvK, hl]
  refine ⟨fun hn => ⟨hH, by rw [hl2] at hn; exact hn⟩, ⟨hH, by rw [hl2]; exact Nat.le_refl _⟩, fun v H' hn hy => ?_⟩
  obtain ⟨rfl, k, v', hkv, rfl⟩ := hy
  have h1 : (ks.map (·.1))[n]? = some k := by rw [List.getElem?_map, hkv]; rfl
  rw [hk.1, List.getElem?_map] at h1
  cases hg : kvs[n]? with
  | none => rw [hg] at h1; cases h1
  | some p =>
    rw [hg] at h1
    cases h1
    refine ⟨s, .dat (keyD p.1), rfl, by simp [kvK, hg], rfl, Ext.refl _ _, R, ?_⟩
    have := hk.2 p (List.mem_of_getElem? hg)
    obtain ⟨k0, v0⟩ := p
    cases k0 with
    | inl i => exact (show DR K s.F (.int i) (.int i) from .int i)
    | inr z => exact (show DR K s.F (.str z) (.str z) from .str z this)
end
def seqDK (r : RI) (e : EV) (μ1 : Mu) : Prop := match e with
  | .dat (.dict d) => r (d.map fun p => .dat p.1) (fun _ => True) μ1
  | e => seqK r e μ1
def iSeqD (t : TDE) : TDI := fun η μ r E => t η μ (fun e μ1 => seqDK r e μ1) E
theorem x_iSeqD {t : TDE} {η : DEnv} {μ : Mu} {r : RI} {E : XQ} : iSeqD t η μ r E = t η μ (fun e μ1 => seqDK r e μ1) E := Eq.trans rfl rfl
theorem seqDK_d {r : RI} {d : List (PyData × PyData)} {μ : Mu} : seqDK r (.dat (.dict d)) μ = r (d.map fun p => .dat p.1) (fun _ => True) μ := Eq.trans rfl rfl
theorem seqDK_t {r : RI} {d : List PyData} {μ : Mu} : seqDK r (.dat (.tuple d)) μ = r (d.map .dat) (fun _ => True) μ := Eq.trans rfl rfl
theorem seqDK_l {r : RI} {d : List PyData} {μ : Mu} : seqDK r (.dat (.list d)) μ = r (d.map .dat) (fun _ => True) μ := Eq.trans rfl rfl
theorem seqDK_n {r : RI} {d : List PyData} {μ : Mu} : seqDK r (.new d) μ = r (d.map .dat) (fun _ => True) μ := Eq.trans rfl rfl
theorem seqDK_c {r : RI} {n : Nat} {μ : Mu} : seqDK r (.loc n) μ = seqC r n μ μ[n]? := c_seqK
theorem di_seqD {X : Cx} {W : WX} {tg e : Expr} {te : TDE} (h : DE X W e te) : DI X W tg e (iSeqD te) := by
  obtain ⟨t, p, g⟩ := h.ex
  refine ⟨_, pi_anyD p, fun s σ η μ R r E S hq l lx => g s σ η μ _ _ E S hq (fun ev μ1 v s1 hk x1 R1 rv fv => ?_) lx⟩
  cases ev with
  | dat d =>
    have rd : DR X.K s1.F v d := rv
    cases rd with
    | lst h1 h2 => exact .inl (.inl ⟨_, _, rfl, SqL.of (R1.sub _ _ h1), l _ _ _ μ1 s1 hk x1 R1 (walkL fun s2 μ2 x R2 _ => ⟨_, SqL.of (R2.sub _ _ (x.f _ _ h1)), h2.mono x.f⟩)⟩)
    | tup h1 h2 => exact .inl (.inr (.inl ⟨_, _, rfl, SqT.of (R1.sub _ _ h1), l _ _ _ μ1 s1 hk x1 R1 (walkT fun s2 μ2 x R2 _ => ⟨SqT.of (R2.sub _ _ (x.f _ _ h1)), h2.mono x.f⟩)⟩))
    | str z hz => exact .inl (.inr (.inr ⟨z, rfl, l _ _ _ μ1 s1 hk x1 R1 (walkZ (F := s1.F) (.str z hz))⟩))
    | dcT h1 h2 h3 h4 =>
      subst h4
      exact .inr ⟨_, _, rfl, .inr ⟨_, R1.sub _ _ h1, l _ _ _ μ1 s1 hk x1 R1 (walkDT h1 h2)⟩⟩
    | dcK h1 h2 h3 h4 _ =>
      subst h4
      exact .inr ⟨_, _, rfl, .inl ⟨_, R1.sub _ _ h1, l _ _ _ μ1 s1 hk x1 R1 (walkDK h1 h2)⟩⟩
    | _ => exact hk.elim
  | new xs =>
    obtain ⟨p, vs, rfl, a1, a2, a3, a4⟩ := rv
    exact .inl (.inl ⟨p, vs, rfl, SqL.of a1, l _ _ (fun _ => True) μ1 s1 hk x1 R1 (walkL fun s2 μ2 x R2 _ => ⟨_, SqL.of (x.keep _ _ a1 a3), a4.mono x.f⟩)⟩)
  | loc n =>
    obtain ⟨hn, rfl⟩ := rv
    have hk' : seqC r n μ1 μ1[n]? := by
      have : seqDK r (.loc n) μ1 := hk
      rwa [seqDK_c] at this
    unfold seqC at hk'
    split at hk'
    · rename_i xs hc
      obtain ⟨_, vs, a1, a2⟩ := R1.cell n _ hc
      refine .inl (.inl ⟨_, vs, rfl, SqL.of a1, l _ _ _ μ1 s1 hk' x1 R1 (walkL fun s2 μ2 x R2 g => ?_)⟩)
      rw [← x.l n hn]
      rcases g with g | g
      · obtain ⟨_, ws, b1, b2⟩ := R2.cell n _ g
        exact ⟨ws, SqL.of b1, b2⟩
      · obtain ⟨ws, b1, b2⟩ := R2.cell n _ g
        exact ⟨ws, SqL.of (R2.sub _ _ b1), b2⟩
    · rename_i xs hc
      obtain ⟨vs, a1, a2⟩ := R1.cell n _ hc
      exact .inl (.inl ⟨_, vs, rfl, SqL.of (R1.sub _ _ a1), l _ _ _ μ1 s1 hk' x1 R1 (walkL fun s2 μ2 x R2 _ => ⟨_, SqL.of (R2.sub _ _ (x.f _ _ a1)), a2.mono x.f⟩)⟩)
    · exact hk'.elim
  | raw u => exact hk.elim
  | exc x => exact hk.elim
  | newd x => exact hk.elim
  | newk x => exact hk.elim
  | «at» _ _ _ => exact hk.elim
  | newo _ => exact hk.elim
  | per _ => exact hk.elim
  | ro xs =>
    obtain ⟨a, vs, rfl, h1, h2⟩ := rv
    exact .inl (.inl ⟨a, vs, rfl, R1.sub.seq h1, l _ _ _ μ1 s1 hk x1 R1 (walkL fun s2 μ2 x R2 _ => ⟨_, R2.sub.seq (x.f.seq h1), h2.mono x.f⟩)⟩)
/-! zip of two -/
end DL
set_option Elab.async false
set_option linter.all false
set_option maxRecDepth 100000
set_option maxHeartbeats 4000000
namespace DL
open PySem PySem.Spec PyProof.Rows L2
/-! ### shifts of nought -/
section
variable {prog : Program} {w : World} {A : Around} {E : Value → Shared → Prop} {s : Shared} {n : Int} {t u : Tok} {Q : Value → Shared → Prop}
theorem call_shl0 (hn : 0 ≤ n) (h : Q (.int 0 s.toks) { s with toks := s.toks + 1 }) :
    wpAny (model prog w) A (call (.builtin "int.__lshift__") [.int 0 t, .int n u]) (fun v s' => v ≠ .notImplemented ∧ Q v s') E s := by
  refine wpAny_call_entry slot_int_lshift (typeIs_int s 0 t) entry_int_lshift ?_ (args_int_lshift _ _)
  show wpAny _ _ (if n < 0 then _ else _) _ _ s
  rw [if_neg (by omega)]
  show wpAny _ _ (if ((0 : Int) == 0) = true then _ else _) _ _ s
  rw [if_pos (by simp)]
  repeat (first | refine wpAny_pure ?_ | refine wpAny_mkInt ?_ | refine wpAny_rule ?_ | refine wpAny_bind ?_)
  exact ⟨_, rfl, by simp, h⟩
theorem lshift_0 (hn : 0 ≤ n) (h : Q (.int 0 s.toks) { s with toks := s.toks + 1 }) : wpAny (model prog w) A (binaryOp .LShift (.int 0 t) (.int n u)) Q E s :=
  wpAny_binaryOp_same (op := .LShift) (T := "int") (typeIs_int s 0 t) (typeIs_int s n u) fills_int_lshift slot_int_lshift (call_shl0 hn h)
end
def CSh (i j : Int) : Prop := CPow i j ∨ (i = 0 ∧ 0 ≤ j)
theorem opA_shl {X : Cx} : OpR X (binaryOp .LShift) (rI CSh fun i j => V.int (i * 2 ^ j.toNat)) := opI fun i j t u s Q E hc q => by
  rcases hc with h | ⟨rfl, h⟩
  · exact lshift_int_small h.1 h.2.1 h.2.2 q
  · rw [Int.zero_mul] at q
    exact lshift_0 h q
abbrev oShlA : OD := oI CSh fun i j => .int (i * 2 ^ j.toNat)
theorem os_shlA {K : PySem.W.Frag} : OpS K (rI CSh fun i j => V.int (i * 2 ^ j.toNat)) oShlA := os_I fun _ _ _ => .int _
theorem csh_h {i j : Int} (h1 : 0 ≤ j) (h2 : j ≤ 1000000) (h3 : -18446744073709551616 < i) (h4 : i < 18446744073709551616) : CSh i j = True := eq_true (.inl ⟨h1, h2, by show i.natAbs < 18446744073709551616; omega⟩)
theorem isIntD_int {i : Int} : isIntD (.int i) = true := Eq.trans rfl rfl
theorem isBoolD_int {i : Int} : isBoolD (.int i) = false := Eq.trans rfl rfl
theorem set_dictU {X : Cx} (hu : X.A.units + 64 < cLine) : PSet X rSetD := set_dict (by omega)
/-! ### equations of dicts -/
def lcD (c : Option Cell) (k : List (List Key × PyData) → Prop) : Prop := match c with
  | some (.dct kvs) => k kvs
  | _ => False
theorem lcD_d {kvs : List (List Key × PyData)} {k : List (List Key × PyData) → Prop} : lcD (some (.dct kvs)) k = k kvs := Eq.trans rfl rfl
def keysK (ds : List PyData) (f : List Key → Prop) : Prop := match keysOf ds with
  | some k => f k
  | none => False
def keysP (ds : List PyData) : Prop := (keysOf ds).isSome = true
theorem keysP_nil : keysP [] = True := eq_true rfl
theorem keysP_i {i : Int} {ds : List PyData} : keysP (.int i :: ds) = keysP ds := by
  simp only [keysP, keysOf, keyOf]
  cases keysOf ds <;> rfl
section
variable {μ : Mu} {n : Nat} {q : PQ} {ds xs : List PyData} {d : PyData} {neg : Bool}
theorem c_setD {q : Mu → Prop} : oSetD (.loc n) (.dat (.tuple ds)) (.dat d) μ q = lcD μ[n]? fun kvs => keysK ds fun k => kvs.length < 100000 ∧ q (μ.set n (.dct (putD kvs k d))) := by
  simp only [oSetD, lcD, keysK]
  cases μ[n]? with
  | none => rfl
  | some c => cases c <;> cases keysOf ds <;> rfl
theorem memA_dict {e : List (PyData × PyData)} : oMemA neg (.dat (.tuple ds)) (.dat (.dict e)) μ q = (keysP ds ∧ (e.all fun p => isTupD p.1) = true ∧ q (.dat (.bool (if neg then !hasKs e (.tuple ds) else hasKs e (.tuple ds)))) μ) := Eq.trans rfl rfl
def memC (neg : Bool) (x : PyData) (n : Nat) (μ : Mu) (q : PQ) (c : Option Cell) : Prop := match c with
  | some (.dct kvs) => match x with
    | .tuple ds => keysP ds ∧ q (.dat (.bool (if neg then !hasKs (kvT kvs) (.tuple ds) else hasKs (kvT kvs) (.tuple ds)))) μ
    | _ => False
  | _ => oMem neg (.dat x) (.loc n) μ q
theorem c_memA : oMemA neg (.dat d) (.loc n) μ q = memC neg d n μ q μ[n]? := by
  have no : ∀ {kvs}, μ[n]? = some (.dct kvs) → oMem neg (.dat d) (.loc n) μ q = False := fun h => by simp [oMem, datOf, lstOf, h]
  unfold memC
  cases h : μ[n]? with
  | none => cases d <;> simp [oMemA, h]
  | some c =>
    cases c with
    | dct kvs => cases d <;> simp [oMemA, h, keysP, no h]
    | _ => cases d <;> simp [oMemA, h]
theorem memC_d {kvs : List (List Key × PyData)} : memC neg (.tuple ds) n μ q (some (.dct kvs)) = (keysP ds ∧ q (.dat (.bool (if neg then !hasKs (kvT kvs) (.tuple ds) else hasKs (kvT kvs) (.tuple ds)))) μ) := Eq.trans rfl rfl
end
theorem cell_nd {q : PQ} {μ : Mu} {kvs : List (List Key × PyData)} : cellK q (.newd kvs) μ = q (.loc μ.length) (μ ++ [.dct kvs]) := Eq.trans rfl rfl
theorem stl_nd {q : PQ} {μ : Mu} {kvs : List (List Key × PyData)} : stlK q (.newd kvs) μ = q (.dat (.dict (kvT kvs))) μ := Eq.trans rfl rfl
/-! ### cells of a floor: a dict of places -/
abbrev Pt := Int × Int
end DL
set_option Elab.async false
set_option linter.all false
set_option maxRecDepth 100000
set_option maxHeartbeats 4000000
namespace DL
open PySem PySem.Spec PyProof.Rows L2
/-! ### list(d), d a dict with tuple keys -/
section
variable {K : PySem.W.Frag} {s0 s : Wd} {N0 : Nat} {μ : Mu}
theorem tups_still {ks : List (List Key × V)} {bs : List Addr} (h : Paired (fun p b => s.H b = some (.tup (p.1.map kV))) ks bs) : ∀ {F1 : Hp}, Rep K { s with F := F1 } μ → (∀ p ∈ ks, ∀ x ∈ p.1, keyOk x) →
    ∃ F', Same F1 F' ∧ Rep K { s with F := F' } μ ∧ Ext { s with F := F1 } μ.length { s with F := F' } μ.length ∧ DRs K F' (bs.map V.ref) (ks.map fun p => .tuple (p.1.map keyD)) := by
  induction h with
  | nil => exact fun R _ => ⟨_, fun _ _ z => z, R, Ext.refl _ _, .nil⟩
  | @cons p b ps qs hq t ih =>
    intro F1 R ok
    obtain ⟨F2, f2, R2, x2, r2⟩ := tup_still (s := { s with F := F1 }) R hq (drs_keys (ok p (by simp)))
    obtain ⟨F3, f3, R3, x3, r3⟩ := ih R2 fun p hp => ok p (by simp [hp])
    exact ⟨F3, fun a o z => f3 a o (f2 a o z), R3, x2.trans x3 fun n hn => R2.here hn, .cons (r2.mono f3) r3⟩
end
def oListA : CD := fun es μ q => match es with
  | [.dat (.dict d)] => (d.all fun p => isTupD p.1) = true ∧ q (.new (d.map (·.1))) μ
  | es => oList es μ q
def rListA (K : PySem.W.Frag) : List V → Hp → VK → Prop := fun xs H Q => (∃ p ys, xs = [.ref p] ∧ (SqL K H p ys ∨ SqT K H p ys) ∧ ∀ l, H l = none → Q (.ref l) (upd H l (.lst ys))) ∨
  (∃ d kvs, xs = [V.ref d] ∧ Rd H d (.dT kvs) ∧ ∀ p bs, H p = none → IsKeys H kvs bs → Q (.ref p) (upd H p (.lst (bs.map V.ref))))
theorem call_listA {X : Cx} (hc : X.calm = true) : CallR X (.type "list") (rListA X.K) := call_list_of.or (call_list_dT hc)
theorem cs_listA {K : PySem.W.Frag} : CallS K (rListA K) oListA := by
  intro s0 N0 s μ xs es q Q R xt r h l
  unfold oListA at h
  split at h
  · rename_i d
    obtain ⟨h1, h2⟩ := h
    cases r with
    | cons rx fx rr =>
      cases rr
      have rd : DR K s.F _ (.dict d) := rx
      cases rd with
      | dcT hF hk hs e =>
        subst e
        refine .inr ⟨_, _, rfl, .inr ⟨_, R.sub _ _ hF⟩, fun p bs hp hb => ?_⟩
        rename_i ks kvs
        have hkk : ∀ p ∈ ks, ∀ x ∈ p.1, keyOk x := fun p hp => by
          have : p.1 ∈ kvs.map (·.1) := by rw [← hk.1]; exact List.mem_map_of_mem hp
          obtain ⟨p', hp', e⟩ := List.mem_map.mp this
          rw [← e]
          exact hk.2 p' hp'
        obtain ⟨F', f', R', x', r'⟩ := tups_still (s := s) (F1 := s.F) hb R hkk
        have e : (kvT kvs).map (·.1) = ks.map fun p => .tuple (p.1.map keyD) := by
          have e1 : ((kvT kvs).map (·.1)) = (kvs.map (·.1)).map fun k => PyData.tuple (k.map keyD) := by simp [kvT]
          rw [e1, ← hk.1, List.map_map]
          rfl
        rw [e] at h2
        exact ans_new (s := { s with F := F' }) R' (xt.trans x' fun n hn => R.here hn) l h2 r' hp
      | @dcK a od ks kvs _ hF hk hs e ne =>
        subst e
        cases kvs with
        | nil => exact absurd rfl ne
        | cons p r =>
          obtain ⟨k0, v0⟩ := p
          exfalso
          have : isTupD (keyD k0) = true := by
            simp only [kvK, List.map_cons, List.all_cons, Bool.and_eq_true] at h1
            exact h1.1
          cases k0 <;> simp [keyD, isTupD] at this
  · exact .inl (cs_list s0 N0 s μ xs _ q Q R xt r h l)
end DL
set_option Elab.async false
set_option linter.all false
set_option maxRecDepth 100000
set_option maxHeartbeats 4000000
namespace DL
open PySem PySem.Spec PyProof.Rows L2
/-! ### dict(d), d a dict with tuple keys -/
theorem keyD_inj {a b : Key} (h : keyD a = keyD b) : a = b := by
  cases a <;> cases b <;> simp [keyD] at h <;> rw [h]
theorem keysD_inj : ∀ {a b : List Key}, a.map keyD = b.map keyD → a = b
  | [], [], _ => rfl
  | [], _ :: _, h => by simp at h
  | _ :: _, [], h => by simp at h
  | x :: a, y :: b, h => by
    simp only [List.map_cons, List.cons.injEq] at h
    rw [keyD_inj h.1, keysD_inj h.2]
theorem kvT_inj : ∀ {a b : List (List Key × PyData)}, kvT a = kvT b → a = b
  | [], [], _ => rfl
  | [], _ :: _, h => by simp [kvT] at h
  | _ :: _, [], h => by simp [kvT] at h
  | (k, v) :: a, (k', v') :: b, h => by
    simp only [kvT, List.map_cons, List.cons.injEq, Prod.mk.injEq, PyData.tuple.injEq] at h
    obtain ⟨⟨h1, h2⟩, h3⟩ := h
    rw [keysD_inj h1, h2, kvT_inj (a := a) (b := b) h3]
end DL
set_option Elab.async false
set_option linter.all false
set_option maxRecDepth 100000
set_option maxHeartbeats 4000000
namespace DL
open PySem PySem.Spec PyProof.Rows L2
/-! ### dict(pairs), the keys tuples -/
end DL
set_option Elab.async false
set_option linter.all false
set_option maxRecDepth 100000
set_option maxHeartbeats 4000000
namespace DL
open PySem PySem.Spec PyProof.Rows L2
/-! ### o[i] op= e -/
def sAugS (to ti te : TDE) (oi oo : OD) (os : SetD) : TDS := fun d E η μ => to η μ (fun x μ1 => ti η μ1 (fun y μ2 => noNew x = true ∧ noNew y = true ∧ oi x y μ2 fun z μ3 => noNew z = true ∧ te η μ3 (fun u μ4 => noNew u = true ∧ oo z u μ4 fun r μ5 => os x y r μ5 fun μ6 => d.nx η μ6) E) E) E
section
variable {to ti te : TDE} {oi oo : OD} {os : SetD} {v : TDS} {d : DEnds} {E : XQ} {η : DEnv} {μ : Mu}
theorem s_augS (h : to η μ (fun x μ1 => ti η μ1 (fun y μ2 => noNew x = true ∧ noNew y = true ∧ oi x y μ2 fun z μ3 => noNew z = true ∧ te η μ3 (fun u μ4 => noNew u = true ∧ oo z u μ4 fun r μ5 => os x y r μ5 fun μ6 => d.nx η μ6) E) E) E) : sAugS to ti te oi oo os d E η μ := h
theorem q_augS (h : to η μ (fun x μ1 => ti η μ1 (fun y μ2 => noNew x = true ∧ noNew y = true ∧ oi x y μ2 fun z μ3 => noNew z = true ∧ te η μ3 (fun u μ4 => noNew u = true ∧ oo z u μ4 fun r μ5 => os x y r μ5 fun μ6 => v d E η μ6) E) E) E) : sSeq (sAugS to ti te oi oo os) v d E η μ := h
end
end DL
set_option Elab.async false
set_option linter.all false
set_option maxRecDepth 100000
set_option maxHeartbeats 4000000
namespace DL
open PySem PySem.Spec PyProof.Rows L2
/-! ### while, its body laying cells that stay -/
section
variable {tc : TDT} {t v : TDS} {d : DEnds} {E : XQ} {η : DEnv} {μ : Mu} {vs : List Nat}
theorem q_whileF {σ : Type} (ok : σ → Prop) (ms : σ → Nat) (up : DEnv → σ → DEnv) (sto : σ → Mu) (s0 : σ) (e0 : up (forget η vs) s0 = forget η vs) (m0 : sto s0 = μ) (k0 : ok s0)
    (h : ∀ (s : σ) (J : DEnv → Mu → Prop), ok s → (∀ s', ok s' → ms s' < ms s → J (up (forget η vs) s') (sto s')) →
      tc (up (forget η vs) s) (sto s) (fun b μ1 => if b = true then t { nx := fun η2 μ2 => J (clean μ.length (forget η2 vs)) (μ2.take μ.length), ct := fun η2 μ2 => J (clean μ.length (forget η2 vs)) (μ2.take μ.length), bk := v d E, rt := d.rt } E (up (forget η vs) s) μ1 else v d E (up (forget η vs) s) μ1) E) :
    sSeq (sWhileF vs tc t) v d E η μ := by
  refine ⟨fun m η' μ' => ∃ s, ok s ∧ m = ms s ∧ η' = up (forget η vs) s ∧ μ' = sto s, ⟨ms s0, s0, k0, rfl, e0.symm, m0.symm⟩, ?_⟩
  rintro m η' μ' ⟨s, hk, rfl, rfl, rfl⟩
  exact h s (fun η' μ' => ∃ m', m' < ms s ∧ ∃ s, ok s ∧ m' = ms s ∧ η' = up (forget η vs) s ∧ μ' = sto s) hk fun s' k' hl => ⟨_, hl, s', k', rfl, rfl, rfl⟩
end
/-! ### xs.pop() -/
/-! ### d.pop(k) -/
def dropD {κ : Type} [DecidableEq κ] (kvs : List (κ × PyData)) (k : κ) : List (κ × PyData) := kvs.filter fun kv => decide (kv.1 ≠ k)
theorem get_rel {κ : Type} [DecidableEq κ] {K : PySem.W.Frag} {F : Hp} (k : κ) {d : PyData} : ∀ {ks : List (κ × V)} {kvs : List (κ × PyData)}, ks.map (·.1) = kvs.map (·.1) → DRs K F (ks.map (·.2)) (kvs.map (·.2)) → getD kvs k = some d →
    ∃ v, valV ks k = some v ∧ DR K F v d
  | [], [], _, _, h => by simp [getD] at h
  | [], _ :: _, h, _, _ => by simp at h
  | _ :: _, [], h, _, _ => by simp at h
  | (a, x) :: ks, (b, y) :: kvs, h, .cons h1 h2, hg => by
    simp only [List.map_cons, List.cons.injEq] at h
    obtain ⟨e, h⟩ := h
    have e' : a = b := e
    subst e'
    by_cases hk : a = k
    · simp [getD, hk] at hg
      subst hg
      exact ⟨x, by simp [valV, hk], h1⟩
    · have z1 : valV ((a, x) :: ks) k = valV ks k := by simp [valV, List.find?_cons, hk]
      have z2 : getD ((a, y) :: kvs) k = getD kvs k := by simp [getD, List.find?_cons, hk]
      rw [z2] at hg
      rw [z1]
      exact get_rel k h h2 hg
def lcD2 (c : Option Cell) : Prop := match c with
  | some (.dct _) => True
  | some (.dck _) => True
  | _ => False
theorem lcD2_d {kvs : List (List Key × PyData)} : lcD2 (some (.dct kvs)) = True := Eq.trans rfl rfl
theorem c_isD {n : Nat} {μ : Mu} : isDctE (.loc n) μ = lcD2 μ[n]? := by
  simp only [isDctE, lcD2]
  all_goals (cases μ[n]? with
    | none => rfl
    | some c => cases c <;> rfl)
/-! ### len(d) -/
def rLenD (K : PySem.W.Frag) : List V → Hp → VK → Prop := fun xs H Q => (∃ x n, xs = [x] ∧ LenV K x H n ∧ Q (.int n) H) ∨ ∃ (p : Addr) (n : Nat), xs = [.ref p] ∧ ((∃ kvs : List (List Key × V), Rd H p (.dT kvs) ∧ n = kvs.length) ∨ ∃ kvs : List (Key × V), Rd H p (.dK kvs) ∧ n = kvs.length) ∧ Q (.int n) H
theorem call_lenD1 {X : Cx} : CallR X (.builtin "len") fun xs H Q => ∃ (p : Addr) (n : Nat), xs = [.ref p] ∧ ((∃ kvs : List (List Key × V), Rd H p (.dT kvs) ∧ n = kvs.length) ∨ ∃ kvs : List (Key × V), Rd H p (.dK kvs) ∧ n = kvs.length) ∧ Q (.int n) H := by
  intro pins s σ H xs us Q I r h
  obtain ⟨p, n, rfl, hp, q⟩ := h
  obtain ⟨u, rfl, rx⟩ := vals1 r
  obtain rfl : u = .ref p := rx
  rcases hp with ⟨kvs, hp, rfl⟩ | ⟨kvs, hp, rfl⟩
  · obtain ⟨z, hd, ys, rel, dd⟩ := dt_rd I.hok hp
    have hl : kvs.length = ys.length := Paired.length rel
    refine call_len_dictH hd dd (by rw [← hl]; rw [sizeLine_eq] at z; omega) ?_
    rw [← hl]
    exact ⟨.int ((kvs.length : Nat) : Int), H, I.tok _, ⟨_, rfl⟩, q⟩
  · exact d_len I hp fun t s' I' => ⟨.int ((kvs.length : Nat) : Int), H, I', ⟨_, rfl⟩, q⟩
theorem call_lenA {X : Cx} : CallR X (.builtin "len") (rLenD X.K) := call_len.or call_lenD1
def oLenD : CD := fun es μ q => match es with
  | [.dat (.dict d)] => q (.dat (.int d.length)) μ
  | [.loc n] => match μ[n]? with
    | some (.dct kvs) => q (.dat (.int kvs.length)) μ
    | some (.dck kvs) => q (.dat (.int kvs.length)) μ
    | _ => oLen [.loc n] μ q
  | es => oLen es μ q
theorem cs_lenD {K : PySem.W.Frag} : CallS K (rLenD K) oLenD := by
  intro s0 N0 s μ xs es q Q R xt r h l
  have low : ∀ {es}, VRs K s μ.length s0.H xs es → oLen es μ q → rLenD K xs s.H Q := fun r h => .inl (cs_len s0 N0 s μ xs _ q Q R xt r h l)
  unfold oLenD at h
  split at h
  · rename_i d
    cases r with
    | cons rx fx rr =>
      cases rr
      rename_i x
      have rd : DR K s.F x (.dict d) := rx
      cases rd with
      | dcT hF hk hs e =>
        subst e
        refine .inr ⟨_, _, rfl, .inl ⟨_, .inr ⟨_, R.sub _ _ hF⟩, rfl⟩, ?_⟩
        have e2 := congrArg List.length hk.1
        simp only [List.length_map] at e2
        rw [e2]
        have e3 : ∀ kvs : List (List Key × PyData), (kvT kvs).length = kvs.length := fun kvs => by simp [kvT]
        rw [e3] at h
        exact ans R xt l h (.int _)
      | dcK hF hk hs e ne =>
        subst e
        refine .inr ⟨_, _, rfl, .inr ⟨_, .inr ⟨_, R.sub _ _ hF⟩, rfl⟩, ?_⟩
        have e2 := congrArg List.length hk.1
        simp only [List.length_map] at e2
        rw [e2]
        have e3 : ∀ kvs : List (Key × PyData), (kvK kvs).length = kvs.length := fun kvs => by simp [kvK]
        rw [e3] at h
        exact ans R xt l h (.int _)
  · rename_i n
    split at h
    · rename_i kvs hn
      cases r with
      | cons rx fx rr =>
        cases rr
        obtain ⟨hlt, rfl⟩ := rx
        obtain ⟨hf, ks, hH, hk, hd⟩ := R.cell n _ hn
        refine .inr ⟨_, _, rfl, .inl ⟨_, .inl hH, rfl⟩, ?_⟩
        have e2 := congrArg List.length hk.1
        simp only [List.length_map] at e2
        rw [e2]
        exact ans R xt l h (.int _)
    · rename_i kvs hn
      cases r with
      | cons rx fx rr =>
        cases rr
        obtain ⟨hlt, rfl⟩ := rx
        obtain ⟨hf, ks, hH, hk, hd⟩ := R.cell n _ hn
        refine .inr ⟨_, _, rfl, .inr ⟨_, .inl hH, rfl⟩, ?_⟩
        have e2 := congrArg List.length hk.1
        simp only [List.length_map] at e2
        rw [e2]
        exact ans R xt l h (.int _)
    · exact low r h
  · exact low r h
section
variable {μ : Mu} {q : PQ} {xs : List PyData} {z : Str} {n : Nat}
theorem lnD_tup : oLenD [.dat (.tuple xs)] μ q = q (.dat (.int xs.length)) μ := Eq.trans rfl rfl
theorem lnD_lst : oLenD [.dat (.list xs)] μ q = q (.dat (.int xs.length)) μ := Eq.trans rfl rfl
theorem lnD_ro : oLenD [.ro xs] μ q = q (.dat (.int xs.length)) μ := Eq.trans rfl rfl
theorem lnD_d {d : List (PyData × PyData)} : oLenD [.dat (.dict d)] μ q = q (.dat (.int d.length)) μ := Eq.trans rfl rfl
def lnC (n : Nat) (μ : Mu) (q : PQ) (c : Option Cell) : Prop := match c with
  | some (.dct kvs) => q (.dat (.int kvs.length)) μ
  | some (.dck kvs) => q (.dat (.int kvs.length)) μ
  | _ => oLen [.loc n] μ q
theorem c_lenD : oLenD [.loc n] μ q = lnC n μ q μ[n]? := by
  simp only [oLenD, lnC]
theorem lnC_d {kvs : List (List Key × PyData)} : lnC n μ q (some (.dct kvs)) = q (.dat (.int kvs.length)) μ := Eq.trans rfl rfl
end
end DL
set_option Elab.async false
set_option linter.all false
set_option maxRecDepth 100000
set_option maxHeartbeats 4000000
namespace DL
open PySem PySem.Spec PyProof.Rows L2
/-! ### sorted(xs), xs of any data that compare -/
theorem each_of_vals {K : PySem.W.Frag} {H : Hp} {xs : List V} {us : List Value} {ds : List PyData} (rv : Vals xs us) : xs.length = ds.length → PySem.W.EachIs (fun v (b : V × PyData) => RelV b.1 v) us (xs.zip ds) := by
  induction rv generalizing ds with
  | nil => intro _; exact .nil
  | cons r t ih =>
    intro hl
    cases ds with
    | nil => simp at hl
    | cons d ds => exact .cons r (ih (by simpa using hl))
theorem each_reads {X : Cx} {pins : List (Addr × Obj)} {σ : L2.St} {H : Hp} {s : Shared} (I : Inv X pins σ H s) {xs : List V} {us : List Value} (rv : Vals xs us) : ∀ {ds : List PyData}, DpAll X.K H xs ds → PySem.W.EachIs (fun v (b : V × PyData) => ∃ as, Reads s.heap v b.2 as) us (xs.zip ds) := by
  induction rv with
  | nil => intro ds h; cases h; exact .nil
  | cons r t ih =>
    intro ds h
    cases h with
    | cons h1 h2 => exact .cons (Dp.reads I _ _ _ h1 r) (ih h2)
theorem vals_each {us : List Value} {bs : List (V × PyData)} (h : PySem.W.EachIs (fun v (b : V × PyData) => RelV b.1 v) us bs) : Vals (bs.map Prod.fst) us := by
  induction h with
  | nil => exact .nil
  | cons r t ih => exact .cons r ih
/-- the items of a list, sorted -/
def sortVD (xs : List V) (ds : List PyData) : List (V × PyData) := (xs.zip ds).mergeSort (PySem.W.dataLe false Prod.snd)
def rSortL (K : PySem.W.Frag) : List V → Hp → VK → Prop := fun vs H Q => ∃ (a : Addr) (xs : List V) (ds : List PyData), vs = [V.ref a] ∧ SqL K H a xs ∧ DpAll K H xs ds ∧ xs.length = ds.length ∧ PySem.W.AllAlike ds ∧ PySem.W.Sortable ds ∧ (∀ d ∈ ds, d.depth ≤ 60) ∧
  ∀ p, H p = none → Q (.ref p) (upd H p (.lst ((sortVD xs ds).map Prod.fst)))
theorem call_sortL {X : Cx} (hu : X.A.units + 64 < cLine) : CallR X (.builtin "sorted") (rSortL X.K) := by
  intro pins s σ H vs us Q I r h
  obtain ⟨a, xs, ds, rfl, hs, hd, hl0, hal, hk, hdep, q⟩ := h
  obtain ⟨its, rv, hl, hz⟩ := I.list hs
  obtain ⟨u, rfl, ru⟩ := vals1 r
  obtain rfl : u = Value.ref a := ru
  have hzl : (xs.zip ds).length = xs.length := by rw [List.length_zip, ← hl0, Nat.min_self]
  have e2 : (xs.zip ds).map Prod.snd = ds := List.map_snd_zip (by omega)
  refine PySem.W.sorted_data (enc := Prod.snd) hl.isList (each_of_vals (K := X.K) (H := H) rv hl0) (each_reads I rv hd) (by rw [e2]; exact hal) (by rw [e2]; exact hk) (by rw [hzl]; exact hz) (fun b hb => ?_) fun out ho eo => ?_
  · have := hdep b.2 (by rw [← e2]; exact List.mem_map_of_mem hb)
    omega
  · obtain ⟨ep, he'⟩ := PyProof.Rows.sortedAll_at s.heap its out.toArray
    have hv : Vals ((sortVD xs ds).map Prod.fst) out := vals_each eo
    refine ⟨.ref _, upd H (s.heap.objs.size + 1) (.lst ((sortVD xs ds).map Prod.fst)), I.laid (t' := s.toks) (fun _ _ => PyProof.Rows.sortedAll_old) (Nat.le_succ _) ⟨?_, out, ep, hv, he'⟩, rfl, q _ (I.hok.fresh (Nat.le_succ _))⟩
    rw [hv.length, ho, hzl]
    exact hz
/-! sorted(t), t a tuple -/
def rSortT (K : PySem.W.Frag) : List V → Hp → VK → Prop := fun vs H Q => ∃ (a : Addr) (xs : List V) (ds : List PyData), vs = [V.ref a] ∧ SqT K H a xs ∧ DpAll K H xs ds ∧ xs.length = ds.length ∧ PySem.W.AllAlike ds ∧ PySem.W.Sortable ds ∧ (∀ d ∈ ds, d.depth ≤ 60) ∧
  ∀ p, H p = none → Q (.ref p) (upd H p (.lst ((sortVD xs ds).map Prod.fst)))
theorem call_sortT {X : Cx} (hu : X.A.units + 64 < cLine) : CallR X (.builtin "sorted") (rSortT X.K) := by
  intro pins s σ H vs us Q I r h
  obtain ⟨a, xs, ds, rfl, hs, hd, hl0, hal, hk, hdep, q⟩ := h
  obtain ⟨its, rv, hl, hz⟩ := I.tuple hs
  obtain ⟨u, rfl, ru⟩ := vals1 r
  obtain rfl : u = Value.ref a := ru
  have hzl : (xs.zip ds).length = xs.length := by rw [List.length_zip, ← hl0, Nat.min_self]
  have e2 : (xs.zip ds).map Prod.snd = ds := List.map_snd_zip (by omega)
  have r1 := each_of_vals (K := X.K) (H := H) rv hl0
  have hil : its.length = xs.length := (Vals.length rv).symm
  refine Calls.call_function_entry PyProof.Rows.kind_sorted PyProof.Rows.plain_sorted PyProof.Rows.entry_sorted (PyProof.Rows.args_sorted1 _) ?_
  unfold Builtin.«sorted»
  refine wpAny_bind (m := checkCount "sorted" 1 1 _) (wpAny_pure ?_)
  obtain ⟨o, ho, hc, n, hdd⟩ := hl
  refine wpAny_bind (PySem.wpAny_collect_seq a (.inr rfl) ho hc hdd (fun h' kp => ?_) (by rw [List.size_toArray]; omega))
  have I1 : Inv X pins σ H { s with heap := h' } := I.kept kp
  have r2 := each_reads I1 rv hd
  refine wpAny_bind (wpAny_newList ?_ (by rw [List.toList_toArray]; omega))
  rw [List.toList_toArray]
  have hoL : (h'.push (seqObj "list" its.toArray 0)).get? h'.objs.size = some (seqObj "list" its.toArray 0) := Heap.get?_push_size _ rfl
  show wpAny _ _ _ _ _ { s with heap := h'.push (seqObj "list" its.toArray 0) }
  have old : ∀ b ob, h'.get? b = some ob → (PySem.W.sortingHeap (h'.push (seqObj "list" its.toArray 0)) h'.objs.size its).get? b = some ob := fun b ob hb =>
    PySem.W.sortingHeap_old (Nat.ne_of_lt (Heap.lt_size hb)) (Heap.get?_push_of_some _ hb)
  have r3 : PySem.W.EachIs (fun v (e : V × PyData) => ∃ as, Reads (PySem.W.sortingHeap (h'.push (seqObj "list" its.toArray 0)) h'.objs.size its) v e.2 as) its (xs.zip ds) := r2.mono fun _ _ ⟨as, rr⟩ => ⟨as, PyProof.Rows.Reads.keeps old rr⟩
  refine wpAny_bind (wpAny_holding (wpAny_call_entry PyProof.Rows.slot_list_sort ⟨_, hoL, rfl⟩ PyProof.Rows.entry_list_sort
    (PySem.W.list_sort_vals (κ := PySem.W.dataKind (PySem.W.sortingHeap (h'.push (seqObj "list" its.toArray 0)) h'.objs.size its) ((xs.zip ds).map Prod.snd)) (s := { s with heap := h'.push (seqObj "list" its.toArray 0) }) hoL
      (PySem.W.SortsAt.data (s := { s with heap := PySem.W.sortingHeap (h'.push (seqObj "list" its.toArray 0)) h'.objs.size its }) (PySem.W.each_map (R := fun v d => ∃ as, Reads (PySem.W.sortingHeap (h'.push (seqObj "list" its.toArray 0)) h'.objs.size its) v d as) _ r3) (by rw [e2]; exact hal) (by rw [e2]; exact hk) (fun dd hdd => ?_)) (by omega) ⟨_, rfl, ?_⟩) (PyProof.Rows.args_list_sort _)))
  · rw [e2] at hdd
    have := hdep dd hdd
    show X.A.units + 2 + _ < cLine
    omega
  · have eo := PySem.W.sortVals_data (enc := fun e : V × PyData => e.2) false r1 r3 (by rw [show (xs.zip ds).map (fun e => e.2) = ds from e2]; exact hal)
    have hv := vals_each eo
    generalize hout : PySem.W.sortVals _ false its its = out at eo hv
    obtain ⟨e', he'⟩ := PyProof.Rows.sortedHeap_at (vs := its) (out := out.toArray) hoL
    have hlen : ((sortVD xs ds).map Prod.fst).length ≤ sizeLine := by
      unfold sortVD
      rw [List.length_map, List.length_mergeSort, hzl]
      exact hz
    refine wpAny_pure ⟨_, rfl, .ref h'.objs.size, upd H h'.objs.size (.lst ((sortVD xs ds).map Prod.fst)), I1.laid (t' := s.toks) (fun b u e => ?_) (Nat.le_refl _)
      (show ObjOk X.prog X.w _ _ _ (.lst _) from ⟨hlen, out, e', hv, he'⟩), rfl, q _ (I1.hok.fresh (Nat.le_refl _))⟩
    have hb : b < h'.objs.size := Heap.lt_size e
    rw [PyProof.Rows.sortedHeap_old (Nat.ne_of_lt hb) (by rw [size_push']; exact Nat.lt_succ_of_lt hb)]
    exact Heap.get?_push_of_some _ e
/-! sorted(d), d with tuple keys -/
def rSortDT : List V → Hp → VK → Prop := fun vs H Q => ∃ (a : Addr) (kvs : List (List Key × V)), vs = [V.ref a] ∧ Rd H a (.dT kvs) ∧ PySem.W.AllAlike (kvs.map fun p => .tuple (p.1.map keyD)) ∧ PySem.W.Sortable (kvs.map fun p => .tuple (p.1.map keyD)) ∧
  ∀ (p : Addr) (L : List (Addr × List Key)), H p = none → L.map Prod.snd = kvs.map Prod.fst → (∀ e ∈ L, H e.1 = some (.tup (e.2.map kV))) →
    Q (.ref p) (upd H p (.lst ((L.mergeSort (PySem.W.dataLe false fun e => .tuple (e.2.map keyD))).map fun e => V.ref e.1)))
theorem dp_keys {K : PySem.W.Frag} {H : Hp} : ∀ k : List Key, DpAll K H (k.map kV) (k.map keyD)
  | [] => .nil
  | .inl i :: r => .cons (.int i) (dp_keys r)
  | .inr z :: r => .cons (.str z) (dp_keys r)
theorem dep_key (k : List Key) : (PyData.tuple (k.map keyD)).depth ≤ 1 := by
  rw [dep_tup]
  have := depA_map keyD (n := 0) (fun a => enc_key.dep a) k
  omega
theorem each_ks {X : Cx} {pins : List (Addr × Obj)} {σ : L2.St} {H : Hp} {s : Shared} (I : Inv X pins σ H s) : ∀ L : List (Addr × List Key), (∀ e ∈ L, H e.1 = some (.tup (e.2.map kV))) →
    PySem.W.EachIs (fun v (e : Addr × List Key) => v = .ref e.1) (L.map fun e => Value.ref e.1) L ∧ PySem.W.EachIs (fun v (e : Addr × List Key) => ∃ as, Reads s.heap v (.tuple (e.2.map keyD)) as) (L.map fun e => Value.ref e.1) L
  | [], _ => ⟨.nil, .nil⟩
  | e :: L, h => by
    obtain ⟨a1, a2⟩ := each_ks I L fun x hx => h x (List.mem_cons_of_mem _ hx)
    exact ⟨.cons rfl a1, .cons (Dp.reads I _ (.ref e.1) _ (.tup (SqT.of (h e (by simp))) (dp_keys e.2)) rfl) a2⟩
theorem vals_ks {us : List Value} {L : List (Addr × List Key)} (h : PySem.W.EachIs (fun v (e : Addr × List Key) => v = .ref e.1) us L) : Vals (L.map fun e => V.ref e.1) us := by
  induction h with
  | nil => exact .nil
  | cons r t ih =>
    subst r
    exact .cons rfl ih
theorem call_sortDT {X : Cx} (hc : X.calm = true) (hu : X.A.units + 64 < cLine) : CallR X (.builtin "sorted") rSortDT := by
  intro pins s σ H xs us Q I r h
  obtain ⟨d, kvs, rfl, hd, hal, hk, q⟩ := h
  obtain ⟨u, rfl, rx⟩ := vals1 r
  cases rx
  obtain ⟨z, lo, ks, pr, o, es, ep, ho, hx, hdt, he, his, hn⟩ := dt_rd I.hok hd
  have l1 : es.size = ks.length := size_of_entries he
  have l2 : kvs.length = ks.length := Paired.length pr
  refine Calls.call_function_entry PyProof.Rows.kind_sorted PyProof.Rows.plain_sorted PyProof.Rows.entry_sorted (PyProof.Rows.args_sorted1 _) ?_
  unfold Builtin.«sorted»
  refine wpAny_bind (m := checkCount "sorted" 1 1 _) (wpAny_pure ?_)
  refine wpAny_bind (PySem.W.kdu_collect (A := X.A.in1) (kdl_raw lo hx hdt) (I.ok.hd hc) ho (by omega) fun h' tk acc kp it => ?_)
  obtain ⟨L, hL⟩ : ∃ L : List (Addr × List Key), L = ks.map fun x => (x.2.1, x.1) := ⟨_, rfl⟩
  have ea : acc.toList = L.map fun e => Value.ref e.1 := by
    rw [hL, List.map_map]
    have hl : acc.toList.length = ks.length := by rw [Array.length_toList, it.1]; exact l1
    apply List.ext_getElem?
    intro j
    rw [List.getElem?_map]
    cases hj : acc.toList[j]? with
    | none =>
      have h1 := List.getElem?_eq_none_iff.mp hj
      rw [List.getElem?_eq_none (by omega)]
      all_goals rfl
    | some v =>
      obtain ⟨en, hen, hv⟩ := it.2 j v (by rw [← Array.getElem?_toList]; exact hj)
      have qe := entry_at he j
      rw [hen] at qe
      cases hb : ks[j]? with
      | none =>
        rw [hb] at qe
        exact nomatch (show some en = none from qe)
      | some b =>
        rw [hb] at qe
        have e2 : en = entryOfKey (tupleKind (mixKind X.prog X.w)) b := Option.some.inj qe
        rw [hv, e2]
        all_goals rfl
  have I1 : Inv X pins σ H { s with heap := h', toks := tk } := I.kept kp
  have hLl : L.length = kvs.length := by rw [hL, List.length_map, l2]
  have hLs : ∀ {ls : List (List Key × V)} {ms : List (List Key × Addr × Value)}, KT H ls ms → (ms.map fun x => x.1) = ls.map Prod.fst ∧ ∀ x ∈ ms, H x.2.1 = some (.tup (x.1.map kV)) := by
    intro ls ms g
    induction g with
    | nil => exact ⟨rfl, fun x hx => nomatch hx⟩
    | cons hq t ih =>
      refine ⟨by rw [List.map_cons, List.map_cons, ih.1, hq.1], fun x hx => ?_⟩
      rcases List.mem_cons.mp hx with rfl | hx
      · rw [← hq.1]; exact hq.2.1
      · exact ih.2 x hx
  obtain ⟨g1, g2⟩ := hLs pr
  have hk1 : L.map Prod.snd = kvs.map Prod.fst := by rw [hL, List.map_map, ← g1]; rfl
  have hk2 : ∀ e ∈ L, H e.1 = some (.tup (e.2.map kV)) := fun e he => by
    rw [hL] at he
    obtain ⟨x, hx, rfl⟩ := List.mem_map.mp he
    exact g2 x hx
  have hen : (L.map fun e => PyData.tuple (e.2.map keyD)) = kvs.map fun p => .tuple (p.1.map keyD) := by
    have e1 : (L.map fun e => PyData.tuple (e.2.map keyD)) = (L.map Prod.snd).map fun k => PyData.tuple (k.map keyD) := by rw [List.map_map]; rfl
    rw [e1, hk1, List.map_map]
    rfl
  obtain ⟨r1, r2⟩ := each_ks I1 L hk2
  rw [← ea] at r1 r2
  have hal' : acc.toList.length = L.length := by rw [ea, List.length_map]
  refine wpAny_bind (wpAny_newList ?_ (by rw [hal']; omega))
  have hoL : (h'.push (seqObj "list" acc.toList.toArray 0)).get? h'.objs.size = some (seqObj "list" acc.toList.toArray 0) := Heap.get?_push_size _ rfl
  show wpAny _ _ _ _ _ { s with heap := h'.push (seqObj "list" acc.toList.toArray 0), toks := tk }
  have old : ∀ b ob, h'.get? b = some ob → (PySem.W.sortingHeap (h'.push (seqObj "list" acc.toList.toArray 0)) h'.objs.size acc.toList).get? b = some ob := fun b ob hb =>
    PySem.W.sortingHeap_old (Nat.ne_of_lt (Heap.lt_size hb)) (Heap.get?_push_of_some _ hb)
  have r3 : PySem.W.EachIs (fun v (e : Addr × List Key) => ∃ as, Reads (PySem.W.sortingHeap (h'.push (seqObj "list" acc.toList.toArray 0)) h'.objs.size acc.toList) v (.tuple (e.2.map keyD)) as) acc.toList L := r2.mono fun _ _ ⟨as, rr⟩ => ⟨as, PyProof.Rows.Reads.keeps old rr⟩
  refine wpAny_bind (wpAny_holding (wpAny_call_entry PyProof.Rows.slot_list_sort ⟨_, hoL, rfl⟩ PyProof.Rows.entry_list_sort
    (PySem.W.list_sort_vals (κ := PySem.W.dataKind (PySem.W.sortingHeap (h'.push (seqObj "list" acc.toList.toArray 0)) h'.objs.size acc.toList) (L.map fun e => PyData.tuple (e.2.map keyD))) (s := { s with heap := h'.push (seqObj "list" acc.toList.toArray 0), toks := tk }) hoL
      (PySem.W.SortsAt.data (s := { s with heap := PySem.W.sortingHeap (h'.push (seqObj "list" acc.toList.toArray 0)) h'.objs.size acc.toList, toks := tk }) (PySem.W.each_map (R := fun v d => ∃ as, Reads (PySem.W.sortingHeap (h'.push (seqObj "list" acc.toList.toArray 0)) h'.objs.size acc.toList) v d as) _ r3) (by rw [hen]; exact hal) (by rw [hen]; exact hk) (fun dd hdd => ?_)) (by rw [hal']; omega) ⟨_, rfl, ?_⟩) (PyProof.Rows.args_list_sort _)))
  · obtain ⟨e, he, rfl⟩ := List.mem_map.mp hdd
    have := dep_key e.2
    show X.A.units + 2 + _ < cLine
    omega
  · have eo := PySem.W.sortVals_data (enc := fun e : Addr × List Key => PyData.tuple (e.2.map keyD)) false r1 r3 (by rw [hen]; exact hal)
    have hv := vals_ks eo
    generalize hout : PySem.W.sortVals _ false acc.toList acc.toList = out at eo hv
    have hout' := hout
    obtain ⟨e', he'⟩ := PyProof.Rows.sortedHeap_at (vs := acc.toList) (out := out.toArray) hoL
    have hlen : ((L.mergeSort (PySem.W.dataLe false fun e => .tuple (e.2.map keyD))).map fun e => V.ref e.1).length ≤ sizeLine := by
      rw [List.length_map, List.length_mergeSort]
      omega
    refine wpAny_pure ⟨_, rfl, .ref h'.objs.size, upd H h'.objs.size (.lst ((L.mergeSort (PySem.W.dataLe false fun e => .tuple (e.2.map keyD))).map fun e => V.ref e.1)), I1.laid (t' := tk) (fun b u e => ?_) (Nat.le_refl _)
      (show ObjOk X.prog X.w _ _ _ (.lst _) from ⟨hlen, out, e', hv, he'⟩), rfl, q _ L (I1.hok.fresh (Nat.le_refl _)) hk1 hk2⟩
    have hb : b < h'.objs.size := Heap.lt_size e
    rw [PyProof.Rows.sortedHeap_old (Nat.ne_of_lt hb) (by rw [size_push']; exact Nat.lt_succ_of_lt hb)]
    exact Heap.get?_push_of_some _ e
/-! ### .. by data -/
abbrev leD : PyData → PyData → Bool := PySem.W.dataLe false fun d => d
abbrev AlikeD (ds : List PyData) : Prop := PySem.W.AllAlike ds ∧ PySem.W.Sortable ds
def oSortD : CD := fun es μ q => match es with
  | [.dat (.dict d)] => (d.all fun p => isTupD p.1) = true ∧ AlikeD (d.map (·.1)) ∧ q (.new ((d.map (·.1)).mergeSort leD)) μ
  | [.dat (.tuple ds)] => (noDs ds = true ∧ ∀ d ∈ ds, d.depth ≤ 60) ∧ AlikeD ds ∧ q (.new (ds.mergeSort leD)) μ
  | [e] => match lstOf μ e with
    | some ds => (noDs ds = true ∧ ∀ d ∈ ds, d.depth ≤ 60) ∧ AlikeD ds ∧ q (.new (ds.mergeSort leD)) μ
    | none => match e with
      | .loc n => match μ[n]? with
        | some (.dct kvs) => AlikeD (kvs.map fun p => .tuple (p.1.map keyD)) ∧ q (.new ((kvs.map fun p => .tuple (p.1.map keyD)).mergeSort leD)) μ
        | _ => False
      | _ => False
  | _ => False
def rSortA (K : PySem.W.Frag) : List V → Hp → VK → Prop := fun xs H Q => rSortL K xs H Q ∨ rSortDT xs H Q ∨ rSortT K xs H Q
theorem call_sortA {X : Cx} (hc : X.calm = true) (hu : X.A.units + 64 < cLine) : CallR X (.builtin "sorted") (rSortA X.K) := (call_sortL hu).or ((call_sortDT hc hu).or (call_sortT hu))
theorem drs_zip {K : PySem.W.Frag} {F : Hp} : ∀ {vs : List V} {ds : List PyData}, DRs K F vs ds → ∀ p ∈ vs.zip ds, DR K F p.1 p.2
  | _, _, .nil, p, hp => by simp at hp
  | _, _, .cons h hs, p, hp => by
    rw [List.zip_cons_cons] at hp
    rcases List.mem_cons.mp hp with rfl | hp
    · exact h
    · exact drs_zip hs p hp
theorem drs_of {K : PySem.W.Frag} {F : Hp} : ∀ {L : List (V × PyData)}, (∀ p ∈ L, DR K F p.1 p.2) → DRs K F (L.map Prod.fst) (L.map Prod.snd)
  | [], _ => .nil
  | p :: L, h => .cons (h p (by simp)) (drs_of fun q hq => h q (List.mem_cons_of_mem _ hq))
theorem drs_sort {K : PySem.W.Frag} {F : Hp} {vs : List V} {ds : List PyData} (h : DRs K F vs ds) : DRs K F ((sortVD vs ds).map Prod.fst) (ds.mergeSort leD) := by
  have e : (sortVD vs ds).map Prod.snd = ds.mergeSort leD := by
    unfold sortVD
    rw [List.map_mergeSort (r := PySem.W.dataLe false Prod.snd) (s := leD) (f := Prod.snd) fun _ _ _ _ => rfl, List.map_snd_zip (by rw [h.length]; exact Nat.le_refl _)]
  rw [← e]
  refine drs_of fun p hp => drs_zip h p ?_
  exact List.mem_mergeSort.mp hp
theorem sort_keys {L : List (Addr × List Key)} : (L.mergeSort (PySem.W.dataLe false fun e => .tuple (e.2.map keyD))).map (fun e => PyData.tuple (e.2.map keyD)) = (L.map fun e => PyData.tuple (e.2.map keyD)).mergeSort leD :=
  List.map_mergeSort fun _ _ _ _ => rfl
theorem cs_sortA {K : PySem.W.Frag} : CallS K (rSortA K) oSortD := by
  intro s0 N0 s μ xs es q Q R xt r h l
  have dct : ∀ {x : V} {a : Addr} {ks : List (List Key × V)} {kvs : List (List Key × PyData)}, x = .ref a → xs = [x] → Rd s.H a (.dT ks) → sameT ks kvs → AlikeD (kvs.map fun p => .tuple (p.1.map keyD)) → q (.new ((kvs.map fun p => .tuple (p.1.map keyD)).mergeSort leD)) μ → rSortA K xs s.H Q := by
    intro x a ks kvs ex exs rd hk al hq
    subst ex
    subst exs
    have e0 : (ks.map fun p => PyData.tuple (p.1.map keyD)) = kvs.map fun p => PyData.tuple (p.1.map keyD) := by
      have e1 : ∀ {α : Type} (l : List (List Key × α)), (l.map fun p => PyData.tuple (p.1.map keyD)) = (l.map (·.1)).map fun k => PyData.tuple (k.map keyD) := fun l => by rw [List.map_map]; rfl
      rw [e1, e1, hk.1]
    refine .inr (.inl ⟨a, ks, rfl, rd, by rw [e0]; exact al.1, by rw [e0]; exact al.2, fun p L hp hL1 hL2 => ?_⟩)
    have okL : ∀ e ∈ L, ∀ x ∈ e.2, keyOk x := fun e he => by
      have h1 : e.2 ∈ kvs.map (·.1) := by
        rw [← hk.1]
        have : e.2 ∈ L.map Prod.snd := List.mem_map_of_mem he
        rw [hL1] at this
        exact this
      obtain ⟨p', hp', e'⟩ := List.mem_map.mp h1
      rw [← e']
      exact hk.2 p' hp'
    obtain ⟨M, hM⟩ : ∃ M, M = L.mergeSort (PySem.W.dataLe false fun e => .tuple (e.2.map keyD)) := ⟨_, rfl⟩
    have hMm : ∀ e ∈ M, e ∈ L := fun e he => by rw [hM] at he; exact List.mem_mergeSort.mp he
    have pr : ∀ M : List (Addr × List Key), (∀ e ∈ M, e ∈ L) → Paired (fun (p : List Key × V) b => s.H b = some (.tup (p.1.map kV))) (M.map fun e => (e.2, V.non)) (M.map Prod.fst) := fun M => by
      induction M with
      | nil => exact fun _ => .nil
      | cons e M ih => exact fun hm => .cons (hL2 e (hm e (by simp))) (ih fun x hx => hm x (List.mem_cons_of_mem _ hx))
    obtain ⟨F', f', R', x', r'⟩ := tups_still (s := s) (F1 := s.F) (pr M hMm) R (fun p hp => by
      obtain ⟨e, he, rfl⟩ := List.mem_map.mp hp
      exact okL e (hMm e he))
    have e3 : ((M.map fun e => (e.2, V.non)).map fun p : List Key × V => PyData.tuple (p.1.map keyD)) = (kvs.map fun p => .tuple (p.1.map keyD)).mergeSort leD := by
      rw [List.map_map, ← e0]
      have e4 : (L.map fun e => PyData.tuple (e.2.map keyD)) = ks.map fun p => PyData.tuple (p.1.map keyD) := by
        have e1 : (L.map fun e => PyData.tuple (e.2.map keyD)) = (L.map Prod.snd).map fun k => PyData.tuple (k.map keyD) := by rw [List.map_map]; rfl
        rw [e1, hL1, List.map_map]
        rfl
      rw [← e4, ← sort_keys, ← hM]
      rfl
    rw [e3] at r'
    have e5 : (M.map fun e => V.ref e.1) = (M.map Prod.fst).map V.ref := by rw [List.map_map]; rfl
    rw [← hM, e5]
    exact ans_new (s := { s with F := F' }) R' (xt.trans x' fun n hn => R.here hn) l hq r' hp
  unfold oSortD at h
  split at h
  · rename_i d
    obtain ⟨h1, h2, h3⟩ := h
    cases r with
    | cons rx fx rr =>
      cases rr
      rename_i x
      have rd : DR K s.F x (.dict d) := rx
      cases rd with
      | dcT hF hk hs e =>
        subst e
        have e1 : ∀ kvs : List (List Key × PyData), (kvT kvs).map (·.1) = kvs.map fun p => PyData.tuple (p.1.map keyD) := fun kvs => by simp [kvT]
        rw [e1] at h2 h3
        exact dct rfl rfl (.inr ⟨_, R.sub _ _ hF⟩) hk h2 h3
      | @dcK a od ks kvs _ hF hk hs e ne =>
        subst e
        cases kvs with
        | nil => exact absurd rfl ne
        | cons p r =>
          obtain ⟨k0, v0⟩ := p
          exfalso
          have : isTupD (keyD k0) = true := by
            simp only [kvK, List.map_cons, List.all_cons, Bool.and_eq_true] at h1
            exact h1.1
          cases k0 <;> simp [keyD, isTupD] at this
  · rename_i ds
    obtain ⟨⟨h1, h2⟩, ⟨h3, h4⟩, h5⟩ := h
    cases r with
    | cons rx fx rr =>
      cases rr
      have rd : DR K s.F _ (.tuple ds) := rx
      cases rd with
      | tup hF hv => exact .inr (.inr ⟨_, _, ds, rfl, .inl (.inl (R.sub _ _ hF)), (hv.mono R.sub).dp h1, hv.length, h3, h4, h2, fun p hp => ans_new R xt l h5 (drs_sort hv) hp⟩)
  · cases r with
    | cons rx fx rr =>
      cases rr
      split at h
      · rename_i ds hds
        obtain ⟨⟨h1, h2⟩, ⟨h3, h4⟩, h5⟩ := h
        obtain ⟨a, vs, rfl, hs, hv⟩ := lst_ok R rx hds
        exact .inl ⟨a, vs, ds, rfl, SqL.of hs, (hv.mono R.sub).dp h1, hv.length, h3, h4, h2, fun p hp => ans_new R xt l h5 (drs_sort hv) hp⟩
      · split at h
        · split at h
          · rename_i n _ _ _ _ kvs hn
            obtain ⟨hlt, rfl⟩ := rx
            obtain ⟨hf, ks, hH, hk, hd⟩ := R.cell n _ hn
            exact dct rfl rfl (.inl hH) hk h.1 h.2
          · exact h.elim
        · exact h.elim
  · exact h.elim
section
variable {μ : Mu} {q : PQ} {xs : List PyData} {n : Nat}
theorem srt_d {d : List (PyData × PyData)} : oSortD [.dat (.dict d)] μ q = ((d.all fun p => isTupD p.1) = true ∧ AlikeD (d.map (·.1)) ∧ q (.new ((d.map (·.1)).mergeSort leD)) μ) := Eq.trans rfl rfl
theorem srt_l : oSortD [.dat (.list xs)] μ q = ((noDs xs = true ∧ ∀ d ∈ xs, d.depth ≤ 60) ∧ AlikeD xs ∧ q (.new (xs.mergeSort leD)) μ) := Eq.trans rfl rfl
theorem srt_n : oSortD [.new xs] μ q = ((noDs xs = true ∧ ∀ d ∈ xs, d.depth ≤ 60) ∧ AlikeD xs ∧ q (.new (xs.mergeSort leD)) μ) := Eq.trans rfl rfl
def srtC (q : PQ) (μ : Mu) (c : Option Cell) : Prop := match c with
  | some (.lst xs) => (noDs xs = true ∧ ∀ d ∈ xs, d.depth ≤ 60) ∧ AlikeD xs ∧ q (.new (xs.mergeSort leD)) μ
  | some (.frz xs) => (noDs xs = true ∧ ∀ d ∈ xs, d.depth ≤ 60) ∧ AlikeD xs ∧ q (.new (xs.mergeSort leD)) μ
  | some (.dct kvs) => AlikeD (kvs.map fun p => .tuple (p.1.map keyD)) ∧ q (.new ((kvs.map fun p => .tuple (p.1.map keyD)).mergeSort leD)) μ
  | _ => False
theorem c_srt : oSortD [.loc n] μ q = srtC q μ μ[n]? := by
  simp only [oSortD, lstOf, srtC]
  all_goals (cases μ[n]? with
    | none => rfl
    | some c => cases c <;> rfl)
theorem srtC_d {kvs : List (List Key × PyData)} : srtC q μ (some (.dct kvs)) = (AlikeD (kvs.map fun p => .tuple (p.1.map keyD)) ∧ q (.new ((kvs.map fun p => .tuple (p.1.map keyD)).mergeSort leD)) μ) := Eq.trans rfl rfl
end
theorem sort_enc {α : Type} {as : List α} {en : α → PyData} {le : α → α → Bool} (h : ∀ a b, leD (en a) (en b) = le a b) : (as.map en).mergeSort leD = (as.mergeSort le).map en :=
  (List.map_mergeSort fun a _ b _ => (h a b).symm).symm
/-! places -/
end DL
set_option Elab.async false
set_option linter.all false
set_option maxRecDepth 100000
set_option maxHeartbeats 4000000
/-! ### enumerate(xs), enumerate(xs, k), xs a list or a tuple that is still -/
namespace DL
open PySem PySem.Spec PyProof.Rows L2
end DL
set_option Elab.async false
set_option linter.all false
set_option maxRecDepth 100000
set_option maxHeartbeats 4000000
namespace DL
open PySem PySem.Spec PyProof.Rows L2
/-! ### x += y -/
def oIAdd : OD := fun x y μ q => match x, y with
  | .dat (.int i), .dat (.int j) => q (.dat (.int (i + j))) μ
  | .loc n, y => match μ[n]?, lstOf μ y with
    | some (.lst xs), some ys => xs.length + ys.length ≤ 100000 ∧ q (.loc n) (μ.set n (.lst (xs ++ ys)))
    | _, _ => False
  | _, _ => False
abbrev rIAdd : R2 := fun x y H Q => rI0 (fun i j => V.int (i + j)) x y H Q ∨ rExt2 x y H Q
theorem ip_addA {X : Cx} : PIp X .Add rIAdd := iop_add.or iop_ext
theorem os_iadd {K : PySem.W.Frag} : OpS K rIAdd oIAdd := by
  intro s0 N0 s μ x y ex ey q Q R xt rx fx ry fy h l
  unfold oIAdd at h
  split at h
  · exact .inl ⟨_, _, vr_i rx, vr_i ry, ans R xt l h (.int _)⟩
  · split at h
    · rename_i n _ _ xs ys hn hy
      obtain ⟨hlt, rfl⟩ := rx
      obtain ⟨hf, vs, hp, hv⟩ := R.cell n _ hn
      obtain ⟨b, ws, rfl, hb, hw⟩ := lst_ok R ry hy
      obtain ⟨a1, a2⟩ := mut_ok R xt hn (hv.append hw)
      exact .inr ⟨_, b, vs, ws, rfl, rfl, hp, hb, line_of (by rw [hv.length, hw.length]; exact h.1), l (.loc n) _ _ _ h.2 a2 a1 ⟨by rw [List.length_set]; exact hlt, rfl⟩ trivial⟩
    · exact h.elim
  · exact h.elim
theorem iadd_ii {i j : Int} {μ : Mu} {q : PQ} : oIAdd (.dat (.int i)) (.dat (.int j)) μ q = q (.dat (.int (i + j))) μ := Eq.trans rfl rfl
/-! ### abs -/
/-! ### xs[::-1] of a tuple -/
/-! ### xs.count(x), xs.index(x) -/
mutual
theorem plain_of : ∀ {d : PyData}, noD d = true → d.plain = true
  | .none, _ => by simp [PyData.plain]
  | .bool _, _ => by simp [PyData.plain]
  | .int _, _ => by simp [PyData.plain]
  | .str _, _ => by simp [PyData.plain]
  | .list xs, h => by simpa [PyData.plain] using plains_of (by simpa [noD] using h)
  | .tuple xs, h => by simpa [PyData.plain] using plains_of (by simpa [noD] using h)
  | .dict _, h => by simp [noD] at h
theorem plains_of : ∀ {ds : List PyData}, noDs ds = true → PyData.plainAll ds = true
  | [], _ => by simp [PyData.plainAll]
  | d :: ds, h => by
    simp [noDs] at h
    simp [PyData.plainAll, plain_of h.1, plains_of h.2]
end
def rCntD (K : PySem.W.Frag) : V → List V → Hp → VK → Prop := fun x xs H Q => ∃ (a : Addr) (ys : List V) (y : V) (ds : List PyData) (d : PyData), x = .ref a ∧ xs = [y] ∧ SqL K H a ys ∧ DpAll K H ys ds ∧ Dp K H y d ∧ noDs ds = true ∧ noD d = true ∧ d.depth ≤ 60 ∧ Q (.int (ds.countP fun z => PyData.eqv z d : Nat)) H
theorem mt_count {X : Cx} (hu : X.A.units + 64 < cLine) : MtR X "list.count" (rCntD X.K) := by
  intro pins s σ H x xs v us Q I rx rxs h
  obtain ⟨a, ys, y, ds, d, rfl, rfl, hs, h1, h2, n1, n2, hd, q⟩ := h
  cases rx
  obtain ⟨u, rfl, ru⟩ := rxs.one
  obtain ⟨its, rv, hl, hz⟩ := I.list hs
  obtain ⟨as, r1⟩ := Dp.readsAll I ds ys its h1 rv
  obtain ⟨bs, r2⟩ := Dp.reads I d y u h2 ru
  refine SeqAt.count_list_data hl.isList (xs := ds) (by simpa using r1) r2 (plains_of n1) (plain_of n2) (by omega) ?_
  exact ⟨.int (ds.countP fun z => PyData.eqv z d : Nat), H, I.tok _, ⟨_, rfl⟩, q⟩
def oCount : MD := fun x es μ q => match lstOf μ x, es with
  | some xs, [.dat d] => (noDs xs = true ∧ noD d = true) ∧ d.depth ≤ 60 ∧ q (.dat (.int (xs.countP fun z => PyData.eqv z d : Nat))) μ
  | _, _ => False
theorem ms_count {K : PySem.W.Frag} : MtS K (rCntD K) oCount := by
  intro s0 N0 s μ x xs ex es q Q R xt rx fx r h l
  unfold oCount at h
  split at h
  · rename_i ys d hy
    obtain ⟨a, vs, rfl, hs, hv⟩ := lst_ok R rx hy
    cases r with
    | cons ry fy rr =>
      cases rr
      rename_i y
      have ry' : DR K s.F y d := ry
      exact ⟨a, vs, y, ys, d, rfl, rfl, SqL.of hs, (hv.mono R.sub).dp h.1.1, (ry'.mono R.sub).dp h.1.2, h.1.1, h.1.2, h.2.1, ans R xt l h.2.2 (.int _)⟩
  · exact h.elim
theorem cnt_n {xs : List PyData} {d : PyData} {μ : Mu} {q : PQ} : oCount (.new xs) [.dat d] μ q = ((noDs xs = true ∧ noD d = true) ∧ d.depth ≤ 60 ∧ q (.dat (.int (xs.countP fun z => PyData.eqv z d : Nat))) μ) := Eq.trans rfl rfl
theorem isLst_n {xs : List PyData} {μ : Mu} : isLstE (.new xs) μ = True := eq_true rfl
/-! stepping x op= e -/
def augK (c : Option (Option EV)) (k : EV → Prop) : Prop := match c with
  | some (some x) => k x
  | _ => False
theorem augK_s {x : EV} {k : EV → Prop} : augK (some (some x)) k = k x := Eq.trans rfl rfl
section
variable {i : Nat} {te : TDE} {o : OD} {v : TDS} {d : DEnds} {E : XQ} {η : DEnv} {μ : Mu}
theorem s_aug (h : augK η[i]? fun x => noNew x = true ∧ te η μ (fun y μ1 => o x y μ1 fun z μ2 => noNew z = true ∧ d.nx (η.set i (some z)) μ2) E) : sAug i te o d E η μ := by
  unfold sAug
  unfold augK at h
  exact h
theorem q_aug (h : augK η[i]? fun x => noNew x = true ∧ te η μ (fun y μ1 => o x y μ1 fun z μ2 => noNew z = true ∧ v d E (η.set i (some z)) μ2) E) : sSeq (sAug i te o) v d E η μ := s_aug (d := { d with nx := v d E }) h
end
end DL
set_option Elab.async false
set_option linter.all false
set_option maxRecDepth 100000
set_option maxHeartbeats 4000000
namespace DL
open PySem PySem.Spec PyProof.Rows L2
section
variable {μ : Mu} {q : PQ} {xs : List PyData} {n : Nat}
theorem lsA_l : oListA [.dat (.list xs)] μ q = q (.new xs) μ := Eq.trans rfl rfl
end
def isiB (l d : Bool) (μ : Mu) (q : PQ) (c : Option Cell) : Prop := match c with
  | some (.lst _) => q (.dat (.bool l)) μ
  | some (.frz _) => q (.dat (.bool l)) μ
  | some (.dct _) => q (.dat (.bool d)) μ
  | some (.dck _) => q (.dat (.bool d)) μ
  | _ => False
section
variable {μ : Mu} {q : PQ} {xs : List PyData} {n : Nat} {l d : Bool}
theorem isiB_d {kvs : List (List Key × PyData)} : isiB l d μ q (some (.dct kvs)) = q (.dat (.bool d)) μ := Eq.trans rfl rfl
theorem c_isi_dict : oIsi [.loc n, .raw (.ty "dict")] μ q = isiB false true μ q μ[n]? := by
  simp only [oIsi, tyE, isiB]
  cases μ[n]? with
  | none => simp
  | some c => cases c <;> simp [isT]
end
end DL
set_option Elab.async false
set_option linter.all false
set_option maxRecDepth 100000
set_option maxHeartbeats 4000000
namespace DL
open PySem PySem.Spec PyProof.Rows L2
/-! ### list(d.items()), d with tuple keys -/
/-! .. by data -/
theorem Rep.grow {K : PySem.W.Frag} {s : Wd} {μ : Mu} {H' : Hp} (R : Rep K s μ) (h : ∀ b o, s.H b = some o → H' b = some o) : Rep K { s with H := H' } μ := by
  have ha : ∀ a, s.H a ≠ none → H' a ≠ none := fun a z => by
    cases e : s.H a with
    | none => exact absurd e z
    | some o => rw [h _ _ e]; simp
  refine R.of rfl (fun a o q => h a o (R.sub a o q)) (fun n c q => ?_) ha (R.beside (fun _ _ z => z) fun n a hn hO => ⟨?_, fun z _ => z⟩)
  rotate_left
  · cases e : s.H a with
    | none => exact absurd e (R.live n a hn hO)
    | some o => exact h _ _ e
  have C := R.cell n c q
  cases c with
  | lst xs => obtain ⟨h1, vs, h2, h3⟩ := C; exact ⟨h1, vs, h _ _ h2, h3⟩
  | frz xs => exact C
  | dct kvs => obtain ⟨h1, ks, h2, h3, h4⟩ := C; exact ⟨h1, ks, h _ _ h2, h3, h4⟩
  | dck kvs => obtain ⟨h1, ks, h2, h3, h4⟩ := C; exact ⟨h1, ks, h _ _ h2, h3, h4⟩
  | abs P => obtain ⟨xs, hP, h1, vs, h2, h3⟩ := C; exact ⟨xs, hP, h1, vs, h _ _ h2, h3⟩
  | tab P nm => exact ⟨C.1, C.2.to (fun _ _ z => z) C.2.nf fun _ z => h _ _ z⟩
  | own t => exact ha _ C
  | dead => exact ha _ C
theorem Ext.grow {s0 s : Wd} {N0 N : Nat} {H' : Hp} (x : Ext s0 N0 s N) (h : ∀ b o, s.H b = some o → H' b = some o) : Ext s0 N0 { s with H := H' } N :=
  ⟨x.f, x.l, x.le, fun a o q hn => h a o (x.keep a o q hn), x.fnew, x.lnew, x.onew, fun a z => by
    have z' := x.alive a z
    show H' a ≠ none
    cases e : s.H a with
    | none => exact absurd e z'
    | some o => rw [h _ _ e]; simp⟩
theorem s_par {i j : Nat} {ta : TDA} {d : DEnds} {E : XQ} {η : DEnv} {μ : Mu} (h : ta η μ (fun es μ1 => match es with
  | [e1, e2] => noNew e1 = true ∧ noNew e2 = true ∧ d.nx ((η.set i (some e1)).set j (some e2)) μ1
  | _ => False) E) : sPar i j ta d E η μ := h
end DL
set_option Elab.async false
set_option linter.all false
set_option maxRecDepth 100000
set_option maxHeartbeats 4000000
namespace DL
open PySem PySem.Spec PyProof.Rows L2
/-! ### xs.clear() -/
end DL
set_option Elab.async false
set_option linter.all false
set_option maxRecDepth 100000
set_option maxHeartbeats 4000000
namespace DL
open PySem PyProof.Rows
/-! ### data in order -/
/-- the order of encoded items: Python's < -/
structure OrdE {α : Type} (en : α → PyData) (lt : α → α → Bool) : Prop where
  alike : ∀ a b, PySem.W.alike (en a) (en b) = true
  lts : ∀ a b, PySem.W.dataLt (en a) (en b) = lt a b
  eqs : ∀ a b, PyData.eqv (en a) (en b) = true ↔ a = b
  irr : ∀ a, lt a a = false
  tri : ∀ a b, lt a b = true ∨ a = b ∨ lt b a = true
  tr : ∀ a b c, lt a b = true → lt b c = true → lt a c = true
section
variable {α β γ δ : Type} {en : α → PyData} {lt : α → α → Bool} {en2 : β → PyData} {lt2 : β → β → Bool} {en3 : γ → PyData} {lt3 : γ → γ → Bool} {en4 : δ → PyData} {lt4 : δ → δ → Bool}
theorem OrdE.asym (O : OrdE en lt) {a b : α} (h : lt a b = true) : lt b a = false := by
  cases h2 : lt b a with
  | false => rfl
  | true =>
    have := O.tr a b a h h2
    rw [O.irr] at this
    cases this
theorem ord_int : OrdE PyData.int fun a b : Int => decide (a < b) where
  alike a b := by simp [PySem.W.alike]
  lts a b := PySem.W.dataLt_int a b
  eqs a b := by simp [PyData.eqv]
  irr a := by simp
  tri a b := by simp; omega
  tr a b c h1 h2 := by simp at *; omega
/-- the first that differs decides -/
def lx2 [DecidableEq α] (lt : α → α → Bool) (lt2 : β → β → Bool) (p q : α × β) : Bool := if p.1 = q.1 then lt2 p.2 q.2 else lt p.1 q.1
section
variable [DecidableEq α]
theorem lx2_tri (O : OrdE en lt) (O2 : ∀ a b, lt2 a b = true ∨ a = b ∨ lt2 b a = true) (p q : α × β) : lx2 lt lt2 p q = true ∨ p = q ∨ lx2 lt lt2 q p = true := by
  obtain ⟨a, b⟩ := p
  obtain ⟨c, d⟩ := q
  unfold lx2
  simp only
  by_cases h : a = c
  · subst h
    simp only [if_true, Prod.mk.injEq, true_and]
    exact O2 b d
  · rw [if_neg h, if_neg (fun z => h z.symm)]
    rcases O.tri a c with z | z | z
    · exact .inl z
    · exact absurd z h
    · exact .inr (.inr z)
theorem lx2_tr (O : OrdE en lt) (O2 : ∀ a b c, lt2 a b = true → lt2 b c = true → lt2 a c = true) (p q r : α × β) (h1 : lx2 lt lt2 p q = true) (h2 : lx2 lt lt2 q r = true) : lx2 lt lt2 p r = true := by
  obtain ⟨a, b⟩ := p
  obtain ⟨c, d⟩ := q
  obtain ⟨e, f⟩ := r
  unfold lx2 at *
  simp only at *
  by_cases e1 : a = c
  · subst e1
    rw [if_pos rfl] at h1
    by_cases e2 : a = e
    · subst e2
      rw [if_pos rfl] at h2 ⊢
      exact O2 _ _ _ h1 h2
    · rw [if_neg e2] at h2 ⊢
      exact h2
  · rw [if_neg e1] at h1
    by_cases e2 : c = e
    · subst e2
      rw [if_neg e1]
      exact h1
    · rw [if_neg e2] at h2
      have h3 := O.tr _ _ _ h1 h2
      rw [if_neg (fun z => by rw [z, O.irr] at h3; cases h3)]
      exact h3
theorem lx2_irr (O2 : ∀ a, lt2 a a = false) (p : α × β) : lx2 lt lt2 p p = false := by
  unfold lx2
  rw [if_pos rfl]
  exact O2 _
end
/-- rows of data in order: what the first of a tuple's items tells, then the others -/
structure OrdR (rn : α → List PyData) (lt : α → α → Bool) : Prop where
  alike : ∀ a b, PySem.W.alikeAll (rn a) (rn b) = true
  lts : ∀ a b, PySem.W.rowLt (rn a) (rn b) = lt a b
  eqs : ∀ a b, PyData.eqvAll (rn a) (rn b) = true ↔ a = b
  irr : ∀ a, lt a a = false
  tri : ∀ a b, lt a b = true ∨ a = b ∨ lt b a = true
  tr : ∀ a b c, lt a b = true → lt b c = true → lt a c = true
theorem rowLt_nil : PySem.W.rowLt [] [] = false := PyProof.Rows.lex_irrefl _
theorem rowLt_cons {x y : PyData} (h : PySem.W.alike x y = true) (xs ys : List PyData) : PySem.W.rowLt (x :: xs) (y :: ys) = if PyData.eqv x y = true then PySem.W.rowLt xs ys else PySem.W.dataLt x y := PySem.W.dataLt_cons h xs ys
theorem OrdE.one (O : OrdE en lt) : OrdR (fun a => [en a]) lt where
  alike a b := by simp [PySem.W.alikeAll, O.alike]
  lts a b := by
    rw [rowLt_cons (O.alike a b), rowLt_nil, O.lts]
    by_cases h : a = b
    · rw [if_pos ((O.eqs a b).mpr h), h, O.irr]
    · rw [if_neg (fun z => h ((O.eqs a b).mp z))]
  eqs a b := by simp [PyData.eqvAll, O.eqs]
  irr := O.irr
  tri := O.tri
  tr := O.tr
theorem OrdE.cons [DecidableEq α] (O : OrdE en lt) {rn : β → List PyData} (O2 : OrdR rn lt2) : OrdR (fun p : α × β => en p.1 :: rn p.2) (lx2 lt lt2) where
  alike a b := by simp [PySem.W.alikeAll, O.alike, O2.alike]
  lts a b := by
    rw [rowLt_cons (O.alike _ _), O2.lts, O.lts]
    unfold lx2
    by_cases h : a.1 = b.1
    · rw [if_pos ((O.eqs _ _).mpr h), if_pos h]
    · rw [if_neg (fun z => h ((O.eqs _ _).mp z)), if_neg h]
  eqs a b := by simp [PyData.eqvAll, O.eqs, O2.eqs, Prod.ext_iff]
  irr p := lx2_irr O2.irr p
  tri p q := lx2_tri O O2.tri p q
  tr p q r := lx2_tr O O2.tr p q r
theorem OrdR.tup {rn : α → List PyData} (O : OrdR rn lt) : OrdE (fun a => .tuple (rn a)) lt where
  alike a b := by simp only [PySem.W.alike]; exact O.alike a b
  lts a b := (PySem.W.dataLt_tuple _ _).trans (O.lts a b)
  eqs a b := by rw [PyData.eqv]; exact O.eqs a b
  irr := O.irr
  tri := O.tri
  tr := O.tr
theorem OrdE.t3 [DecidableEq α] [DecidableEq β] (O : OrdE en lt) (O2 : OrdE en2 lt2) (O3 : OrdE en3 lt3) : OrdE (fun p : α × β × γ => .tuple [en p.1, en2 p.2.1, en3 p.2.2]) (lx2 lt (lx2 lt2 lt3)) := (O.cons (O2.cons O3.one)).tup
/-! rising lists -/
def Rise (lt : α → α → Bool) (l : List α) : Prop := l.Pairwise fun a b => lt a b = true
theorem Rise.nodup (O : OrdE en lt) {l : List α} (h : Rise lt l) : l.Nodup := List.Pairwise.imp (fun {a b} h e => by rw [e, O.irr] at h; cases h) h
def leO (lt : α → α → Bool) (a b : α) : Bool := !lt b a
theorem leO_tot (O : OrdE en lt) (a b : α) : (leO lt a b || leO lt b a) = true := by
  unfold leO
  cases h : lt b a with
  | false => rfl
  | true => rw [O.asym h]; rfl
theorem leO_tr (O : OrdE en lt) (a b c : α) (h1 : leO lt a b = true) (h2 : leO lt b c = true) : leO lt a c = true := by
  unfold leO at *
  simp only [Bool.not_eq_true'] at *
  cases h : lt c a with
  | false => rfl
  | true =>
    rcases O.tri a b with z | z | z
    · rw [O.tr _ _ _ h z] at h2; cases h2
    · subst z; rw [h] at h2; cases h2
    · rw [z] at h1; cases h1
theorem sort_sorted (O : OrdE en lt) (l : List α) : (l.mergeSort (leO lt)).Pairwise fun a b => leO lt a b = true := List.pairwise_mergeSort (leO_tr O) (leO_tot O) l
theorem rise_sort (O : OrdE en lt) {l : List α} (h : l.Nodup) : Rise lt (l.mergeSort (leO lt)) := by
  have h1 := sort_sorted O l
  have h2 : (l.mergeSort (leO lt)).Nodup := (List.mergeSort_perm l _).nodup_iff.mpr h
  refine List.Pairwise.imp₂ (fun a b h3 h4 => ?_) h1 h2
  rcases O.tri a b with z | z | z
  · exact z
  · exact absurd z h4
  · unfold leO at h3; rw [z] at h3; cases h3
end
end DL
namespace DL
open PySem PySem.Spec PyProof.Rows L2
section
variable {α : Type} {en : α → PyData} {lt : α → α → Bool}
/-- the kinds that sorted takes -/
def SrtE (en : α → PyData) : Prop := (∀ a, ∃ x r, en a = .tuple (x :: r)) ∨ (∀ a, en a ≠ .none ∧ ∀ xs, en a ≠ .tuple xs)
theorem OrdE.alikeD (O : OrdE en lt) (h : SrtE en) (as : List α) : AlikeD (as.map en) := ⟨PySem.W.AllAlike.of O.alike, h.elim PySem.W.Sortable.tuples PySem.W.Sortable.others⟩
theorem OrdE.sort (O : OrdE en lt) (as : List α) : (as.map en).mergeSort leD = (as.mergeSort (leO lt)).map en := sort_enc fun a b => by
  show (!PySem.W.dataLt (en b) (en a)) = !lt b a
  rw [O.lts]
theorem Enc.deps {n : Nat} (h : Enc en n) (hn : n ≤ 60) (as : List α) : ∀ d ∈ as.map en, d.depth ≤ 60 := fun d hd => by
  obtain ⟨a, _, rfl⟩ := List.mem_map.mp hd
  exact Nat.le_trans (h.dep a) hn
variable {μ : Mu} {q : PQ} {n : Nat}
theorem OrdE.srt_n (O : OrdE en lt) (h : SrtE en) (E : Enc en n) (hn : n ≤ 60) {as : List α} : oSortD [.new (as.map en)] μ q = q (.new ((as.mergeSort (leO lt)).map en)) μ := by
  rw [DL.srt_n, O.sort]
  exact propext ⟨fun z => z.2.2, fun z => ⟨⟨noDs_map E.nod as, E.deps hn as⟩, O.alikeD h as, z⟩⟩
theorem OrdE.srt_l (O : OrdE en lt) (h : SrtE en) (E : Enc en n) (hn : n ≤ 60) {as : List α} : oSortD [.dat (.list (as.map en))] μ q = q (.new ((as.mergeSort (leO lt)).map en)) μ := by
  rw [DL.srt_l, O.sort]
  exact propext ⟨fun z => z.2.2, fun z => ⟨⟨noDs_map E.nod as, E.deps hn as⟩, O.alikeD h as, z⟩⟩
end
/-! ### sorted(set(xs)), xs a list of tuples of ints -/
/-! ### [f, g][i](..): one of two defs -/
end DL
set_option Elab.async false
set_option linter.all false
set_option maxRecDepth 100000
set_option maxHeartbeats 4000000
namespace DL
open PySem PySem.Spec PyProof.Rows L2
/-! ### dicts whose keys are encoded by tuples -/
structure EncK {α : Type} (ky : α → List Key) (en : α → PyData) : Prop where
  inj : ∀ a b, ky a = ky b → a = b
  dat : ∀ a, en a = .tuple ((ky a).map keyD)
def entK {α : Type} (ky : α → List Key) (p : α × PyData) : List Key × PyData := (ky p.1, p.2)
def datK {α : Type} (en : α → PyData) (p : α × PyData) : PyData × PyData := (en p.1, p.2)
def trues {α : Type} (cs : List α) : List (α × PyData) := cs.map fun c => (c, .bool true)
def insA {α : Type} [DecidableEq α] (cs : List α) (c : α) : List α := if c ∈ cs then cs else cs ++ [c]
section
variable {α : Type} {ky : α → List Key} {en : α → PyData}
theorem EncK.kvT (E : EncK ky en) (l : List (α × PyData)) : DL.kvT (l.map (entK ky)) = l.map (datK en) := by
  unfold DL.kvT
  rw [List.map_map]
  refine List.map_congr_left fun p _ => ?_
  simp only [Function.comp, entK, datK, E.dat]
theorem allT_ent (E : EncK ky en) (l : List (α × PyData)) : ((l.map (datK en)).all fun p => isTupD p.1) = true := by
  rw [List.all_map, List.all_eq_true]
  intro c _
  simp only [Function.comp, datK, E.dat]
  rfl
theorem EncK.eqv (E : EncK ky en) (a b : α) : PyData.eqv (en a) (en b) = true ↔ a = b := by
  rw [E.dat, E.dat, eqv_tup, enc_key.all]
  exact ⟨E.inj a b, fun e => by rw [e]⟩
variable [DecidableEq α]
theorem mem_insA {cs : List α} {c x : α} : x ∈ insA cs c ↔ x ∈ cs ∨ x = c := by
  unfold insA
  split
  · rename_i h
    exact ⟨.inl, fun z => z.elim id fun e => e ▸ h⟩
  · simp
theorem len_insA (cs : List α) (c : α) : (insA cs c).length ≤ cs.length + 1 := by
  unfold insA
  split <;> simp
theorem nodup_insA {cs : List α} (h : cs.Nodup) (c : α) : (insA cs c).Nodup := by
  unfold insA
  split
  · exact h
  · rename_i hc
    rw [List.nodup_append]
    exact ⟨h, by simp, fun a ha b hb e => hc (by rw [List.mem_singleton] at hb; rw [← hb, ← e]; exact ha)⟩
theorem EncK.put (E : EncK ky en) (l : List (α × PyData)) (a : α) (d : PyData) : putD (l.map (entK ky)) (ky a) d = (putD l a d).map (entK ky) := by
  unfold putD
  have e : ((l.map (entK ky)).any fun kv => decide (kv.1 = ky a)) = l.any fun kv => decide (kv.1 = a) := by
    rw [List.any_map]
    congr 1
    funext p
    simp only [Function.comp, entK]
    exact decide_eq_decide.mpr ⟨E.inj _ _, fun z => by rw [z]⟩
  rw [e]
  split
  · rw [List.map_map, List.map_map]
    refine List.map_congr_left fun p _ => ?_
    show (if ky p.1 = ky a then (ky p.1, d) else (ky p.1, p.2)) = entK ky (if p.1 = a then (p.1, d) else p)
    by_cases h : p.1 = a
    · rw [if_pos h, if_pos (by rw [h])]
      rfl
    · rw [if_neg h, if_neg (fun z => h (E.inj _ _ z))]
      rfl
  · rw [List.map_append]
    rfl
theorem EncK.get (E : EncK ky en) (l : List (α × PyData)) (a : α) : getD (l.map (entK ky)) (ky a) = getD l a := by
  unfold getD
  rw [List.find?_map]
  have e : ((fun kv : List Key × PyData => decide (kv.1 = ky a)) ∘ entK ky) = fun kv : α × PyData => decide (kv.1 = a) := by
    funext p
    simp only [Function.comp, entK]
    exact decide_eq_decide.mpr ⟨E.inj _ _, fun z => by rw [z]⟩
  rw [e, Option.map_map]
  rfl
theorem EncK.drop (E : EncK ky en) (l : List (α × PyData)) (a : α) : dropD (l.map (entK ky)) (ky a) = (dropD l a).map (entK ky) := by
  unfold dropD
  rw [List.filter_map]
  congr 1
  refine List.filter_congr fun p _ => ?_
  simp only [Function.comp, entK]
  exact decide_eq_decide.mpr ⟨fun z e => z (by rw [e]), fun z e => z (E.inj _ _ e)⟩
theorem EncK.has (E : EncK ky en) (l : List (α × PyData)) (a : α) : hasKs (l.map (datK en)) (en a) = decide (a ∈ l.map (·.1)) := by
  unfold hasKs
  rw [List.any_map, Bool.eq_iff_iff, List.any_eq_true, decide_eq_true_eq, List.mem_map]
  constructor
  · rintro ⟨p, hp, h⟩
    exact ⟨p, hp, (E.eqv _ _).mp h⟩
  · rintro ⟨p, hp, h⟩
    exact ⟨p, hp, (E.eqv _ _).mpr h⟩
theorem trues_keys (cs : List α) : (trues cs).map (·.1) = cs := by
  unfold trues
  rw [List.map_map]
  exact List.map_id cs
theorem put_trues (cs : List α) (a : α) : putD (trues cs) a (.bool true) = trues (insA cs a) := by
  unfold putD insA trues
  have e : ((cs.map fun c => (c, PyData.bool true)).any fun kv => decide (kv.1 = a)) = decide (a ∈ cs) := by
    rw [List.any_map, Bool.eq_iff_iff, List.any_eq_true, decide_eq_true_eq]
    constructor
    · rintro ⟨c, hc, h⟩
      simp only [Function.comp, decide_eq_true_eq] at h
      exact h ▸ hc
    · intro h
      exact ⟨a, h, by simp⟩
  rw [e]
  by_cases h : a ∈ cs
  · rw [if_pos (decide_eq_true h), if_pos h, List.map_map]
    refine List.map_congr_left fun c _ => ?_
    simp only [Function.comp]
    split
    · rename_i h2
      rfl
    · rfl
  · rw [if_neg (by simpa using h), if_neg h, List.map_append]
    rfl
end
/-! ### spots: sheet, x, y -/
abbrev Sp3 := Int × Int × Int
def spD (c : Sp3) : PyData := .tuple [.int c.1, .int c.2.1, .int c.2.2]
def ky3 (c : Sp3) : List Key := [.inl c.1, .inl c.2.1, .inl c.2.2]
def spE (c : Sp3) : List Key × PyData := (ky3 c, .bool true)
def dc3 (cs : List Sp3) : PyData := .dict (cs.map fun c => (spD c, .bool true))
abbrev ltI (a b : Int) : Bool := decide (a < b)
abbrev ltS : Sp3 → Sp3 → Bool := lx2 ltI (lx2 ltI ltI)
theorem enc_sp : Enc spD 1 := Enc.t3 enc_int enc_int enc_int
theorem ord_sp : OrdE spD ltS := ord_int.t3 ord_int ord_int
theorem srt_sp : SrtE spD := .inl fun _ => ⟨_, _, rfl⟩
theorem ek3 : EncK ky3 spD := ⟨fun a b h => by
  simp only [ky3, List.cons.injEq, Sum.inl.injEq, and_true] at h
  exact Prod.ext h.1 (Prod.ext h.2.1 h.2.2), fun _ => rfl⟩
theorem spD_inj {a b : Sp3} : (spD a = spD b) = (a = b) := enc_sp.eq
theorem sps_inj {a b : List Sp3} : (a.map spD = b.map spD) = (a = b) := enc_sp.map_eq
theorem spE_tr (cs : List Sp3) : cs.map spE = (trues cs).map (entK ky3) := by
  unfold trues
  rw [List.map_map]
  rfl
theorem dc3_eq (cs : List Sp3) : PyData.dict (kvT (cs.map spE)) = dc3 cs := by
  rw [spE_tr, ek3.kvT]
  unfold dc3 trues
  rw [List.map_map]
  rfl
theorem dc3_d (cs : List Sp3) : dc3 cs = .dict ((trues cs).map (datK spD)) := by
  unfold dc3 trues
  rw [List.map_map]
  rfl
def keysSp (d : PyData) : List PyData := match d with
  | .dict l => l.map fun p => p.1
  | _ => []
theorem dc3_inj {a b : List Sp3} : (dc3 a = dc3 b) = (a = b) := by
  refine propext ⟨fun e => ?_, fun e => by rw [e]⟩
  have h := congrArg keysSp e
  simp only [dc3, keysSp, List.map_map] at h
  have h' : a.map spD = b.map spD := h
  rwa [sps_inj] at h'
section
variable {a b c : Int} {cs : List Sp3} {μ : Mu} {q : PQ} {neg : Bool} {s : Sp3}
theorem put_sp : putD (cs.map spE) [.inl a, .inl b, .inl c] (.bool true) = (insA cs (a, b, c)).map spE := by
  rw [spE_tr, spE_tr, ← put_trues]
  exact ek3.put (trues cs) (a, b, c) (.bool true)
theorem hasKs_sp : hasKs (kvT (cs.map spE)) (.tuple [.int a, .int b, .int c]) = decide ((a, b, c) ∈ cs) := by
  rw [spE_tr, ek3.kvT]
  have := ek3.has (trues cs) (a, b, c)
  rw [trues_keys] at this
  exact this.trans (decide_eq_decide.mpr Iff.rfl)
theorem memA_sp : oMemA neg (.dat (.tuple [.int a, .int b, .int c])) (.dat (dc3 cs)) μ q = q (.dat (.bool (if neg then !decide ((a, b, c) ∈ cs) else decide ((a, b, c) ∈ cs)))) μ := by
  rw [dc3_d, memA_dict, allT_ent ek3]
  have h := ek3.has (trues cs) (a, b, c)
  rw [trues_keys] at h
  have h' : hasKs ((trues cs).map (datK spD)) (.tuple [.int a, .int b, .int c]) = decide ((a, b, c) ∈ cs) := h.trans (decide_eq_decide.mpr Iff.rfl)
  rw [h']
  simp [keysP_i, keysP_nil]
theorem memA_spD : oMemA neg (.dat (spD s)) (.dat (dc3 cs)) μ q = q (.dat (.bool (if neg then !decide (s ∈ cs) else decide (s ∈ cs)))) μ := memA_sp
theorem srt_dc3 : oSortD [.dat (dc3 cs)] μ q = q (.new ((cs.mergeSort (leO ltS)).map spD)) μ := by
  unfold dc3
  rw [srt_d]
  have e : (cs.map fun c => (spD c, PyData.bool true)).map (·.1) = cs.map spD := by rw [List.map_map]; rfl
  rw [e, ord_sp.sort]
  exact propext ⟨fun h => h.2.2, fun h => ⟨by rw [List.all_map, List.all_eq_true]; intro _ _; rfl, ord_sp.alikeD srt_sp cs, h⟩⟩
theorem srtC_sp : srtC q μ (some (.dct (cs.map spE))) = q (.new ((cs.mergeSort (leO ltS)).map spD)) μ := by
  rw [srtC_d]
  have e : ((cs.map spE).map fun p => PyData.tuple (p.1.map keyD)) = cs.map spD := by rw [List.map_map]; rfl
  rw [e, ord_sp.sort]
  exact propext ⟨fun h => h.2, fun h => ⟨ord_sp.alikeD srt_sp cs, h⟩⟩
theorem srt_spn : oSortD [.new (cs.map spD)] μ q = q (.new ((cs.mergeSort (leO ltS)).map spD)) μ := ord_sp.srt_n srt_sp enc_sp (by decide)
theorem srt_spl : oSortD [.dat (.list (cs.map spD))] μ q = q (.new ((cs.mergeSort (leO ltS)).map spD)) μ := ord_sp.srt_l srt_sp enc_sp (by decide)
theorem ix_sp {y : EV} : oIx (.dat (spD s)) y μ q = oIx (.dat (.tuple [.int s.1, .int s.2.1, .int s.2.2])) y μ q := Eq.trans rfl rfl
end
end DL
set_option Elab.async false
set_option linter.all false
namespace DL
end DL
set_option Elab.async false
set_option linter.all false
set_option maxRecDepth 100000
set_option maxHeartbeats 4000000
namespace DL
open PySem PySem.Spec PyProof.Rows L2
/-! ### instances: attributes read, stored -/
/-- what stands at a child's place -/
def kidEV (n : Nat) (p : List Nat) (i : Nat) : Tree → EV
  | .dat d => .dat d
  | .per c => .per c
  | .nod _ b _ => .at n (p ++ [i]) b
theorem kid_nod {n i : Nat} {p : List Nat} {k : Knd} {b : Addr} {ts : List Tree} : kidEV n p i (.nod k b ts) = .at n (p ++ [i]) b := Eq.trans rfl rfl
theorem vr_kid {K : PySem.W.Frag} {s : Wd} {N n i : Nat} {p : List Nat} {v : V} {t : Tree} (r : TreeR K s.F s.H v t) : VR K s N v (kidEV n p i t) := by
  cases r with
  | dat r => exact r
  | per r => exact r
  | nod _ _ _ => exact rfl
theorem noNew_kid {n i : Nat} {p : List Nat} {t : Tree} : noNew (kidEV n p i t) = true := by cases t <;> rfl
/-- a node, its address told -/
def nodK (μ : Mu) (n : Nat) (p : List Nat) (b : Addr) (k : Knd → List Tree → Prop) : Prop := match nodeAt μ n p with
  | some (.nod kd b' ts) => b' = b ∧ k kd ts
  | _ => False
theorem nodK_ex {μ : Mu} {n : Nat} {p : List Nat} {b : Addr} {k : Knd → List Tree → Prop} (h : nodK μ n p b k) : ∃ kd ts, nodeAt μ n p = some (.nod kd b ts) ∧ k kd ts := by
  unfold nodK at h
  split at h
  · rename_i hn
    obtain ⟨rfl, h⟩ := h
    exact ⟨_, _, hn, h⟩
  · exact h.elim
theorem nodK_at {μ : Mu} {n : Nat} {p : List Nat} {b : Addr} {k : Knd → List Tree → Prop} {kd : Knd} {ts : List Tree} (h : nodeAt μ n p = some (.nod kd b ts)) : nodK μ n p b k = k kd ts := by
  unfold nodK
  rw [h]
  exact propext ⟨fun z => z.2, fun z => ⟨rfl, z⟩⟩
def atK (i : Option Nat) (ts : List Tree) (k : Nat → Tree → Prop) : Prop := match i with
  | some i => match ts[i]? with
    | some c => k i c
    | none => False
  | none => False
theorem atK_i {i : Nat} {ts : List Tree} {k : Nat → Tree → Prop} {c : Tree} (h : ts[i]? = some c) : atK (some i) ts k = k i c := by
  unfold atK
  simp only [h]
theorem atK_ex {i : Option Nat} {ts : List Tree} {k : Nat → Tree → Prop} (h : atK i ts k) : ∃ j c, i = some j ∧ ts[j]? = some c ∧ k j c := by
  unfold atK at h
  split at h
  · split at h
    · exact ⟨_, _, rfl, by assumption, h⟩
    · exact h.elim
  · exact h.elim
section
variable {X : Cx} {W : WX} {e o : Expr} {f : Str} {te tv : TDE} {pos pos' : Pos}
/-- what becomes a part of a tree -/
def treeK (k : Tree → Prop) : EV → Prop
  | .dat d => k (.dat d)
  | .per c => k (.per c)
  | .new xs => ∀ a, k (.nod .lst a (xs.map .dat))
  | .newd kvs => (kvs.map (·.1)).Nodup ∧ ∀ a, k (.nod (.dct (kvs.map (·.1))) a (kvs.map fun p => .dat p.2))
  | .newk kvs => (kvs.map (·.1)).Nodup ∧ ∀ a, k (.nod (.dck (kvs.map (·.1))) a (kvs.map fun p => .dat p.2))
  | .newo t => k t
  | _ => False
theorem treeK_dat {k : Tree → Prop} {d : PyData} : treeK k (.dat d) = k (.dat d) := Eq.trans rfl rfl
theorem treeK_new {k : Tree → Prop} {xs : List PyData} : treeK k (.new xs) = ∀ a, k (.nod .lst a (xs.map .dat)) := Eq.trans rfl rfl
theorem trees_dat {K : PySem.W.Frag} {F H : Hp} : ∀ {vs : List V} {ds : List PyData}, DRs K F vs ds → TreesR K F H vs (ds.map .dat)
  | _, _, .nil => .nil
  | _, _, .cons r rs => .cons (.dat r) (trees_dat rs)
theorem addrsL_dat (xs : List PyData) : addrsL (xs.map .dat) = [] := by
  induction xs with
  | nil => rw [List.map_nil, addrsL_nil]
  | cons x xs ih => rw [List.map_cons, addrsL_cons, addrs_dat, ih]; rfl
theorem zip_self {α β : Type} (l : List (α × β)) : (l.map (·.1)).zip (l.map (·.2)) = l := by
  induction l with
  | nil => rfl
  | cons x l ih => rw [List.map_cons, List.map_cons, List.zip_cons_cons, ih]
/-- the addresses that a new value has -/
def own1 (v : V) (a : Addr) : EV → Prop
  | .new _ => v = .ref a
  | .newd _ => v = .ref a
  | .newk _ => v = .ref a
  | .newo t => a ∈ addrs t
  | _ => False
theorem tree_of {K : PySem.W.Frag} {s0 s : Wd} {N : Nat} {v : V} {y : EV} {k : Tree → Prop} (r : VR K s N v y) (f : Frsh s0.H v y) (h : treeK k y) : ∃ t, k t ∧ TreeR K s.F s.H v t ∧ (addrs t).Nodup ∧ (∀ a ∈ addrs t, NL s N a ∧ s0.H a = none) ∧ ∀ a ∈ addrs t, own1 v a y := by
  have one : ∀ {p : Addr} {kd : Knd} {ts : List Tree}, addrsL ts = [] → (addrs (.nod kd p ts)).Nodup ∧ (NL s N p → s0.H p = none → ∀ a ∈ addrs (.nod kd p ts), NL s N a ∧ s0.H a = none) := fun {p kd ts} e => by
    rw [addrs_nod, e]
    exact ⟨by simp, fun h1 h2 a ha => by rw [List.mem_singleton] at ha; subst ha; exact ⟨h1, h2⟩⟩
  cases y with
  | dat d => exact ⟨.dat d, h, .dat r, by rw [addrs_dat]; exact .nil, (fun a ha => by rw [addrs_dat] at ha; cases ha), fun a ha => by rw [addrs_dat] at ha; cases ha⟩
  | per c => exact ⟨.per c, h, .per r, by rw [addrs_per]; exact .nil, (fun a ha => by rw [addrs_per] at ha; cases ha), fun a ha => by rw [addrs_per] at ha; cases ha⟩
  | new xs =>
    obtain ⟨p, vs, rfl, h1, h2, h3, h4⟩ := r
    exact ⟨_, h p, .nod h1 (.inr h2) (trees_dat h4), (one (addrsL_dat xs)).1, (one (addrsL_dat xs)).2 h3 (f p rfl), fun a ha => by rw [addrs_nod, addrsL_dat, List.mem_singleton] at ha; rw [ha]; rfl⟩
  | newd kvs =>
    obtain ⟨p, ks, rfl, h1, h2, h3, ⟨h4, h5⟩, h6⟩ := r
    have e : kvs.map (fun q => Tree.dat q.2) = (kvs.map (·.2)).map .dat := by rw [List.map_map]; rfl
    refine ⟨_, h.2 p, .nod ⟨?_, ?_, h.1, fun x hx => ?_⟩ (.inr h2) (vs := ks.map (·.2)) (by rw [e]; exact trees_dat h6), (one (by rw [e]; exact addrsL_dat _)).1, (one (by rw [e]; exact addrsL_dat _)).2 h3 (f p rfl), fun a ha => by rw [addrs_nod, e, addrsL_dat, List.mem_singleton] at ha; rw [ha]; rfl⟩
    · rw [← h4, zip_self]; exact h1
    · rw [← h4, List.length_map, List.length_map]
    · obtain ⟨q, hq, rfl⟩ := List.mem_map.mp hx
      exact h5 q hq
  | newk kvs =>
    obtain ⟨p, ks, rfl, h1, h2, h3, ⟨h4, h5⟩, h6⟩ := r
    have e : kvs.map (fun q => Tree.dat q.2) = (kvs.map (·.2)).map .dat := by rw [List.map_map]; rfl
    refine ⟨_, h.2 p, .nod ⟨?_, ?_, h.1, fun x hx => ?_⟩ (.inr h2) (vs := ks.map (·.2)) (by rw [e]; exact trees_dat h6), (one (by rw [e]; exact addrsL_dat _)).1, (one (by rw [e]; exact addrsL_dat _)).2 h3 (f p rfl), fun a ha => by rw [addrs_nod, e, addrsL_dat, List.mem_singleton] at ha; rw [ha]; rfl⟩
    · rw [← h4, zip_self]; exact h1
    · rw [← h4, List.length_map, List.length_map]
    · obtain ⟨q, hq, rfl⟩ := List.mem_map.mp hx
      exact h5 q hq
  | newo t => exact ⟨t, h, r.2.1, r.2.2.1, fun a ha => ⟨r.2.2.2 a ha, f a ha⟩, fun a ha => ha⟩
  | loc _ => exact h.elim
  | raw _ => exact h.elim
  | exc _ => exact h.elim
  | ro _ => exact h.elim
  | «at» _ _ _ => exact h.elim
end
theorem addrsL_app (ts us : List Tree) : addrsL (ts ++ us) = addrsL ts ++ addrsL us := by
  induction ts with
  | nil => rw [addrsL_nil]; rfl
  | cons t ts ih => rw [List.cons_append, addrsL_cons, addrsL_cons, ih, List.append_assoc]
/-- where a node's own object alone is written, its children as they were or new -/
theorem node_mut {K : PySem.W.Frag} {s0 s : Wd} {N0 n : Nat} {μ : Mu} {p : List Nat} {k k' : Knd} {b : Addr} {ts ts' : List Tree} {o : HO} {vs' : List V} (R : Rep K s μ) (x : Ext s0 N0 s μ.length) (hn : nodeAt μ n p = some (.nod k b ts)) (hk : ¬ isTupK k) (hH : HeapIs (upd s.H b o) b k' vs')
    (hT : TreesR K s.F s.H vs' ts') (nd : (addrsL ts').Nodup) (hfr : ∀ a ∈ addrsL ts', a ∈ addrsL ts ∨ (NL s μ.length a ∧ s0.H a = none)) :
    ∃ O', Rep K { s with H := upd s.H b o, O := O' } (putAt μ n p (.nod k' b ts')) ∧ Ext s0 N0 { s with H := upd s.H b o, O := O' } (putAt μ n p (.nod k' b ts')).length := by
  obtain ⟨vs, h1, h2, h3⟩ := node_is R hn
  have hF : s.F b = none := h2.resolve_left hk
  obtain ⟨t, ht, hp⟩ := nodeAt_ex hn
  have T := R.tree n t ht
  have hlt := (List.getElem?_eq_some_iff.mp ht).1
  have ndn := nodup_get T.nd hp
  rw [addrs_nod] at ndn
  obtain ⟨nb, nts⟩ := List.nodup_cons.mp ndn
  have hbO : s.O n b := T.own b (addrs_get hp b (by rw [addrs_nod]; exact List.mem_cons_self))
  have nb' : b ∉ addrsL ts' := fun z => (hfr b z).elim nb fun y => y.1 n hlt hbO
  refine ⟨_, own_put R x hn (u' := .nod k' b ts') (H' := upd s.H b o) (F' := s.F) (fun w _ => ?_) (by rw [addrs_nod]; exact List.nodup_cons.mpr ⟨nb', nd⟩) (fun a ha => ?_) (fun a u q => ?_) (fun _ _ z => z) (fun a z1 z2 => absurd z1 z2) (fun a ha _ => ?_) (fun a h => upd_live h) (fun a ha => ?_) (fun _ v rv => ?_)⟩
  · rename_i rw_
    have := rw_.node.1
    subst this
    exact .nod hH (.inr hF) (hT.keeps (fun _ _ z => z) fun a ha => keeps_put fun z => nb' (z ▸ ha))
  · rw [addrs_nod] at ha ⊢
    rcases List.mem_cons.mp ha with rfl | ha
    · exact .inl List.mem_cons_self
    · exact (hfr a ha).imp (List.mem_cons_of_mem _) id
  · rw [upd_ne (ne_of_none q hF)]
    exact R.sub a u q
  · rw [addrs_nod] at ha
    exact upd_ne fun z => ha (z ▸ List.mem_cons_self)
  · rw [addrs_nod] at ha
    rcases List.mem_cons.mp ha with rfl | ha
    · rw [upd_same]; simp
    · exact upd_live (hT.live a ha)
  · have := rv.node.1
    subst this
    exact ⟨b, rfl, by rw [addrs_nod]; exact List.mem_cons_self⟩
end DL
set_option Elab.async false
set_option linter.all false
set_option maxRecDepth 100000
set_option maxHeartbeats 4000000
namespace DL
open PySem PySem.Spec PyProof.Rows L2
/-! ### instances made, their methods called -/
section
variable {X : Cx} {W : WX} {CX' : CXT} {k j : Nat} {C f0 : Addr} {fd : FuncData} {ps : List Str} {dvs : List V} {ds : List Value} {spv : Sp} {x m : Str} {p pos apos : Pos} {e o : Expr} {es : List Expr}
theorem VL.ext {K : PySem.W.Frag} {s s' : Wd} {N N' : Nat} {vs : List V} {es : List EV} (h : VL K s N vs es) (x : Ext s N s' N') : VL K s' N' vs es := by
  induction h with
  | nil => exact .nil
  | cons a _ ih => exact .cons (a.ext x) ih
/-! methods -/
end
end DL
set_option Elab.async false
set_option linter.all false
set_option maxRecDepth 100000
set_option maxHeartbeats 4000000
namespace DL
open PySem PySem.Spec PyProof.Rows L2
/-! ### dicts, lists that are parts of trees -/
def findIx {κ : Type} [DecidableEq κ] : List κ → κ → Option Nat
  | [], _ => none
  | g :: ks, k => if g = k then some 0 else (findIx ks k).map (· + 1)
section
variable {κ : Type} [DecidableEq κ]
theorem findIx_some {k : κ} : ∀ {ks : List κ} {i : Nat}, findIx ks k = some i → ks[i]? = some k ∧ i < ks.length
  | [], _, h => by cases h
  | g :: ks, i, h => by
    unfold findIx at h
    by_cases e : g = k
    · rw [if_pos e] at h
      cases h
      simp [e]
    · rw [if_neg e] at h
      cases q : findIx ks k with
      | none => rw [q] at h; cases h
      | some j =>
        rw [q] at h
        cases h
        obtain ⟨h1, h2⟩ := findIx_some q
        exact ⟨by simpa using h1, by simpa using h2⟩
theorem findIx_none {k : κ} : ∀ {ks : List κ}, findIx ks k = none → k ∉ ks
  | [], _ => by simp
  | g :: ks, h => by
    unfold findIx at h
    by_cases e : g = k
    · rw [if_pos e] at h; cases h
    · rw [if_neg e] at h
      cases q : findIx ks k with
      | some j => rw [q] at h; cases h
      | none =>
        intro z
        rcases List.mem_cons.mp z with z | z
        · exact e z.symm
        · exact findIx_none q z
theorem valV_zip {k : κ} : ∀ {ks : List κ} {vs : List V} {i : Nat} {v : V}, findIx ks k = some i → vs[i]? = some v → valV (ks.zip vs) k = some v
  | [], _, _, _, h, _ => by cases h
  | g :: ks, [], _, _, _, h => by simp at h
  | g :: ks, w :: vs, i, v, h, hv => by
    unfold findIx at h
    by_cases e : g = k
    · rw [if_pos e] at h
      cases h
      simp at hv
      subst hv
      simp [valV, e]
    · rw [if_neg e] at h
      cases q : findIx ks k with
      | none => rw [q] at h; cases h
      | some j =>
        rw [q] at h
        cases h
        have z : valV ((g :: ks).zip (w :: vs)) k = valV (ks.zip vs) k := by simp [valV, List.find?_cons, e]
        rw [z]
        exact valV_zip q (by simpa using hv)
theorem valV_no {k : κ} : ∀ {ks : List κ} {vs : List V}, findIx ks k = none → valV (ks.zip vs) k = none
  | [], _, _ => by simp [valV]
  | g :: ks, [], _ => by simp [valV]
  | g :: ks, w :: vs, h => by
    unfold findIx at h
    by_cases e : g = k
    · rw [if_pos e] at h; cases h
    · rw [if_neg e] at h
      cases q : findIx ks k with
      | some j => rw [q] at h; cases h
      | none =>
        have z : valV ((g :: ks).zip (w :: vs)) k = valV (ks.zip vs) k := by simp [valV, List.find?_cons, e]
        rw [z]
        exact valV_no q
theorem any_zip {k : κ} {ks : List κ} {vs : List V} (hl : ks.length = vs.length) : ((ks.zip vs).any fun kv => decide (kv.1 = k)) = decide (k ∈ ks) := by
  rw [Bool.eq_iff_iff, List.any_eq_true, decide_eq_true_eq]
  have e : (ks.zip vs).map (·.1) = ks := List.map_fst_zip (by omega)
  constructor
  · rintro ⟨p, hp, h⟩
    have : p.1 ∈ (ks.zip vs).map (·.1) := List.mem_map_of_mem hp
    rw [e] at this
    rw [decide_eq_true_eq] at h
    exact h ▸ this
  · intro h
    rw [← e] at h
    obtain ⟨p, hp, rfl⟩ := List.mem_map.mp h
    exact ⟨p, hp, by simp⟩
theorem put_zip {k : κ} {v : V} {ks : List κ} {vs : List V} {i : Nat} (hn : ks.Nodup) (hl : ks.length = vs.length) (h : findIx ks k = some i) : putK (ks.zip vs) k v = ks.zip (vs.set i v) := by
  unfold putK
  rw [any_zip hl, if_pos (decide_eq_true (List.mem_of_getElem? (findIx_some h).1))]
  refine List.ext_getElem (by simp) fun j h1 h2 => ?_
  simp only [List.getElem_map, List.getElem_zip]
  have h1' : j < ks.length ∧ j < vs.length := by simp at h1; omega
  obtain ⟨g1, g2⟩ := List.getElem?_eq_some_iff.mp (findIx_some h).1
  by_cases e : ks[j] = k
  · rw [if_pos e]
    have : j = i := by
      have := (List.getElem_inj hn).mp (e.trans g2.symm)
      exact this
    subst this
    simp
  · rw [if_neg e]
    have : i ≠ j := fun z => e (by subst z; exact g2)
    rw [List.getElem_set_ne this]
theorem put_zip_new {k : κ} {v : V} {ks : List κ} {vs : List V} (hl : ks.length = vs.length) (h : findIx ks k = none) : putK (ks.zip vs) k v = (ks ++ [k]).zip (vs ++ [v]) := by
  unfold putK
  rw [any_zip hl, if_neg (by simpa using findIx_none h), List.zip_append hl]
  rfl
end
/-- where a key stands in a dict's node -/
def posD (kd : Knd) (d : PyData) : Option (Option Nat) := match kd, d with
  | .dct ks, .tuple ds => match keysOf ds with
    | some k => some (findIx ks k)
    | none => none
  | .dck ks, d => match keyOf d with
    | some k => some (findIx ks k)
    | none => none
  | _, _ => none
def addD (kd : Knd) (d : PyData) : Knd := match kd, d with
  | .dct ks, .tuple ds => .dct (ks ++ [(keysOf ds).getD []])
  | .dck ks, d => .dck (ks ++ [(keyOf d).getD (.inl 0)])
  | kd, _ => kd
/-- a dict's value at a key, its object behind a store -/
structure DictN (K : PySem.W.Frag) (F H : Hp) (b : Addr) (kd : Knd) (vs : List V) (y : V) (d : PyData) (r : Option Nat) : Prop where
  get : ∃ o, DGet H b y o ∧ (∀ i v, r = some i → vs[i]? = some v → o = some v) ∧ (r = none → o = none)
  put : ∀ v, vs.length < 100000 → ∃ o, (∀ i, r = some i → DPut H b y v (upd H b o) ∧ HeapIs (upd H b o) b kd (vs.set i v)) ∧ (r = none → DPut H b y v (upd H b o) ∧ HeapIs (upd H b o) b (addD kd d) (vs ++ [v]))
  kd : ¬ isTupK kd
theorem dictN {K : PySem.W.Frag} {F H : Hp} {b : Addr} {kd : Knd} {vs : List V} {y : V} {d : PyData} {r : Option Nat} (sub : Same F H) (h : HeapIs H b kd vs) (ry : DR K F y d) (hp : posD kd d = some r) : DictN K F H b kd vs y d r := by
  unfold posD at hp
  split at hp
  · rename_i ks ds
    cases hk : keysOf ds with
    | none => rw [hk] at hp; cases hp
    | some k =>
      rw [hk] at hp
      cases hp
      cases ry with
      | @tup t ws _ ht hs =>
        obtain ⟨rfl, rfl, hok⟩ := keysOf_ok hs hk
        obtain ⟨h1, h2, h3, h4⟩ := h
        refine ⟨⟨_, DGet.t h1 (sub _ _ ht), fun i v hi hv => valV_zip hi hv, valV_no⟩, fun v hz => ?_, fun z => z⟩
        cases q : findIx ks k with
        | some i =>
          refine ⟨.dT (putK (ks.zip vs) k v), fun j hj => ?_, fun z => by cases z⟩
          cases hj
          exact ⟨DPut.t h1 (sub _ _ ht) (Nat.lt_of_lt_of_le (by rw [List.length_zip]; exact Nat.lt_of_le_of_lt (Nat.min_le_right _ _) hz) (by decide)), ⟨by rw [upd_same, put_zip h3 h2 q], by rw [List.length_set]; exact h2, h3, h4⟩⟩
        | none =>
          refine ⟨.dT (putK (ks.zip vs) k v), (fun j hj => by cases hj), fun _ => ⟨DPut.t h1 (sub _ _ ht) (Nat.lt_of_lt_of_le (by rw [List.length_zip]; exact Nat.lt_of_le_of_lt (Nat.min_le_right _ _) hz) (by decide)), ?_⟩⟩
          have e : addD (.dct ks) (.tuple (k.map keyD)) = .dct (ks ++ [k]) := by
            unfold addD
            simp only [hk]
            rfl
          rw [e]
          refine ⟨by rw [upd_same, put_zip_new h2 q], by simp [h2], List.nodup_append.mpr ⟨h3, by simp, fun a ha c hc z => ?_⟩, fun x hx => ?_⟩
          · rw [List.mem_singleton] at hc
            exact findIx_none q (by rw [← hc, ← z]; exact ha)
          · rcases List.mem_append.mp hx with hx | hx
            · exact h4 x hx
            · rw [List.mem_singleton] at hx; subst hx; exact hok
  · rename_i ks
    cases hk : keyOf d with
    | none => rw [hk] at hp; cases hp
    | some k =>
      rw [hk] at hp
      cases hp
      obtain ⟨rfl, rfl, hok⟩ := keyOf_ok ry hk
      obtain ⟨h1, h2, h3, h4⟩ := h
      refine ⟨⟨_, DGet.k h1, fun i v hi hv => valV_zip hi hv, valV_no⟩, fun v hz => ?_, fun z => z⟩
      cases q : findIx ks k with
      | some i =>
        refine ⟨.dK (putK (ks.zip vs) k v), fun j hj => ?_, fun z => by cases z⟩
        cases hj
        exact ⟨DPut.k h1 (Nat.lt_of_lt_of_le (by rw [List.length_zip]; exact Nat.lt_of_le_of_lt (Nat.min_le_right _ _) hz) (by decide)), ⟨by rw [upd_same, put_zip h3 h2 q], by rw [List.length_set]; exact h2, h3, h4⟩⟩
      | none =>
        refine ⟨.dK (putK (ks.zip vs) k v), (fun j hj => by cases hj), fun _ => ⟨DPut.k h1 (Nat.lt_of_lt_of_le (by rw [List.length_zip]; exact Nat.lt_of_le_of_lt (Nat.min_le_right _ _) hz) (by decide)), ?_⟩⟩
        have e : addD (.dck ks) (keyD k) = .dck (ks ++ [k]) := by
          cases k <;> rfl
        rw [e]
        refine ⟨by rw [upd_same, put_zip_new h2 q], by simp [h2], List.nodup_append.mpr ⟨h3, by simp, fun a ha c hc z => ?_⟩, fun x hx => ?_⟩
        · rw [List.mem_singleton] at hc
          exact findIx_none q (by rw [← hc, ← z]; exact ha)
        · rcases List.mem_append.mp hx with hx | hx
          · exact h4 x hx
          · rw [List.mem_singleton] at hx; subst hx; exact hok
  · cases hp
/-! d[k] -/
def rDGetI : R2 := fun x y H Q => ∃ a v, x = .ref a ∧ DGet H a y (some v) ∧ Q v H
def oDGet : OD := fun x y μ q => match x, y with
  | .at n p b, .dat d => nodK μ n p b fun kd ts => ∃ i, posD kd d = some (some i) ∧ atK (some i) ts fun i c => q (kidEV n p i c) μ
  | .loc n, .dat (.tuple ds) => lcD μ[n]? fun kvs => keysK ds fun k => ∃ v, getD kvs k = some v ∧ q (.dat v) μ
  | .dat (.dict l), .dat (.tuple ds) => ∃ kvs, l = kvT kvs ∧ keysK ds fun k => ∃ v, getD kvs k = some v ∧ q (.dat v) μ
  | _, _ => False
theorem keysK_ex {ds : List PyData} {f : List Key → Prop} (h : keysK ds f) : ∃ k, keysOf ds = some k ∧ f k := by
  unfold keysK at h
  split at h
  · exact ⟨_, by assumption, h⟩
  · exact h.elim
theorem lcD_ex {c : Option Cell} {k : List (List Key × PyData) → Prop} (h : lcD c k) : ∃ kvs, c = some (.dct kvs) ∧ k kvs := by
  unfold lcD at h
  split at h
  · exact ⟨_, rfl, h⟩
  · exact h.elim
theorem os_dget {K : PySem.W.Frag} : OpS K rDGetI oDGet := by
  intro s0 N0 s μ x y ex ey q Q R xt rx fx ry fy h l
  unfold oDGet at h
  split at h
  · obtain ⟨kd, ts, hn, i, hp, h⟩ := nodK_ex h
    obtain ⟨j, c, hj, hc, h⟩ := atK_ex h
    cases hj
    obtain ⟨vs, hH, _, hT⟩ := node_is R hn
    have D := dictN R.sub hH ry hp
    obtain ⟨o, g, g1, _⟩ := D.get
    obtain ⟨w, hw, rw_⟩ := hT.get hc
    rw [g1 i w rfl hw] at g
    exact ⟨_, w, rx, g, l _ μ w s h xt R (vr_kid rw_) (frsh_of noNew_kid)⟩
  · rename_i n ds
    obtain ⟨kvs, hc, h⟩ := lcD_ex h
    obtain ⟨k, hk, v, hv, hq⟩ := keysK_ex h
    obtain ⟨hlt, rfl⟩ := rx
    obtain ⟨hf, ks, hH, ⟨hk1, hk2⟩, hd⟩ := R.cell n _ hc
    have ry' : DR K s.F y (.tuple ds) := ry
    cases ry' with
    | @tup b ws _ hb hs =>
      obtain ⟨rfl, rfl, hok⟩ := keysOf_ok hs hk
      obtain ⟨w, hw, rw_⟩ := get_rel k hk1 hd hv
      refine ⟨s.L n, w, rfl, ?_, ans R xt l hq rw_⟩
      rw [← hw]
      exact DGet.t hH (R.sub _ _ hb)
  · rename_i d0 ds
    obtain ⟨kvs, rfl, h⟩ := h
    obtain ⟨k, hk, v, hv, hq⟩ := keysK_ex h
    have rx' : DR K s.F x (.dict (kvT kvs)) := rx
    have ry' : DR K s.F y (.tuple ds) := ry
    cases ry' with
    | @tup b ws _ hb hs =>
      obtain ⟨rfl, rfl, hok⟩ := keysOf_ok hs hk
      generalize hz : kvT kvs = z at rx'
      cases rx' with
      | @dcT a od ks kvs2 _ hF hk2 hs2 e =>
        have e2 : kvs = kvs2 := kvT_inj (hz.trans e)
        subst e2
        obtain ⟨w, hw, rw_⟩ := get_rel k hk2.1 hs2 hv
        refine ⟨a, w, rfl, .inr ⟨ks, k, b, .inr ⟨od, R.sub _ _ hF⟩, rfl, R.sub _ _ hb, hw.symm⟩, ans R xt l hq rw_⟩
      | @dcK a od ks kvs2 _ hF hk2 hs2 e ne =>
        exfalso
        subst hz
        cases kvs2 with
        | nil => exact ne rfl
        | cons p r =>
          cases kvs with
          | nil => simp [kvT, kvK] at e
          | cons p2 r2 =>
            simp only [kvT, kvK, List.map_cons, List.cons.injEq, Prod.mk.injEq] at e
            have e1 := e.1.1
            cases hk0 : p.1 <;> rw [hk0] at e1 <;> simp [keyD] at e1
  · exact h.elim
theorem de_dget {X : Cx} {W : WX} {a b : Expr} {ta tb : TDE} {pos : Pos} (hu : X.A.units + 64 < cLine) (ha : DE X W a ta) (hb : DE X W b tb) (hs : NoSl b) : DE X W (.Subscript a b pos) (dOp oDGet ta tb) := by
  obtain ⟨t1, p1, g1⟩ := ha.ex
  obtain ⟨t2, p2, g2⟩ := hb.ex
  refine de_pe (pe_dget (by omega) p1 p2 hs) fun s σ η μ Q q E S hq l lx => g1 s σ η μ _ _ E S hq (fun ex μ1 x s1 hk1 x1 R1 r1 f1 => ?_) lx
  refine g2 s1 σ η μ1 _ _ E (S.go x1 R1) hk1 (fun ey μ2 y s2 hk2 x2 R2 r2 f2 => ?_) (lx.go x1 R1)
  have h1 := fun n (hn : n < μ1.length) => R1.here hn
  exact os_dget s _ s2 μ2 x y ex ey q Q R2 (x1.trans x2 h1) (r1.ext x2) f1 r2 (f2.back (K := X.K) x1 h1) hk2 l
section
variable {μ : Mu} {n : Nat} {p : List Nat} {b : Addr} {d : PyData} {ds : List PyData} {q : PQ}
theorem dget_loc : oDGet (.loc n) (.dat (.tuple ds)) μ q = lcD μ[n]? fun kvs => keysK ds fun k => ∃ v, getD kvs k = some v ∧ q (.dat v) μ := Eq.trans rfl rfl
theorem dget_dat {l : List (PyData × PyData)} : oDGet (.dat (.dict l)) (.dat (.tuple ds)) μ q = ∃ kvs, l = kvT kvs ∧ keysK ds fun k => ∃ v, getD kvs k = some v ∧ q (.dat v) μ := Eq.trans rfl rfl
end
/-! x[k] = v, x a part of a tree -/
end DL
set_option Elab.async false
set_option linter.all false
set_option maxRecDepth 100000
set_option maxHeartbeats 4000000
namespace DL
open PySem PySem.Spec PyProof.Rows L2
/-! ### methods of lists and dicts that are parts of trees -/
def isKd (k : Knd → Prop) (μ : Mu) (e : EV) : Prop := match e with
  | .at n p b => nodK μ n p b fun kd _ => k kd
  | _ => False
def isLstA : EV → Mu → Prop := fun e μ => isKd (fun kd => kd = .lst) μ e
def dctKd : Knd → Prop
  | .dck _ => True
  | .dct _ => True
  | _ => False
def isDctA : EV → Mu → Prop := fun e μ => isKd dctKd μ e
theorem isLstA_at {μ : Mu} {n : Nat} {p : List Nat} {b : Addr} : isLstA (.at n p b) μ = nodK μ n p b fun kd _ => kd = .lst := Eq.trans rfl rfl
theorem isDctA_at {μ : Mu} {n : Nat} {p : List Nat} {b : Addr} : isDctA (.at n p b) μ = nodK μ n p b fun kd _ => dctKd kd := Eq.trans rfl rfl
theorem dctKd_k {ks : List Key} : dctKd (.dck ks) = True := Eq.trans rfl rfl
theorem rc_lstA {K : PySem.W.Frag} : RcS K "list" isLstA := by
  intro s μ x ex R r h
  unfold isLstA isKd at h
  split at h
  · obtain ⟨kd, ts, hn, rfl⟩ := nodK_ex h
    obtain ⟨vs, hH, _, _⟩ := node_is R hn
    have er : x = _ := r
    subst er
    exact .inl ⟨rfl, vs, SqL.of hH⟩
  · exact h.elim
theorem rc_dctA {K : PySem.W.Frag} : RcS K "dict" isDctA := by
  intro s μ x ex R r h
  unfold isDctA isKd at h
  split at h
  · obtain ⟨kd, ts, hn, h⟩ := nodK_ex h
    obtain ⟨vs, hH, _, _⟩ := node_is R hn
    have er : x = _ := r
    subst er
    cases kd with
    | dck ks => exact .inr (.inr (.inl ⟨rfl, .inl ⟨_, hH.1⟩⟩))
    | dct ks => exact .inr (.inr (.inl ⟨rfl, .inr ⟨_, hH.1⟩⟩))
    | _ => exact h.elim
  · exact h.elim
section
variable {K : PySem.W.Frag} {s0 s : Wd} {N0 n : Nat} {μ : Mu} {p : List Nat} {b : Addr} {ts : List Tree} {x : V} {es : List EV}
theorem kids_nd {k : Knd} (R : Rep K s μ) (hn : nodeAt μ n p = some (.nod k b ts)) : (addrsL ts).Nodup ∧ ∀ a ∈ addrsL ts, n < μ.length ∧ s.O n a := by
  obtain ⟨t0, ht0, hp0⟩ := nodeAt_ex hn
  have T := R.tree n t0 ht0
  have nd := nodup_get T.nd hp0
  rw [addrs_nod] at nd
  exact ⟨(List.nodup_cons.mp nd).2, fun a ha => ⟨(List.getElem?_eq_some_iff.mp ht0).1, T.own a (addrs_get hp0 a (by rw [addrs_nod]; exact List.mem_cons_of_mem _ ha))⟩⟩
theorem app_nd {k : Knd} {t : Tree} (R : Rep K s μ) (hn : nodeAt μ n p = some (.nod k b ts)) (ndt : (addrs t).Nodup) (frt : ∀ a ∈ addrs t, NL s μ.length a ∧ s0.H a = none) : (addrsL (ts ++ [t])).Nodup ∧ ∀ a ∈ addrsL (ts ++ [t]), a ∈ addrsL ts ∨ (NL s μ.length a ∧ s0.H a = none) := by
  obtain ⟨nts, own⟩ := kids_nd R hn
  rw [addrsL_app, addrsL_cons, addrsL_nil, List.append_nil]
  exact ⟨List.nodup_append.mpr ⟨nts, ndt, fun a ha c hc e => (frt c hc).1 n (own a ha).1 (e ▸ (own a ha).2)⟩, fun a ha => (List.mem_append.mp ha).imp id fun z => frt a z⟩
end
/-- xs.append(v) -/
def oAppA : MD := fun x es μ q => match x, es with
  | .at n p b, [e] => nodK μ n p b fun kd ts => kd = .lst ∧ ts.length < 100000 ∧ treeK (fun t => q (.dat .none) (putAt μ n p (.nod .lst b (ts ++ [t])))) e
  | _, _ => False
theorem appA_at {μ : Mu} {n : Nat} {p : List Nat} {b : Addr} {e : EV} {q : PQ} : oAppA (.at n p b) [e] μ q = nodK μ n p b fun kd ts => kd = .lst ∧ ts.length < 100000 ∧ treeK (fun t => q (.dat .none) (putAt μ n p (.nod .lst b (ts ++ [t])))) e := Eq.trans rfl rfl
theorem ms_appA {K : PySem.W.Frag} : MtS K rAppend oAppA := by
  intro s0 N0 s μ x xs ex es q Q R xt rx fx r h l
  unfold oAppA at h
  split at h
  · obtain ⟨kd, ts, hn, rfl, hz, h⟩ := nodK_ex h
    cases r with
    | cons ry fy rr =>
      cases rr
      obtain ⟨t, hq, rt, ndt, frt, _⟩ := tree_of ry fy h
      obtain ⟨vs, hH, _, hT⟩ := node_is R hn
      obtain ⟨nd, fr⟩ := app_nd R hn ndt frt
      obtain ⟨O', R3, x3⟩ := node_mut (k' := .lst) (o := .lst (vs ++ [_])) R xt hn (fun z => z) upd_same (hT.append (.cons rt .nil)) nd fr
      exact ⟨_, vs, _, rx, rfl, hH, line_lt (by rw [hT.length]; exact hz), l (.dat .none) _ .non _ hq x3 R3 .non trivial⟩
  · exact h.elim
theorem kV_inj1 {a b : Key} (h : kV a = kV b) : a = b := by
  cases a <;> cases b <;> simp [kV] at h <;> rw [h]
theorem kV_inj : ∀ {a b : List Key}, a.map kV = b.map kV → a = b
  | [], [], _ => rfl
  | [], _ :: _, h => by simp at h
  | _ :: _, [], h => by simp at h
  | x :: a, y :: b, h => by
    rw [List.map_cons, List.map_cons, List.cons.injEq] at h
    rw [kV_inj1 h.1, kV_inj h.2]
/-! ### d.setdefault(k, v) -/
def rSetd : V → List V → Hp → VK → Prop := fun x xs H Q => ∃ (a : Addr) (y z : V), x = .ref a ∧ xs = [y, z] ∧
  ((∃ (kvs : List (Key × V)) (k : Key), H a = some (.dK kvs) ∧ y = kV k ∧ kvs.length < sizeLine ∧ (∀ v, valV kvs k = some v → Q v H) ∧ (valV kvs k = none → Q z (upd H a (.dK (putK kvs k z))))) ∨
   (∃ (kvs : List (List Key × V)) (k : List Key) (b : Addr), H a = some (.dT kvs) ∧ y = .ref b ∧ H b = some (.tup (k.map kV)) ∧ kvs.length < sizeLine ∧ (∀ v, valV kvs k = some v → Q v H) ∧ (valV kvs k = none → Q z (upd H a (.dT (putK kvs k z))))))
theorem mt_setd {X : Cx} (hu : X.A.units + 64 < cLine) : MtR X "dict.setdefault" rSetd := by
  intro pins s σ H x xs v us Q I rx rxs h
  obtain ⟨a, y, z, rfl, rfl, h⟩ := h
  cases rx
  obtain ⟨u1, u2, rfl, r1, r2⟩ := vals2 rxs
  rcases h with ⟨kvs, k, ha, rfl, hl, h1, h2⟩ | ⟨kvs, k, b, ha, rfl, hb, hl, h1, h2⟩
  · exact d_setd I ha r1 r2 hl (fun v hv w' s4 I4 rw' => ⟨v, _, I4, rw', h1 v hv⟩) fun hn w' s4 I4 rw' => ⟨z, _, I4, rw', h2 hn⟩
  · cases (show u1 = Value.ref b from r1)
    obtain ⟨hz0, hd, ys, rel, dd⟩ := dt_of I.hok ha
    have hz : ys.length ≤ sizeLine := by rw [← Paired.length rel]; exact hz0
    refine call_setdefault_heap (knd := tupleKind (mixKind X.prog X.w)) (k := k) (tupleKind_room_in1 (by omega)) (key_of I.hok hb) hd dd (fun p hp => ?_) (fun hno h' dd' hs => ?_) hz
    · have q := rel.val k
      cases q0 : valV kvs k with
      | none =>
        rw [q0, hp] at q
        exact (show False from q).elim
      | some v0 =>
        rw [q0, hp] at q
        exact ⟨v0, _, I.tok _, q, h1 v0 q0⟩
    · have hno' : valV kvs k = none := by
        have q := rel.val k
        rw [hno] at q
        cases q0 : valV kvs k with
        | none => rfl
        | some v0 => rw [q0] at q; exact (show False from q).elim
      have hl2 : (putK kvs k z).length ≤ sizeLine := by have := length_putK kvs k z; omega
      obtain ⟨o, es, ep, hq, e2, e3, e4, _, e5⟩ := dd'
      have I2 : Inv X pins σ (upd H a (.dT (putK kvs k z))) { s with heap := h', toks := s.toks + (tupleKind (mixKind X.prog X.w)).draws k } :=
        d_write I (by rw [ha]; exact True.intro) hs ⟨o, hq⟩ ⟨hl2, hd, _, (rel.put k hb r2).keeps (fun c ws ec => (by rw [upd_ne (ne_of ec ha (fun z => nomatch z))]; exact ec)), o, es, ep, hq, e2, e3, e4, e5⟩
      exact ⟨z, _, I2, r2, h2 hno'⟩
theorem posD_ex {kd : Knd} {d : PyData} {r : Option Nat} (h : posD kd d = some r) : (∃ ks ds k, kd = .dct ks ∧ d = .tuple ds ∧ keysOf ds = some k ∧ r = findIx ks k) ∨ (∃ ks k, kd = .dck ks ∧ keyOf d = some k ∧ r = findIx ks k) := by
  unfold posD at h
  split at h
  · rename_i ks ds
    cases hk : keysOf ds with
    | none => rw [hk] at h; cases h
    | some k => rw [hk] at h; exact .inl ⟨_, _, k, rfl, rfl, hk, (Option.some.inj h).symm⟩
  · split at h
    · rename_i hk
      exact .inr ⟨_, _, rfl, hk, (Option.some.inj h).symm⟩
    · cases h
  · cases h
def setdK (μ : Mu) (n : Nat) (p : List Nat) (b : Addr) (kd : Knd) (ts : List Tree) (d : PyData) (e : EV) (q : PQ) : Prop := match posD kd d with
  | some (some i) => atK (some i) ts fun i c => q (kidEV n p i c) μ
  | some none => treeK (fun t => q (kidEV n p ts.length t) (putAt μ n p (.nod (addD kd d) b (ts ++ [t])))) e
  | none => False
def oSetd : MD := fun x es μ q => match x, es with
  | .at n p b, [.dat d, e] => nodK μ n p b fun kd ts => ts.length < 100000 ∧ setdK μ n p b kd ts d e q
  | _, _ => False
theorem setd_at {μ : Mu} {n : Nat} {p : List Nat} {b : Addr} {d : PyData} {e : EV} {q : PQ} : oSetd (.at n p b) [.dat d, e] μ q = nodK μ n p b fun kd ts => ts.length < 100000 ∧ setdK μ n p b kd ts d e q := Eq.trans rfl rfl
theorem ms_setd {K : PySem.W.Frag} : MtS K rSetd oSetd := by
  intro s0 N0 s μ x xs ex es q Q R xt rx fx r h l
  unfold oSetd at h
  split at h
  · rename_i n p b d e
    obtain ⟨kd, ts, hn, hz, h⟩ := nodK_ex h
    cases r with
    | cons ry fy rr =>
      cases rr with
      | cons re fe rr =>
        cases rr
        rename_i y z
        obtain ⟨vs, hH, _, hT⟩ := node_is R hn
        have ry' : DR K s.F y d := ry
        have hlen := hT.length
        unfold setdK at h
        split at h
        · rename_i i hi
          obtain ⟨j, c, hj, hc, hq⟩ := atK_ex h
          cases hj
          obtain ⟨w, hw, rw_⟩ := hT.get hc
          have fin : Q w s.H := l _ μ w s hq xt R (vr_kid rw_) (frsh_of noNew_kid)
          refine ⟨b, y, z, rx, rfl, ?_⟩
          rcases posD_ex hi with ⟨ks, ds, k, rfl, rfl, hk, hi'⟩ | ⟨ks, k, rfl, hk, hi'⟩
          · have hi' := hi'.symm
            · cases ry' with
              | @tup t ws _ ht hs =>
                obtain ⟨rfl, rfl, hok⟩ := keysOf_ok hs hk
                refine .inr ⟨ks.zip vs, k, t, hH.1, rfl, R.sub _ _ ht, Nat.lt_of_lt_of_le (by rw [List.length_zip]; exact Nat.lt_of_le_of_lt (Nat.min_le_right _ _) (hlen ▸ hz)) (by decide), fun v hv => ?_, fun hv => ?_⟩
                · rw [valV_zip hi' hw] at hv; cases hv; exact fin
                · rw [valV_zip hi' hw] at hv; cases hv
          · have hi' := hi'.symm
            · obtain ⟨rfl, rfl, hok⟩ := keyOf_ok ry' hk
              refine .inl ⟨ks.zip vs, k, hH.1, rfl, Nat.lt_of_lt_of_le (by rw [List.length_zip]; exact Nat.lt_of_le_of_lt (Nat.min_le_right _ _) (hlen ▸ hz)) (by decide), fun v hv => ?_, fun hv => ?_⟩
              · rw [valV_zip hi' hw] at hv; cases hv; exact fin
              · rw [valV_zip hi' hw] at hv; cases hv
        · rename_i hi
          obtain ⟨t, hq, rt, ndt, frt, _⟩ := tree_of re fe h
          obtain ⟨nd, fr⟩ := app_nd R hn ndt frt
          have D := dictN R.sub hH ry' hi
          obtain ⟨o, _, o2⟩ := D.put z (by rw [hlen]; exact hz)
          obtain ⟨d1, d2⟩ := o2 rfl
          obtain ⟨O', R3, x3⟩ := node_mut R xt hn D.kd d2 (hT.append (.cons rt .nil)) nd fr
          have fin : Q z (upd s.H b o) := l _ _ z _ hq x3 R3 (vr_kid (rt.keeps (fun _ _ w => w) fun a ha => keeps_put fun e => ?_)) (frsh_of noNew_kid)
          · refine ⟨b, y, z, rx, rfl, ?_⟩
            rcases posD_ex hi with ⟨ks, ds, k, rfl, rfl, hk, hi'⟩ | ⟨ks, k, rfl, hk, hi'⟩
            · have hi' := hi'.symm
              · cases ry' with
                | @tup t ws _ ht hs =>
                  obtain ⟨rfl, rfl, hok⟩ := keysOf_ok hs hk
                  refine .inr ⟨ks.zip vs, k, t, hH.1, rfl, R.sub _ _ ht, Nat.lt_of_lt_of_le (by rw [List.length_zip]; exact Nat.lt_of_le_of_lt (Nat.min_le_right _ _) (hlen ▸ hz)) (by decide), fun v hv => ?_, fun hv => ?_⟩
                  · rw [valV_no hi'] at hv; cases hv
                  · rcases d1 with ⟨kvs, k', g1, g2, g3, g4⟩ | ⟨kvs, k', b', g1, g2, g3, g4, g5⟩
                    · rw [hH.1] at g1; cases g1
                    · rw [hH.1] at g1
                      cases g1
                      cases g2
                      have e3 := (R.sub _ _ ht).symm.trans g3
                      have e4 : k = k' := kV_inj (by
                        have := Option.some.inj e3
                        injection this)
                      subst e4
                      rw [← g5]
                      exact fin
            · have hi' := hi'.symm
              · obtain ⟨rfl, rfl, hok⟩ := keyOf_ok ry' hk
                refine .inl ⟨ks.zip vs, k, hH.1, rfl, Nat.lt_of_lt_of_le (by rw [List.length_zip]; exact Nat.lt_of_le_of_lt (Nat.min_le_right _ _) (hlen ▸ hz)) (by decide), fun v hv => ?_, fun hv => ?_⟩
                · rw [valV_no hi'] at hv; cases hv
                · rcases d1 with ⟨kvs, k', g1, g2, g3, g4⟩ | ⟨kvs, k', b', g1, g2, g3, g4, g5⟩
                  · rw [hH.1] at g1
                    cases g1
                    have e4 : k = k' := kV_inj1 g2
                    subst e4
                    rw [← g4]
                    exact fin
                  · rw [hH.1] at g1; cases g1
          · obtain ⟨t0, ht0, hp0⟩ := nodeAt_ex hn
            exact (frt a ha).1 n (List.getElem?_eq_some_iff.mp ht0).1 (e ▸ (R.tree n t0 ht0).own b (addrs_get hp0 b (by rw [addrs_nod]; exact List.mem_cons_self)))
        · exact h.elim
  · exact h.elim
end DL
set_option Elab.async false
set_option linter.all false
set_option maxRecDepth 100000
set_option maxHeartbeats 4000000
namespace DL
open PySem PySem.Spec PyProof.Rows L2
/-! ### items of lists that are parts of trees -/
/-! a new value becomes a cell of its own -/
def rootK (t : Tree) (k : Addr → Prop) : Prop := match t with
  | .nod _ b _ => k b
  | _ => False
def ownK (q : PQ) : PQ := fun e μ => match noNew e with
  | true => q e μ
  | false => treeK (fun t => rootK t fun b => q (.at μ.length [] b) (μ ++ [.own t])) e
theorem ownK_newo {q : PQ} {kd : Knd} {b : Addr} {ts : List Tree} {μ : Mu} : ownK q (.newo (.nod kd b ts)) μ = q (.at μ.length [] b) (μ ++ [.own (.nod kd b ts)]) := Eq.trans rfl rfl
def dOwn (t : TDE) : TDE := fun η μ q E => t η μ (ownK q) E
theorem x_dOwn {t : TDE} {η : DEnv} {μ : Mu} {q : PQ} {E : XQ} : dOwn t η μ q E = t η μ (ownK q) E := Eq.trans rfl rfl
theorem de_own {X : Cx} {W : WX} {e : Expr} {te : TDE} (h : DE X W e te) : DE X W e (dOwn te) := by
  obtain ⟨t, hp, g⟩ := h.ex
  refine de_pe hp fun s σ η μ Q q E S hq l lx => g s σ η μ Q _ E S hq (fun ev μ1 v s1 hk x R r f => ?_) lx
  unfold ownK at hk
  split at hk
  · rename_i hn
    exact l _ _ v s1 hk x R r f
  · obtain ⟨t, hk, rt, ndt, frt, _⟩ := tree_of r f hk
    cases t with
    | dat _ => exact hk.elim
    | per _ => exact hk.elim
    | nod kd b ts =>
      obtain ⟨rfl, _⟩ := rt.node
      obtain ⟨R2, x2⟩ := cell_newO R x (by rw [addrs_nod]; exact List.mem_cons_self) rt ndt (fun a ha => (frt a ha).1) fun a ha => (frt a ha).2
      exact l (.at μ1.length [] b) _ _ (newL s1 μ1.length b (· ∈ addrs (.nod kd b ts))) hk x2 R2 rfl trivial
/-! [a, b], both new, changed later -/
end DL
set_option Elab.async false
set_option linter.all false
set_option maxRecDepth 100000
set_option maxHeartbeats 4000000
namespace DL
open PySem PySem.Spec PyProof.Rows L2
/-! ### trees by equations -/
section
variable {μ ν : Mu} {n : Nat} {p : List Nat} {b b' : Addr} {k : Knd → List Tree → Prop} {kd : Knd} {ts : List Tree} {t u c : Tree} {i : Nat} {q : PQ}
theorem get_nil : Tree.get [] t = some t := by unfold Tree.get; rfl
def nodC (c : Option Cell) (p : List Nat) (b : Addr) (k : Knd → List Tree → Prop) : Prop := match c with
  | some (.own t) => match Tree.get p t with
    | some (.nod kd b' ts) => b' = b ∧ k kd ts
    | _ => False
  | _ => False
theorem c_nodK : nodK μ n p b k = nodC μ[n]? p b k := by
  unfold nodK nodeAt nodC
  cases μ[n]? with
  | none => rfl
  | some c => cases c <;> first | rfl | (cases Tree.get p _ <;> rfl)
def treC (t : Option Tree) (b : Addr) (k : Knd → List Tree → Prop) : Prop := match t with
  | some (.nod kd b' ts) => b' = b ∧ k kd ts
  | _ => False
theorem nodC_own : nodC (some (.own t)) p b k = treC (Tree.get p t) b k := Eq.trans rfl rfl
theorem treC_n : treC (some (.nod kd b ts)) b k = k kd ts := propext ⟨fun h => h.2, fun h => ⟨rfl, h⟩⟩
theorem put_nil : Tree.put u [] t = u := by unfold Tree.put; rfl
def putC (u : Tree) (kd : Knd) (b : Addr) (ts : List Tree) (i : Nat) (p : List Nat) (c : Option Tree) : Tree := match c with
  | some c => .nod kd b (ts.set i (Tree.put u p c))
  | none => .nod kd b ts
theorem put_cons : Tree.put u (i :: p) (.nod kd b ts) = putC u kd b ts i p ts[i]? := by
  unfold Tree.put putC
  rfl
theorem putC_some : putC u kd b ts i p (some c) = .nod kd b (ts.set i (Tree.put u p c)) := Eq.trans rfl rfl
def putM (μ : Mu) (n : Nat) (p : List Nat) (u : Tree) (c : Option Cell) : Mu := match c with
  | some (.own t) => μ.set n (.own (Tree.put u p t))
  | _ => μ
theorem c_putAt : putAt μ n p u = putM μ n p u μ[n]? := by
  unfold putAt putM
  rfl
theorem putM_own : putM μ n p u (some (.own t)) = μ.set n (.own (Tree.put u p t)) := Eq.trans rfl rfl
def atC (i : Nat) (c : Option Tree) (k : Nat → Tree → Prop) : Prop := match c with
  | some c => k i c
  | none => False
end
end DL
set_option Elab.async false
set_option linter.all false
set_option maxRecDepth 100000
set_option maxHeartbeats 4000000
namespace DL
open PySem PySem.Spec PyProof.Rows L2
/-! ### a dict's cell is still from here on -/
section
variable {K : PySem.W.Frag} {s0 s : Wd} {N0 n : Nat} {μ : Mu} {o : HO}
theorem still_dead (R : Rep K s μ) (x : Ext s0 N0 s μ.length) (hn : μ[n]? = some .dead) (hf : s.F (s.L n) = none) (hp : s.H (s.L n) = some o) :
    Rep K { s with F := upd s.F (s.L n) o } μ ∧ Ext s0 N0 { s with F := upd s.F (s.L n) o } μ.length ∧ Same s.F (upd s.F (s.L n) o) := by
  have hlt := (List.getElem?_eq_some_iff.mp hn).1
  have e : Same s.F (upd s.F (s.L n) o) := fun y u q => by rw [upd_ne (ne_of_none q hf)]; exact q
  refine ⟨⟨fun a u q => ?_, fun m c q => ?_, R.dis, R.root, R.live, fun m t q => ?_⟩, ⟨fun a u q => e a u (x.f a u q), x.l, x.le, x.keep, fun a h1 h2 h3 h4 => ?_, x.lnew, x.onew, x.alive⟩, e⟩
  · by_cases ha : a = s.L n
    · subst ha
      have q' : upd s.F (s.L n) o (s.L n) = some u := q
      rw [upd_same] at q'
      cases q'
      exact hp
    · have q' : upd s.F (s.L n) o a = some u := q
      rw [upd_ne ha] at q'
      exact R.sub a u q'
  · by_cases hm : n = m
    · subst hm
      rw [hn] at q
      cases q
      show s.H (s.L n) ≠ none
      rw [hp]
      simp
    · exact cell_still (R.cell m c q) (fun z => hm (R.inj m n (List.getElem?_eq_some_iff.mp q).1 hlt z).symm) hf
  · by_cases hm : n = m
    · subst hm
      rw [hn] at q
      cases q
    · exact (R.tree m t q).keeps e rfl (fun _ z => z) fun a ha => keeps_F (.inl fun z => hm (R.dis n m a hlt (List.getElem?_eq_some_iff.mp q).1 (by rw [z]; exact R.root n hlt) ha))
  · by_cases ha : a = s.L n
    · exfalso
      rcases x.onew n a hlt (by rw [ha]; exact R.root n hlt) with h5 | ⟨h5, h6⟩
      · exact h3 h5
      · exact h2 n h5 h6
    · show upd s.F (s.L n) o a = none
      rw [upd_ne ha]
      exact x.fnew a h1 h2 h3 h4
theorem lock_dead {c : Cell} (R : Rep K s μ) (x : Ext s0 N0 s μ.length) (hn : μ[n]? = some c) (hf : s.F (s.L n) = none) :
    Rep K { s with H := upd s.H (s.L n) o, F := upd s.F (s.L n) o } (μ.set n .dead) ∧ Ext s0 N0 { s with H := upd s.H (s.L n) o, F := upd s.F (s.L n) o } (μ.set n .dead).length ∧ Same s.F (upd s.F (s.L n) o) := by
  have hlt := (List.getElem?_eq_some_iff.mp hn).1
  obtain ⟨R1, x1⟩ := mut_g (c' := .dead) (o := o) R x hlt hf (by show upd s.H (s.L n) o (s.L n) ≠ none; rw [upd_same]; simp) (fun t z => nomatch z)
  exact still_dead (s := { s with H := upd s.H (s.L n) o }) R1 x1 (List.getElem?_set_self hlt) hf upd_same
end
def fzdK (q : PQ) : PQ := fun e μ1 => match e with
  | .loc n => match μ1[n]? with
    | some (.dct kvs) => q (.dat (.dict (kvT kvs))) (μ1.set n .dead)
    | some (.dck kvs) => kvs ≠ [] ∧ q (.dat (.dict (kvK kvs))) (μ1.set n .dead)
    | _ => q e μ1
  | e => q e μ1
def dFzd (t : TDE) : TDE := fun η μ q E => t η μ (fzdK q) E
theorem sem_fzd {K : PySem.W.Frag} {t : TE} {td : TDE} (g : SemE K W t td) : SemE K W (tLk t) (dFzd td) := fun s σ η μ Q q E S hq l lx => g s σ η μ _ _ E S hq (fun e μ' v s' hk x R r f => by
  cases e with
  | loc n =>
    obtain ⟨hn, rfl⟩ := r
    simp only [fzdK] at hk
    cases hc : μ'[n]? with
    | none => rw [hc] at hk; exact .inl (l _ _ _ _ hk x R ⟨hn, rfl⟩ f)
    | some c =>
      rw [hc] at hk
      cases c with
      | dct kvs =>
        obtain ⟨hf, ks, h1, h4, h5⟩ := R.cell n _ hc
        refine .inr ⟨s'.L n, _, h1, trivial, fun od => ?_⟩
        obtain ⟨a1, a2, a3⟩ := lock_dead (o := .frz od (.dT ks)) R x hc hf
        exact l _ _ _ _ hk a2 a1 (.dcT upd_same h4 (h5.mono a3) rfl) trivial
      | dck kvs =>
        obtain ⟨hf, ks, h1, h4, h5⟩ := R.cell n _ hc
        refine .inr ⟨s'.L n, _, h1, trivial, fun od => ?_⟩
        obtain ⟨a1, a2, a3⟩ := lock_dead (o := .frz od (.dK ks)) R x hc hf
        exact l _ _ _ _ hk.2 a2 a1 (.dcK upd_same h4 (h5.mono a3) rfl hk.1) trivial
      | lst xs => exact .inl (l _ _ _ _ hk x R ⟨hn, rfl⟩ f)
      | frz xs => exact .inl (l _ _ _ _ hk x R ⟨hn, rfl⟩ f)
      | abs P => exact .inl (l _ _ _ _ hk x R ⟨hn, rfl⟩ f)
      | tab P nm => exact .inl (l _ _ _ _ hk x R ⟨hn, rfl⟩ f)
      | own t => exact .inl (l _ _ _ _ hk x R ⟨hn, rfl⟩ f)
      | dead => exact .inl (l _ _ _ _ hk x R ⟨hn, rfl⟩ f)
  | new xs => exact .inl (l _ _ _ _ hk x R r f)
  | newd kvs => exact .inl (l _ _ _ _ hk x R r f)
  | newk kvs => exact .inl (l _ _ _ _ hk x R r f)
  | dat d => exact .inl (l _ _ _ _ hk x R r f)
  | raw d => exact .inl (l _ _ _ _ hk x R r f)
  | exc d => exact .inl (l _ _ _ _ hk x R r f)
  | «at» _ _ _ => exact .inl (l _ _ _ _ hk x R r f)
  | newo _ => exact .inl (l _ _ _ _ hk x R r f)
  | per _ => exact .inl (l _ _ _ _ hk x R r f)
  | ro d => exact .inl (l _ _ _ _ hk x R r f)) lx
theorem de_fzd {X : Cx} {W : WX} {e : Expr} {te : TDE} (h : DE X W e te) : DE X W e (dFzd te) := by
  obtain ⟨t, hp, g⟩ := h.ex
  exact de_pe (pe_lk hp) (sem_fzd g)
section
variable {μ : Mu} {n : Nat} {q : PQ}
theorem x_dFzd {t : TDE} {η : DEnv} {E : XQ} : dFzd t η μ q E = t η μ (fzdK q) E := Eq.trans rfl rfl
def fzdC (q : PQ) (n : Nat) (μ : Mu) (c : Option Cell) : Prop := match c with
  | some (.dct kvs) => q (.dat (.dict (kvT kvs))) (μ.set n .dead)
  | some (.dck kvs) => kvs ≠ [] ∧ q (.dat (.dict (kvK kvs))) (μ.set n .dead)
  | _ => q (.loc n) μ
theorem c_fzd : fzdK q (.loc n) μ = fzdC q n μ μ[n]? := by
  simp only [fzdK, fzdC]
theorem fzdC_d {kvs : List (List Key × PyData)} : fzdC q n μ (some (.dct kvs)) = q (.dat (.dict (kvT kvs))) (μ.set n .dead) := Eq.trans rfl rfl
end
end DL
set_option Elab.async false
set_option linter.all false
set_option maxRecDepth 100000
set_option maxHeartbeats 4000000
namespace DL
open PySem PySem.Spec PyProof.Rows L2
/-- items that are only known to be right -/
theorem lc_rel {α : Type} {en : α → PyData} (R : α → Prop) {lo : Int} {n : Nat} {G : Mu → Prop} {g : TDG} {te : TDE} {vs : List Nat} {η : DEnv} {q : PQ} {μ1 : Mu} (hz : n ≤ 100000) (hG : G μ1)
    (hs : ∀ (a : Nat) (K : PyData → Mu → Prop), a < n → (∀ y, R y → K (en y) μ1) → g (.dat (.int (lo + (a : Nat)))) (wipeD η vs) μ1 fun η2 μ2 => te η2 μ2 (fun ev μ4 => withDat μ4 ev fun d μ5 => K d (μ5.take μ1.length)) EF)
    (hq : ∀ ys : List α, ys.length = n → (∀ y ∈ ys, R y) → q (.new (ys.map en)) μ1) : LcG g tYesD te vs η q (rngItems lo n) G μ1 := by
  refine lc_inv (as := List.range n) (h := fun k : Nat => EV.dat (.int (lo + (k : Nat)))) (fun i acc μ => μ = μ1 ∧ ∃ ys : List α, acc = ys.map en ∧ ys.length = i ∧ ∀ y ∈ ys, R y) (by rw [List.length_range]; exact hz) ⟨rfl, [], rfl, rfl, by simp⟩ ?_ ?_ ?_
  · rintro i acc μ ⟨rfl, ys, rfl, rfl, _⟩
    exact ⟨hG, by rw [List.length_map]; exact Nat.le_refl _⟩
  · rintro i a acc μ ha ⟨rfl, ys, rfl, hl, hR⟩
    have han : a < n := List.mem_range.mp (List.mem_of_getElem? ha)
    exact hs a (fun d μ5 => μ5 = μ ∧ ∃ zs : List α, ys.map en ++ [d] = zs.map en ∧ zs.length = i + 1 ∧ ∀ y ∈ zs, R y) han fun y hy => ⟨rfl, ys ++ [y], by simp, by simp [hl], fun z hz => (List.mem_append.mp hz).elim (hR z) fun e => by rw [List.mem_singleton.mp e]; exact hy⟩
  · rintro acc μ ⟨rfl, ys, rfl, hl, hR⟩
    exact hq ys (by rw [hl, List.length_range]) hR
/-! ### a, b = a list -/
def gLs (n : Nat) (t : TDGs) : TDG := fun e η μ q => match e with
  | .dat (.list ds) => ds.length = n ∧ t ds η μ q
  | _ => False
theorem dg_lst {X : Cx} {pos : Pos} {es : List Expr} {k : Nat} {is : List Nat} {t : TDGs} {n : Nat} (hc : X.calm = true) (h : DGs X es is t) (hn : (assignEach es X.env).length = n := by rfl) (hst : (assignEach es X.env).findIdx? (·.1) = none := by rfl) : DG X (.Tuple es k pos) is (gLs n t) := by
  obtain ⟨t1, p1, g1⟩ := h.ex
  refine ⟨_, pg_lst hc p1 hn hst, fun s σ η μ v e Q q S r hq l => ?_⟩
  unfold gLs at hq
  split at hq
  · rename_i ds
    have r' : DR X.K s.F v (.list ds) := r
    cases r' with
    | lst h hs => exact ⟨_, _, rfl, SqL.of (S.rep.sub _ _ h), by rw [hs.length]; exact hq.1, g1 s σ η μ _ _ Q q S hs hq.2 l⟩
  · exact hq.elim
theorem x_gLs {n : Nat} {t : TDGs} {ds : List PyData} {η : DEnv} {μ : Mu} {q : DEnv → Mu → Prop} : gLs n t (.dat (.list ds)) η μ q = (ds.length = n ∧ t ds η μ q) := Eq.trans rfl rfl
end DL
set_option Elab.async false
set_option linter.all false
set_option maxRecDepth 100000
set_option maxHeartbeats 4000000
namespace DL
open PySem PySem.Spec PyProof.Rows L2
/-! ### divmod -/
end DL
set_option Elab.async false
set_option linter.all false
set_option maxRecDepth 100000
set_option maxHeartbeats 4000000
namespace DL
open PySem PySem.Spec PyProof.Rows L2 NdefX LamX
/-! ### captured cells: known, or left alone -/
/-- a cell's object and what it holds -/
def CelO (o : Obj) (v : V) : HO := .frz o (.ext fun _ => ∃ u, RelV v u ∧ o.data = .cell (some u))
abbrev CMap := Addr → Option HO
def dropC (H : Hp) (C : CMap) : Hp := fun a => match C a with
  | some _ => none
  | none => H a
def layC (H : Hp) (C : CMap) : Hp := fun a => match C a with
  | some o => some o
  | none => H a
theorem dropC_s {H : Hp} {C : CMap} {a : Addr} {u : HO} (h : C a = some u) : dropC H C a = none := by unfold dropC; rw [h]
theorem dropC_n {H : Hp} {C : CMap} {a : Addr} (h : C a = none) : dropC H C a = H a := by unfold dropC; rw [h]
theorem layC_s {H : Hp} {C : CMap} {a : Addr} {u : HO} (h : C a = some u) : layC H C a = some u := by unfold layC; rw [h]
theorem layC_n {H : Hp} {C : CMap} {a : Addr} (h : C a = none) : layC H C a = H a := by unfold layC; rw [h]
/-- all of C are cells of the heap h -/
def Cels (C : CMap) (h : Heap) : Prop := ∀ a u, C a = some u → ∃ o v, u = CelO o v ∧ h.get? a = some o ∧ ∃ x, RelV v x ∧ o.data = .cell (some x)
/-- .. as far as can be told -/
def CelM (C : CMap) : Prop := ∀ a u, C a = some u → ∃ o v, u = CelO o v
theorem Cels.m {C : CMap} {h : Heap} (c : Cels C h) : CelM C := fun a u e => let ⟨o, v, e1, _⟩ := c a u e; ⟨o, v, e1⟩
theorem cel_ok {P : Program} {w : World} {H : Hp} {h : Heap} {a : Addr} {o : Obj} {v : V} {x : Value} (e : h.get? a = some o) (r : RelV v x) (d : o.data = .cell (some x)) : ObjOk P w H h a (CelO o v) :=
  ⟨e, ⟨x, r, d⟩, ⟨o, e⟩, fun _ _ z _ => z⟩
theorem cel_at {P : Program} {w : World} {H : Hp} {h : Heap} {a : Addr} {o : Obj} {v : V} (k : ObjOk P w H h a (CelO o v)) : h.get? a = some o ∧ ∃ x, RelV v x ∧ o.data = .cell (some x) := ⟨k.1, k.2.1⟩
section
variable {P : Program} {w : World} {H H' : Hp} {h : Heap} {C : CMap}
theorem hok_drop (hok : HOk P w H h) (hm : CelM C) (hc : ∀ a u, C a = some u → H a = some u) : HOk P w (dropC H C) h := fun a o e => by
  cases q : C a with
  | some u => rw [dropC_s q] at e; cases e
  | none =>
    rw [dropC_n q] at e
    refine (hok a o e).stay (fun _ _ _ z => z) (fun b hb => ?_) fun b xs hb => ?_
    · cases qb : C b with
      | none => rw [dropC_n qb]; exact hb
      | some u =>
        obtain ⟨ob, v, rfl⟩ := hm b u qb
        rw [hc b _ qb] at hb
        cases hb
    · cases qb : C b with
      | none => rw [dropC_n qb]; exact hb
      | some u =>
        obtain ⟨ob, v, rfl⟩ := hm b u qb
        rw [hc b _ qb] at hb
        cases hb
theorem hok_lay (hok : HOk P w H h) (cs : Cels C h) (hn : ∀ a u, C a = some u → H a = none) : HOk P w (layC H C) h := fun a o e => by
  cases q : C a with
  | some u =>
    rw [layC_s q] at e
    cases e
    obtain ⟨ob, v, rfl, h1, x, h2, h3⟩ := cs a _ q
    exact cel_ok h1 h2 h3
  | none =>
    rw [layC_n q] at e
    have kp : ∀ b u, H b = some u → layC H C b = some u := fun b u hb => by
      cases qb : C b with
      | none => rw [layC_n qb]; exact hb
      | some z => rw [hn b z qb] at hb; cases hb
    exact (hok a o e).stay (fun _ _ _ z => z) (fun b hb => kp b _ hb) fun b xs hb => kp b _ hb
end
section
variable {P : Program} {w : World} {H : Hp} {s s' : Shared} {C : CMap} {outer : List Env} {Q Q' : VK} {u : Value}
/-- run without the cells, told with them -/
theorem ce_up (hm : CelM C) (hc : ∀ a u, C a = some u → H a = some u) (hok : HOk P w H s.heap) (hf : ∀ b ∈ frs outer, H b = none) (ce : CE outer P w (dropC H C) s Q u s') (q : ∀ v H', Q v H' → (∀ a u, C a = some u → H' a = none) → Q' v (layC H' C)) : CE outer P w H s Q' u s' := by
  obtain ⟨v, H', os, bare, un, hok', rv, hq⟩ := ce
  have get : ∀ a z, C a = some z → ∃ o x, z = CelO o x ∧ s.heap.get? a = some o ∧ (∃ y, RelV x y ∧ o.data = .cell (some y)) ∧ H' a = none ∧ s'.heap.get? a = some o := fun a z e => by
    obtain ⟨o, x, rfl⟩ := hm a z e
    obtain ⟨h1, h2⟩ := cel_at (hok a _ (hc a _ e))
    refine ⟨o, x, rfl, h1, h2, un.free a o h1 (dropC_s e) (by simp), un.keep a o h1 (dropC_s e) (fun hb => ?_) (by simp)⟩
    have := hf a hb
    rw [hc a _ e] at this
    cases this
  have nC : ∀ {b : Addr}, H b = none → C b = none := fun {b} hb => by
    cases q : C b with
    | none => rfl
    | some z => rw [hc b z q] at hb; cases hb
  have nT : ∀ {b : Addr} {o : HO}, H b = some o → (∀ ob x, o ≠ CelO ob x) → C b = none := fun {b o} hb ho => by
    cases q : C b with
    | none => rfl
    | some z =>
      obtain ⟨ob, x, rfl⟩ := hm b z q
      rw [hc b _ q] at hb
      cases hb
      exact absurd rfl (ho ob x)
  refine ⟨v, layC H' C, os, bare, ⟨fun b o hb n hfs hx => un.keep b o hb ((dropC_n (nC n)).trans n) hfs hx, fun b o hb n hfs hx => un.slot b o hb ((dropC_n (nC n)).trans n) hfs hx, fun b o hb n hx => ?_, un.there, fun b xs e => ?_, fun b o z e => ?_, fun b ps e => ?_⟩, fun a o e => ?_, rv, q v H' hq fun a z e => let ⟨_, _, _, _, _, h4, _⟩ := get a z e; h4⟩
  · rw [layC_n (nC n)]
    exact un.free b o hb ((dropC_n (nC n)).trans n) hx
  · have n := nT e (fun _ _ z => nomatch z)
    rw [layC_n n]
    exact un.tups b xs ((dropC_n n).trans e)
  · cases q : C b with
    | none => rw [layC_n q]; exact un.frzs b o z ((dropC_n q).trans e)
    | some y => rw [layC_s q, ← e]; exact (hc b y q).symm
  · have n := nT e (fun _ _ z => nomatch z)
    rw [layC_n n]
    exact un.tbls b ps ((dropC_n n).trans e)
  · cases q : C a with
    | some z =>
      rw [layC_s q] at e
      cases e
      obtain ⟨ob, x, rfl, _, ⟨y, h2, h3⟩, _, h5⟩ := get a _ q
      exact cel_ok h5 h2 h3
    | none =>
      rw [layC_n q] at e
      have kp : ∀ b u, H' b = some u → layC H' C b = some u := fun b u hb => by
        cases qb : C b with
        | none => rw [layC_n qb]; exact hb
        | some z =>
          obtain ⟨_, _, _, _, _, h4, _⟩ := get b z qb
          rw [h4] at hb; cases hb
      exact (hok' a o e).stay (fun _ _ _ z => z) (fun b hb => kp b _ hb) fun b xs hb => kp b _ hb
/-- at a def's end the cells that it made are known from now on -/
theorem ce_end {v : V} {H' : Hp} (os : s'.os = s.os) (bare : AllBare s'.gens) (un : Un (frs outer) [] H H' s.heap s'.heap) (hok : HOk P w H s.heap) (hok' : HOk P w H' s'.heap) (rv : RelV v u) (cs : Cels C s'.heap) (hn : ∀ a u, C a = some u → H' a = none) (fr : ∀ a u, C a = some u → s.heap.objs.size ≤ a) (q : Q v (layC H' C)) : CE outer P w H s Q u s' := by
  have nB : ∀ {b : Addr} {o : Obj}, s.heap.get? b = some o → C b = none := fun {b o} hb => by
    cases q : C b with
    | none => rfl
    | some z => exact absurd (Heap.lt_size hb) (Nat.not_lt_of_le (fr b z q))
  have nT : ∀ {b : Addr} {o : HO}, H b = some o → C b = none := fun {b o} hb => by
    cases q : C b with
    | none => rfl
    | some z => exact absurd ((hok b o hb).lt) (Nat.not_lt_of_le (fr b z q))
  refine ⟨v, layC H' C, os, bare, ⟨un.keep, un.slot, fun b o hb n hx => ?_, un.there, fun b xs e => ?_, fun b o z e => ?_, fun b ps e => ?_⟩, hok_lay hok' cs hn, rv, q⟩
  · rw [layC_n (nB hb)]; exact un.free b o hb n hx
  · rw [layC_n (nT e)]; exact un.tups b xs e
  · rw [layC_n (nT e)]; exact un.frzs b o z e
  · rw [layC_n (nT e)]; exact un.tbls b ps e
end
/-! ### the world with cells, or without them -/
mutual
theorem DR.drop {K : PySem.W.Frag} {F : Hp} {C : CMap} (hm : CelM C) (hc : ∀ a u o, C a = some u → F a = some o → o = u) : ∀ {v : V} {d : PyData}, DR K F v d → DR K (dropC F C) v d
  | _, _, .non => .non
  | _, _, .bl b => .bl b
  | _, _, .int i => .int i
  | _, _, .str x h => .str x h
  | _, _, .lst h hs => .lst (drop_at hm hc h fun _ _ z => nomatch z) (DRs.drop2 hm hc hs)
  | _, _, .tup h hs => .tup (drop_at hm hc h fun _ _ z => nomatch z) (DRs.drop2 hm hc hs)
  | _, _, .dcT h k hs e' => .dcT (drop_at hm hc h fun _ _ z => nomatch z) k (DRs.drop2 hm hc hs) e'
  | _, _, .dcK h k hs e' n' => .dcK (drop_at hm hc h fun _ _ z => nomatch z) k (DRs.drop2 hm hc hs) e' n'
theorem DRs.drop2 {K : PySem.W.Frag} {F : Hp} {C : CMap} (hm : CelM C) (hc : ∀ a u o, C a = some u → F a = some o → o = u) : ∀ {vs : List V} {ds : List PyData}, DRs K F vs ds → DRs K (dropC F C) vs ds
  | _, _, .nil => .nil
  | _, _, .cons h hs => .cons (DR.drop hm hc h) (DRs.drop2 hm hc hs)
theorem drop_at {F : Hp} {C : CMap} (hm : CelM C) (hc : ∀ a u o, C a = some u → F a = some o → o = u) {a : Addr} {o : HO} (h : F a = some o) (ho : ∀ ob x, o ≠ CelO ob x) : dropC F C a = some o := by
  cases q : C a with
  | none => rw [dropC_n q]; exact h
  | some u =>
    obtain ⟨ob, x, rfl⟩ := hm a u q
    exact absurd (hc a _ o q h) (ho ob x)
end
theorem same_lay {F : Hp} {C : CMap} (hn : ∀ a u, C a = some u → F a = none) : Same F (layC F C) := fun a o e => by
  cases q : C a with
  | none => rw [layC_n q]; exact e
  | some u => rw [hn a u q] at e; cases e
end DL
set_option Elab.async false
set_option linter.all false
set_option maxRecDepth 100000
set_option maxHeartbeats 4000000
namespace DL
open PySem PySem.Spec PyProof.Rows L2 NdefX LamX
/-! ### functions as values: of one datum, telling a number, changing nothing -/
/-- what must stand in the still part so that a function may be called -/
structure Need where
  ψ : PySem.W.Frag → Hp → Prop
  mono : ∀ {K : PySem.W.Frag} {F F' : Hp}, Same F F' → ψ K F → ψ K F'
def nT : Need := ⟨fun _ _ => True, fun _ h => h⟩
def nA (a b : Need) : Need := ⟨fun K F => a.ψ K F ∧ b.ψ K F, fun e h => ⟨a.mono e h.1, b.mono e h.2⟩⟩
/-- what stands at f is a function that one may call -/
def FnH (u : HO) (f : Addr) : Prop := (∃ φ, u = .ext φ) ∧ ∀ (P : Program) (w : World) (H : Hp) (h : Heap), ObjOk P w H h f u → PySem.W.FnAt f h
/-- f, asked of x in H, tells r -/
def RunAt (P : Program) (w : World) (K : PySem.W.Frag) (mg : Str → Option Value) (base : Heap) (k : Nat) (f : Addr) (H : Hp) (x : V) (r : Int) : Prop := ∀ (A : Around) (outer : List Env) (sh : Shared) (u : Value), Room k A → Env0 P w K mg base A outer sh H → RelV x u →
  codeAny (model P w) A (.call (.ref f) ⟨[u], []⟩) (CR (L2.CX P w) outer P w H sh (fun v H' => v = .int r ∧ Same H H') fun _ _ _ => False) sh
def Runs (P : Program) (w : World) (K : PySem.W.Frag) (mg : Str → Option Value) (base : Heap) (N : Need) (k : Nat) (g : PyData → Option Int) (f : Addr) (F : Hp) : Prop := ∀ (H F' : Hp) (x : V) (d : PyData) (r : Int), Same F F' → N.ψ K F' → Same F' H → DR K F' x d → g d = some r → RunAt P w K mg base k f H x r
def wP (P : Program) (w : World) (mg : Str → Option Value) (base : Heap) (N : Need) (k : Nat) (g : PyData → Option Int) : Per where
  φ := fun K F v => ∃ f, v = .ref f ∧ (∃ u, F f = some u ∧ FnH u f) ∧ Runs P w K mg base N k g f F
  mono := fun {K F F' v} e h => by
    obtain ⟨f, rfl, ⟨u, h1, h2⟩, h3⟩ := h
    exact ⟨f, rfl, ⟨u, e _ _ h1, h2⟩, fun H F2 x d r e2 => h3 H F2 x d r fun a o z => e2 a o (e a o z)⟩
theorem wP_act {P : Program} {w : World} {mg : Str → Option Value} {base : Heap} {N N' : Need} {k : Nat} {g : PyData → Option Int} {K : PySem.W.Frag} {F : Hp} {v : V} (h : (wP P w mg base N k g).φ K F v) (n : ∀ F', Same F F' → N'.ψ K F' → N.ψ K F') : (wP P w mg base N' k g).φ K F v := by
  obtain ⟨f, rfl, h2, h3⟩ := h
  exact ⟨f, rfl, h2, fun H F2 x d r e2 n2 => h3 H F2 x d r e2 (n F2 e2 n2)⟩
/-- x(e), x a name that holds such a function -/
def tCallW (P : Program) (w : World) (K : PySem.W.Frag) (mg : Str → Option Value) (base : Heap) (i j : Nat) (t : TA) : TE := fun σ H Q => ∃ f, σ[i]? = some (some (.ref f)) ∧ (∃ u, H f = some u ∧ FnH u f) ∧
  t σ H fun vs H1 => ∃ x r k, vs = [x] ∧ k ≤ j ∧ (∃ u, H1 f = some u ∧ FnH u f) ∧ RunAt P w K mg base k f H1 x r ∧ ∀ H2, Same H1 H2 → Q (.int r) H2
section
variable {X : Cx} {W : WX} {i j : Nat} {x : Str} {t : TA} {e : Expr} {p pos : Pos}
theorem pe_callW (hr : Room j X.A) (hN : X.N[i]? = some x) (hv : Vis X.env.scope x) (ha : PA X [e] t)
    (hd : (x == ("__debug__" : Str)) = false := by decide) (hcd : (x == ("__classdict__" : Str)) = false := by decide)
    (he : starEach [e] X.env = (false, eval e X.env) :: starEach [] X.env := by rfl) :
    PE X (.Call (.Name x p) [e] [] pos) (tCallW X.prog X.w X.K X.mg X.base i j t) := by
  refine ⟨fun pins s σ H Q I h => ?_⟩
  obtain ⟨f, hs, hf, ht⟩ := h
  refine wpAny_Call_Name_kw (thn ((pe_var (pos := p) hN hv hd hcd).run pins s σ H (fun v H1 => v = .ref f ∧ H1 = H) I ⟨.ref f, hs, rfl, rfl⟩) fun u s1 ⟨v, H1, I1, r1, q1⟩ => ?_)
  obtain ⟨rfl, rfl⟩ := q1
  obtain rfl : u = Value.ref f := r1
  obtain ⟨z, hz1, hz2⟩ := hf
  refine PySem.W.callWith_F (first := []) (hz2.2 _ _ _ _ (I1.hok f z hz1)) (thn (ha.run pos pins s1 σ H1 _ I1 ht) fun us s2 ⟨vs, H2, I2, r, y, n, k, e1, hk, ⟨z', h1, h2⟩, run, q⟩ => ⟨h2.2 _ _ _ _ (I2.hok f z' h1), ?_⟩) he rfl
  subst e1
  cases r with
  | cons r rs =>
    cases rs
    refine wpAny_call (codeAny_mono (run X.A X.stack s2 _ (hr.mono hk) I2.env0 r) fun res s' hq => ?_)
    cases res with
    | error e =>
      obtain ⟨_, _, _, _, _, _, _, _, _, _, _, _, z⟩ := hq
      exact z.elim
    | ok fl =>
      cases fl with
      | ret u =>
        obtain ⟨v, H3, I3, rv, rfl, q3⟩ := I2.after hq
        exact ⟨_, H3, I3, rv, q H3 q3⟩
      | next => exact False.elim hq
      | brk => exact False.elim hq
      | cont => exact False.elim hq
/-- a slot's function -/
def fnK (P : Program) (w : World) (mg : Str → Option Value) (base : Heap) (j : Nat) (o : Option (Option EV)) (κ : (PyData → Option Int) → Prop) : Prop := ∃ k g, k ≤ j ∧ o = some (some (.per (wP P w mg base nT k g))) ∧ κ g
def callWK (g : PyData → Option Int) (q : PQ) (es : List EV) (μ : Mu) : Prop := ∃ d r, es = [.dat d] ∧ g d = some r ∧ q (.dat (.int r)) μ
def dCallW (P : Program) (w : World) (mg : Str → Option Value) (base : Heap) (i j : Nat) (t : TDA) : TDE := fun η μ q E => fnK P w mg base j η[i]? fun g => t η μ (callWK g q) E
theorem x_dCallW {P : Program} {w : World} {mg : Str → Option Value} {base : Heap} {t : TDA} {η : DEnv} {μ : Mu} {q : PQ} {E : XQ} : dCallW P w mg base i j t η μ q E = fnK P w mg base j η[i]? fun g => t η μ (callWK g q) E := Eq.trans rfl rfl
theorem callWK_d {g : PyData → Option Int} {q : PQ} {d : PyData} {μ : Mu} : callWK g q [.dat d] μ = ∃ r, g d = some r ∧ q (.dat (.int r)) μ := propext ⟨fun ⟨_, r, e, h⟩ => by cases e; exact ⟨r, h⟩, fun ⟨r, h⟩ => ⟨d, r, rfl, h⟩⟩
theorem fnK_w {P : Program} {w : World} {mg : Str → Option Value} {base : Heap} {k : Nat} {g : PyData → Option Int} {κ : (PyData → Option Int) → Prop} (h : k ≤ j) (q : κ g) : fnK P w mg base j (some (some (.per (wP P w mg base nT k g)))) κ := ⟨k, g, h, rfl, q⟩
theorem de_callW {P : Program} {w : World} {mg : Str → Option Value} {base : Heap} {td : TDA} (hX : X.prog = P ∧ X.w = w ∧ X.mg = mg ∧ X.base = base) (hr : Room j X.A) (ha : DA X W [e] td) (hN : X.N[i]? = some x := by rfl) (hv : Vis X.env.scope x := by first | exact Or.inl rfl | exact Or.inr (Or.inl rfl) | exact Or.inr (Or.inr rfl))
    (hd : (x == ("__debug__" : Str)) = false := by decide) (hcd : (x == ("__classdict__" : Str)) = false := by decide) (he : starEach [e] X.env = (false, eval e X.env) :: starEach [] X.env := by rfl) :
    DE X W (.Call (.Name x p) [e] [] pos) (dCallW P w mg base i j td) := by
  obtain ⟨rfl, rfl, rfl, rfl⟩ := hX
  obtain ⟨t1, p1, g1⟩ := ha.ex
  refine de_pe (pe_callW hr hN hv p1 hd hcd he) fun s σ η μ Q q E S hq l lx => ?_
  obtain ⟨k, g, hk, hi, hq⟩ := hq
  obtain ⟨v, hσ, hv⟩ := S.er.get i _ hi
  obtain ⟨f, rfl, ⟨u, hu, fu⟩, run⟩ := hv
  refine ⟨f, hσ, ⟨u, S.rep.sub _ _ hu, fu⟩, g1 s σ η μ _ _ E S hq (fun es' μ1 vs s1 hk1 x1 R1 r1 => ?_) lx⟩
  obtain ⟨d, r, rfl, hg, hq⟩ := hk1
  cases r1 with
  | cons rx fx rr =>
    cases rr
    refine ⟨_, r, k, rfl, hk, ⟨u, R1.sub _ _ (x1.f _ _ hu), fu⟩, run s1.H s1.F _ d r x1.f trivial R1.sub rx hg, fun H2 e2 => ?_⟩
    exact l (.dat (.int r)) μ1 (.int r) { s1 with H := H2 } hq (x1.grow e2) (R1.grow e2) (.int r) trivial
end
end DL
set_option Elab.async false
set_option linter.all false
set_option maxRecDepth 100000
set_option maxHeartbeats 4000000
namespace DL
open PySem PySem.Spec PyProof.Rows L2 NdefX LamX
/-! ### bodies of made functions -/
/-- a lambda's function object -/
def LmO (f : Addr) (F : NF) (body : Expr) : HO := .ext fun h => ∃ (od : Option Addr) (sl : Array (Option Value)) (pm ctv : Value), h.get? f = some (⟨.type "function", od, .func (PySem.W.kla_fn F.name F.qual F.params body F.scope F.cl pm (.ref F.c) ctv), sl⟩ : Obj)
theorem lmO_h {f : Addr} {F : NF} {body : Expr} : FnH (LmO f F body) f := ⟨⟨_, rfl⟩, fun P w H h k => let ⟨⟨od, sl, pm, ctv, e⟩, _, _⟩ := k; ⟨_, od, _, sl, e⟩⟩
theorem fnO_h {f : Addr} {F : NF} : FnH (FnO f F) f := ⟨⟨_, rfl⟩, fun P w H h k => let ⟨⟨od, sl, doc, pm, ctv, e⟩, _, _⟩ := k; ⟨_, od, _, sl, e⟩⟩
/-- the made function at f runs as told -/
def CRun (P : Program) (w : World) (K : PySem.W.Frag) (mg : Str → Option Value) (base : Heap) (CX : CXT) (k : Nat) (f : Addr) (u : HO) (F : NF) (fr : List Str) (sp : List (Option V) → Sp) : Prop :=
  ∀ (A : Around) (outer : List Env) (s : Shared) (H : Hp) (us : List Value) (vs : List V) (ws : List (Option V)) (Q : VK) (E : XK), Room k A → Env0 P w K mg base A outer s H → H f = some u → H F.c = some (CodeO F.c F.qual) →
    CellsAt F.cl fr ws s.heap H → Vals vs us → sp ws vs H Q E → codeAny (model P w) A (.call (.ref f) ⟨us, []⟩) (CR CX outer P w H s Q E) s
section
variable {CX : CXT} {P : Program} {w : World} {K : PySem.W.Frag} {mg : Str → Option Value} {base : Heap} {N ps fr : List Str} {F : NF} {f : Addr} {k : Nat} {sp : List (Option V) → Sp} {body : Expr}
theorem crun_ex (S : NScope N ps fr F.scope) (hb : ∀ (pm ctv : Value) (us : List Value), us.length = ps.length → bindArgs (PySem.W.kla_fn F.name F.qual F.params body F.scope F.cl pm (.ref F.c) ctv) ⟨us, []⟩ = pure (ps.zip us)) (len : ∀ ws vs H Q E, sp ws vs H Q E → vs.length = ps.length)
    (hbody : ∀ (A : Around) (outer : List Env) (s : Shared) (H : Hp) (vs : List V) (ws : List (Option V)) (Q : VK) (E : XK), Room k (A.deeper (envF F f s.heap.objs.size)) → ws.length = fr.length → sp ws vs H Q E →
      ∃ t, PE (ncx CX P w K mg base N F f A outer s H E) body t ∧ t (startF N vs ws) H Q) :
    CRun P w K mg base CX (k + 1) f (LmO f F body) F fr sp := by
  intro A outer s H us vs ws Q E room e0 atF atC cells vals want
  have many := len _ _ _ _ _ want
  have noLim : s.heap.NoLimit := e0.mod.nolimit.keeps fun b o e => (e0.bs b o e).1
  obtain ⟨⟨od, sl, pm, ctv, there⟩, _, _⟩ := e0.hok f _ atF
  refine PySem.W.kla_callFunE room.depth there rfl S.co S.gen rfl (codeO_at e0.hok atC) ?_
  rw [hb pm ctv us (vals.length.symm.trans many)]
  refine wpAny_pure (wpAny_newFunctionEnv S.nocell (fun ⟨n, _⟩ hy => S.par n (List.of_mem_zip hy).1) (fun h₁ ns same => ⟨noLim.fresh _ same, ?_⟩) S.kind)
  show codeAny _ _ (.expr body (envF F f s.heap.objs.size)) _ _
  have old : ∀ b o, s.heap.get? b = some o → h₁.get? b = some o := fun b o e => same.extBut b o (Nat.ne_of_lt (Heap.lt_size e)) (Heap.get?_push_of_some _ e)
  obtain ⟨t, tb, ht⟩ := hbody A outer s H vs ws Q E (room.deeper _) cells.len want
  have J : Inv (ncx CX P w K mg base N F f A outer s H E) [] (startF N vs ws) H { s with heap := h₁, toks := s.toks + (ps.zip us).length } := inv_startN S room.hd e0 many vals cells ns old
  refine PySem.W.kla_codeExpr (wpAny_mono (tb.run [] _ (startF N vs ws) H Q J ht) (fun u s' ⟨v, H', J', rv, q⟩ => ?_) fun e s' z => z)
  exact ⟨v, H', J'.os, J'.bare, J'.base, J'.hok, rv, q⟩
theorem crun_st (S : NScope N ps fr F.scope) (hb : ∀ (doc pm ctv : Value) (us : List Value), us.length = ps.length → bindArgs (F.fd doc pm ctv) ⟨us, []⟩ = pure (ps.zip us)) (len : ∀ ws vs H Q E, sp ws vs H Q E → vs.length = ps.length)
    (hbody : ∀ (A : Around) (outer : List Env) (s : Shared) (H : Hp) (vs : List V) (ws : List (Option V)) (Q : VK) (E : XK), Room k (A.deeper (envF F f s.heap.objs.size)) → ws.length = fr.length → sp ws vs H Q E →
      ∃ t, PSs (ncx CX P w K mg base N F f A outer s H E) F.body t ∧ t { nx := fun _ H' => Q .non H', rt := Q } (startF N vs ws) H) :
    CRun P w K mg base CX (k + 1) f (FnO f F) F fr sp :=
  (nok_of S hb len fun A outer s H vs ws Q E room _ _ hl want => hbody A outer s H vs ws Q E room hl want).run
end
/-! ### what a made function captured -/
/-- a captured value, in a still part without the cells -/
def capV (K : PySem.W.Frag) (F : Hp) (v : V) : EV → Prop
  | .dat d => DR K F v d
  | .per c => c.φ K F v
  | _ => False
theorem capV.mono {K : PySem.W.Frag} {F F' : Hp} {v : V} {e : EV} (e1 : Same F F') (h : capV K F v e) : capV K F' v e := by
  cases e with
  | dat d => exact DR.mono e1 h
  | per c => exact c.mono e1 h
  | _ => exact h
/-- the cells of the names fr hold cs -/
def capsN (cl : List (Str × Addr)) (fr : List Str) (cs : List EV) : Need where
  ψ := fun K F => ∃ F1, Same F1 F ∧ (∀ y a, cl.lookup y = some a → F1 a = none) ∧ ∀ (i : Nat) (y : Str) (e : EV), fr[i]? = some y → cs[i]? = some e → ∃ a o v, cl.lookup y = some a ∧ F a = some (CelO o v) ∧ (∃ x, RelV v x ∧ o.data = .cell (some x)) ∧ capV K F1 v e
  mono := fun {K F F'} e h => by
    obtain ⟨F1, h1, h2, h3⟩ := h
    refine ⟨F1, fun a o z => e a o (h1 a o z), h2, fun i y ev e1 e2 => ?_⟩
    obtain ⟨a, o, v, a1, a2, a3⟩ := h3 i y ev e1 e2
    exact ⟨a, o, v, a1, e _ _ a2, a3⟩
/-- the need stands also where cells that hold functions alone are not known -/
def NStab (N : Need) : Prop := ∀ (K : PySem.W.Frag) (F : Hp) (C : CMap), (∀ a u, C a = some u → F a = some u ∧ ∃ o f, u = CelO o (.ref f) ∧ ∃ z, F f = some z ∧ ∃ φ, z = .ext φ) → N.ψ K F → N.ψ K (dropC F C)
theorem nstab_T : NStab nT := fun _ _ _ _ _ => trivial
theorem nstab_A {a b : Need} (h1 : NStab a) (h2 : NStab b) : NStab (nA a b) := fun K F C hc h => ⟨h1 K F C hc h.1, h2 K F C hc h.2⟩
theorem dr_ref_noext {K : PySem.W.Frag} {F : Hp} {a : Addr} {d : PyData} {φ : Heap → Prop} (h : DR K F (.ref a) d) (e : F a = some (.ext φ)) : False := by
  cases h with
  | lst q _ => rw [e] at q; cases q
  | tup q _ => rw [e] at q; cases q
  | dcT q _ _ _ => rw [e] at q; cases q
  | dcK q _ _ _ _ => rw [e] at q; cases q
/-- cells of data -/
theorem nstab_caps {cl : List (Str × Addr)} {fr : List Str} {ds : List PyData} : NStab (capsN cl fr (ds.map .dat)) := by
  intro K F C hc ⟨F1, h1, h2, h3⟩
  have hm : CelM C := fun a u q => let ⟨_, o, f, e, _⟩ := hc a u q; ⟨o, _, e⟩
  have hs : ∀ a u, C a = some u → F a = some u := fun a u q => (hc a u q).1
  refine ⟨dropC F1 C, fun a o z => ?_, fun y a e => ?_, fun i y e e1 e2 => ?_⟩
  · cases q : C a with
    | some u => rw [dropC_s q] at z; cases z
    | none => rw [dropC_n q] at z ⊢; exact h1 a o z
  · cases q : C a with
    | some u => exact dropC_s q
    | none => rw [dropC_n q]; exact h2 y a e
  · obtain ⟨a, o, v, a1, a2, ⟨x, a4, a5⟩, a3⟩ := h3 i y e e1 e2
    rw [List.getElem?_map] at e2
    cases qd : ds[i]? with
    | none => rw [qd] at e2; cases e2
    | some d =>
      rw [qd] at e2
      cases e2
      have a3 : DR K F1 v d := a3
      refine ⟨a, o, v, a1, ?_, ⟨x, a4, a5⟩, ?_⟩
      · cases q : C a with
        | none => rw [dropC_n q]; exact a2
        | some u =>
          obtain ⟨q1, o', f, rfl, z, hz, φ, rfl⟩ := hc a u q
          rw [a2] at q1
          have ev : v = .ref f := by
            simp only [CelO, Option.some.injEq, HO.frz.injEq, HO.ext.injEq] at q1
            obtain ⟨rfl, q1⟩ := q1
            have t : ∃ u, RelV (.ref f) u ∧ o.data = .cell (some u) := (congrFun q1 default) ▸ ⟨x, a4, a5⟩
            obtain ⟨u, t1, t2⟩ := t
            rw [a5] at t2
            cases t2
            cases t1
            cases v <;> first | (cases a4; rfl) | (obtain ⟨_, z⟩ := a4; cases z) | cases a4
          subst ev
          exact (dr_ref_noext (a3.mono h1) hz).elim
      · exact a3.drop hm fun b u o' z1 z2 => by
          have := h1 b o' z2
          rw [hs b u z1] at this
          exact (Option.some.inj this).symm
end DL
set_option Elab.async false
set_option linter.all false
set_option maxRecDepth 100000
set_option maxHeartbeats 4000000
namespace DL
open PySem PySem.Spec PyProof.Rows L2 NdefX LamX
/-! ### a made function may be called wherever its cells are known -/
theorem pick_list {α : Type} {R : Nat → α → Prop} : ∀ (n : Nat), (∀ i, i < n → ∃ v, R i v) → ∃ vs : List α, vs.length = n ∧ ∀ i v, vs[i]? = some v → R i v
  | 0, _ => ⟨[], rfl, fun i v e => by simp at e⟩
  | n + 1, h => by
    obtain ⟨vs, h1, h2⟩ := pick_list n fun i hi => h i (Nat.lt_succ_of_lt hi)
    obtain ⟨x, hx⟩ := h n (Nat.lt_succ_self n)
    refine ⟨vs ++ [x], by simp [h1], fun i v e => ?_⟩
    by_cases hi : i < vs.length
    · rw [List.getElem?_append_left hi] at e
      exact h2 i v e
    · rw [List.getElem?_append_right (Nat.le_of_not_lt hi)] at e
      have : i - vs.length = 0 := by
        by_cases z : i - vs.length = 0
        · exact z
        · rw [List.getElem?_eq_none (by simp; omega)] at e; cases e
      rw [this] at e
      have hn : i = n := by omega
      subst hn
      simp at e
      subst e
      exact hx
open Classical in
/-- the cells of cl, as F has them -/
noncomputable def cellsIn (cl : List (Str × Addr)) (F : Hp) : CMap := fun a => if ∃ y, cl.lookup y = some a then F a else none
theorem cellsIn_s {cl : List (Str × Addr)} {F : Hp} {a : Addr} {u : HO} (h : cellsIn cl F a = some u) : (∃ y, cl.lookup y = some a) ∧ F a = some u := by
  unfold cellsIn at h
  split at h
  · rename_i z; exact ⟨z, h⟩
  · cases h
theorem cellsIn_at {cl : List (Str × Addr)} {F : Hp} {y : Str} {a : Addr} (h : cl.lookup y = some a) : cellsIn cl F a = F a := by
  unfold cellsIn
  rw [if_pos ⟨y, h⟩]
/-- what a body promises: asked of d it tells g d, its captured values as cs says -/
def spB (K : PySem.W.Frag) (cs : List EV) (g : PyData → Option Int) (ws : List (Option V)) : Sp := fun vs H Q _ => ∃ (s : Wd) (x : V) (d : PyData) (r : Int), s.H = H ∧ Rep K s [] ∧ vs = [x] ∧ DR K s.F x d ∧ g d = some r ∧
  (∀ (i : Nat) (e : EV), cs[i]? = some e → ∃ v, ws[i]? = some (some v) ∧ capV K s.F v e) ∧ ∀ H', Same H H' → Q (.int r) H'
section
variable {P : Program} {w : World} {K : PySem.W.Frag} {mg : Str → Option Value} {base : Heap} {fr : List Str} {F : NF} {f : Addr} {k : Nat} {u : HO} {cs cs' : List EV} {g : PyData → Option Int} {N2 : Need}
theorem clo_core (run : CRun P w K mg base (L2.CX P w) k f u F fr (spB K cs' g)) (hu : FnH u f) (dom : ∀ y a, F.cl.lookup y = some a → y ∈ fr) (inj : ∀ x y a, F.cl.lookup x = some a → F.cl.lookup y = some a → x = y) (l1 : cs.length = fr.length) (l2 : cs'.length = fr.length)
    (hcap : ∀ (F' F1 : Hp) (C : CMap), N2.ψ K F' → Same F1 F' → (∀ a z, C a = some z → F' a = some z ∧ ∃ o v e, e ∈ cs ∧ z = CelO o v ∧ capV K F1 v e) → Same F1 (dropC F' C) → ∀ (i : Nat) (e e' : EV) (v : V), cs[i]? = some e → cs'[i]? = some e' → capV K F1 v e → capV K (dropC F' C) v e')
    {F0 : Hp} (hf : F0 f = some u) (hc : F0 F.c = some (CodeO F.c F.qual)) : Runs P w K mg base (nA (capsN F.cl fr cs) N2) k g f F0 := by
  intro H F' x d r s0 n sH rx hg A outer sh uu room e0 rv
  obtain ⟨⟨F1, h1, h2, h3⟩, n2⟩ := n
  have item : ∀ (i : Nat) (y : Str), fr[i]? = some y → ∃ e a o v, cs[i]? = some e ∧ F.cl.lookup y = some a ∧ F' a = some (CelO o v) ∧ capV K F1 v e := fun i y e1 => by
    have hi : i < cs.length := by rw [l1]; exact (List.getElem?_eq_some_iff.mp e1).1
    obtain ⟨a, o, v, a1, a2, _, a3⟩ := h3 i y cs[i] e1 (List.getElem?_eq_getElem hi)
    exact ⟨cs[i], a, o, v, List.getElem?_eq_getElem hi, a1, a2, a3⟩
  have ofC : ∀ a z, cellsIn F.cl F' a = some z → F' a = some z ∧ ∃ o v e, e ∈ cs ∧ z = CelO o v ∧ capV K F1 v e := fun a z e => by
    obtain ⟨⟨y, hy⟩, e1⟩ := cellsIn_s e
    obtain ⟨i, hi⟩ := List.mem_iff_getElem?.mp (dom y a hy)
    obtain ⟨ev, a', o, v, b1, b2, b3, b4⟩ := item i y hi
    rw [hy] at b2
    cases b2
    rw [e1] at b3
    exact ⟨e1, o, v, ev, List.mem_of_getElem? b1, Option.some.inj b3, b4⟩
  have hm : CelM (cellsIn F.cl F') := fun a z e => let ⟨_, o, v, _, _, e2, _⟩ := ofC a z e; ⟨o, v, e2⟩
  have hC : ∀ a z, cellsIn F.cl F' a = some z → H a = some z := fun a z e => sH a z (ofC a z e).1
  have sF1 : Same F1 (dropC F' (cellsIn F.cl F')) := fun a o z => by
    cases q : cellsIn F.cl F' a with
    | none => rw [dropC_n q]; exact h1 a o z
    | some t =>
      obtain ⟨⟨y, hy⟩, _⟩ := cellsIn_s q
      rw [h2 y a hy] at z
      cases z
  obtain ⟨ws, hw1, hw2⟩ := pick_list (R := fun i v => ∃ y e a o, fr[i]? = some y ∧ cs[i]? = some e ∧ F.cl.lookup y = some a ∧ F' a = some (CelO o v) ∧ capV K F1 v e) fr.length fun i hi => by
    obtain ⟨e, a, o, v, b1, b2, b3, b4⟩ := item i fr[i] (List.getElem?_eq_getElem hi)
    exact ⟨v, fr[i], e, a, o, List.getElem?_eq_getElem hi, b1, b2, b3, b4⟩
  have out : ∀ {b : Addr} {o : HO}, H b = some o → (∃ φ, o = .ext φ) → dropC H (cellsIn F.cl F') b = some o := fun {b o} e ⟨φ, hφ⟩ => by
    cases q : cellsIn F.cl F' b with
    | none => rw [dropC_n q]; exact e
    | some t =>
      obtain ⟨ob, v, rfl⟩ := hm b t q
      rw [hC b _ q, hφ] at e
      cases e
  have no : ∀ {b : Addr}, H b = none → dropC H (cellsIn F.cl F') b = none := fun {b} e => by
    cases q : cellsIn F.cl F' b with
    | none => rw [dropC_n q]; exact e
    | some t => exact dropC_s q
  have e0' : Env0 P w K mg base A outer sh (dropC H (cellsIn F.cl F')) := ⟨e0.frames, e0.mod, fun b o e => ⟨(e0.bs b o e).1, no (e0.bs b o e).2⟩, e0.bsz, e0.funs, fun b hb => no (e0.frf b hb), hok_drop e0.hok hm hC, e0.bare⟩
  have cells : CellsAt F.cl fr (ws.map some) sh.heap (dropC H (cellsIn F.cl F')) := by
    refine ⟨by rw [List.length_map, hw1], fun y a e => ?_, inj, fun i y e => ?_⟩
    · obtain ⟨i, hi⟩ := List.mem_iff_getElem?.mp (dom y a e)
      obtain ⟨ev, a', o, v, b1, b2, b3, b4⟩ := item i y hi
      rw [e] at b2
      cases b2
      refine ⟨dropC_s ((cellsIn_at e).trans b3), ?_⟩
      obtain ⟨c1, z, c2, c3⟩ := cel_at (e0.hok a _ (sH a _ b3))
      exact ⟨some z, o, c1, c3⟩
    · obtain ⟨ev, a, o, v, b1, b2, b3, b4⟩ := item i y e
      refine ⟨a, b2, fun v' ev' => ?_⟩
      rw [List.getElem?_map] at ev'
      cases q : ws[i]? with
      | none => rw [q] at ev'; cases ev'
      | some v2 =>
        rw [q] at ev'
        cases ev'
        obtain ⟨y', e', a', o', c1, c2, c3, c4, _⟩ := hw2 i _ q
        rw [e] at c1
        cases c1
        rw [b2] at c3
        cases c3
        obtain ⟨d1, z, d2, d3⟩ := cel_at (e0.hok _ _ (sH _ _ c4))
        exact ⟨z, d2, o', d1, d3⟩
  have want : spB K cs' g (ws.map some) [x] (dropC H (cellsIn F.cl F')) (fun v H' => v = .int r ∧ Same (dropC H (cellsIn F.cl F')) H') (fun _ _ _ => False) := by
    refine ⟨⟨dropC H (cellsIn F.cl F'), dropC F' (cellsIn F.cl F'), fun _ => 0, fun _ _ => False⟩, x, d, r, rfl, ⟨fun a o e => ?_, fun n c q => by simp at q, fun m n a hm => absurd hm (Nat.not_lt_zero _), fun n hn => absurd hn (Nat.not_lt_zero _), fun n a hn => absurd hn (Nat.not_lt_zero _), fun n t q => by simp at q⟩, rfl, ?_, hg, fun i e' q => ?_, fun H' e => ⟨rfl, e⟩⟩
    · have e : dropC F' (cellsIn F.cl F') a = some o := e
      show dropC H (cellsIn F.cl F') a = some o
      cases q : cellsIn F.cl F' a with
      | none => rw [dropC_n q] at e ⊢; exact sH a o e
      | some t => rw [dropC_s q] at e; cases e
    · exact rx.drop hm fun a z o e1 e2 => by rw [(ofC a z e1).1] at e2; exact (Option.some.inj e2).symm
    · have hi : i < fr.length := by rw [← l2]; exact (List.getElem?_eq_some_iff.mp q).1
      have hw : i < ws.length := by rw [hw1]; exact hi
      obtain ⟨y, e, a, o, c1, c2, c3, c4, c5⟩ := hw2 i ws[i] (List.getElem?_eq_getElem hw)
      exact ⟨ws[i], by rw [List.getElem?_map, List.getElem?_eq_getElem hw]; rfl, hcap F' F1 _ n2 h1 ofC sF1 i e e' _ c2 q c5⟩
  refine codeAny_mono (run A outer sh _ [uu] [x] (ws.map some) _ _ room e0' (out (sH _ _ (s0 _ _ hf)) hu.1) (out (sH _ _ (s0 _ _ hc)) ⟨_, rfl⟩) cells (.cons rv .nil) want) fun res s' hq => ?_
  cases res with
  | error e =>
    obtain ⟨_, _, _, _, _, _, _, _, _, _, _, _, z⟩ := hq
    exact z.elim
  | ok fl =>
    cases fl with
    | ret v =>
      refine ce_up hm hC e0.hok e0.frf hq fun v H' ⟨hv, e⟩ nC => ⟨hv, fun a o z => ?_⟩
      cases q : cellsIn F.cl F' a with
      | some t => rw [layC_s q, ← z]; exact (hC a t q).symm
      | none => rw [layC_n q]; exact e a o ((dropC_n q).trans z)
    | next => exact False.elim hq
    | brk => exact False.elim hq
    | cont => exact False.elim hq
/-- data, and functions that need nothing -/
inductive CapP (P : Program) (w : World) (mg : Str → Option Value) (base : Heap) : EV → Prop
  | dat (d : PyData) : CapP P w mg base (.dat d)
  | fn (k : Nat) (g : PyData → Option Int) : CapP P w mg base (.per (wP P w mg base nT k g))
/-- functions alone, that may need some -/
inductive CapsF (P : Program) (w : World) (mg : Str → Option Value) (base : Heap) : List EV → List EV → Need → Prop
  | nil : CapsF P w mg base [] [] nT
  | cons {N M : Need} {k : Nat} {g : PyData → Option Int} {cs cs' : List EV} : NStab N → CapsF P w mg base cs cs' M → CapsF P w mg base (.per (wP P w mg base N k g) :: cs) (.per (wP P w mg base nT k g) :: cs') (nA N M)
theorem CapsF.len (h : CapsF P w mg base cs cs' N2) : cs'.length = cs.length := by
  induction h with
  | nil => rfl
  | cons _ _ ih => rw [List.length_cons, List.length_cons, ih]
theorem CapsF.fn (h : CapsF P w mg base cs cs' N2) : ∀ e ∈ cs, ∃ N k g, e = .per (wP P w mg base N k g) := by
  induction h with
  | nil => intro e he; cases he
  | cons _ _ ih =>
    intro e he
    rcases List.mem_cons.mp he with rfl | he
    · exact ⟨_, _, _, rfl⟩
    · exact ih e he
theorem CapsF.act (h : CapsF P w mg base cs cs' N2) {F' F1 : Hp} {C : CMap} (hn : N2.ψ K F') (hC : ∀ a z, C a = some z → F' a = some z ∧ ∃ o f, z = CelO o (.ref f) ∧ ∃ z, F' f = some z ∧ ∃ φ, z = .ext φ) (sF : Same F1 (dropC F' C)) :
    ∀ (i : Nat) (e e' : EV) (v : V), cs[i]? = some e → cs'[i]? = some e' → capV K F1 v e → capV K (dropC F' C) v e' := by
  induction h with
  | nil => intro i e e' v h1; simp at h1
  | @cons N M k g cs cs' st _ ih =>
    intro i e e' v h1 h2 h3
    cases i with
    | zero =>
      simp at h1 h2
      subst h1 h2
      exact wP_act ((wP P w mg base N k g).mono sF h3) fun F2 e2 _ => N.mono e2 (st K F' C hC hn.1)
    | succ i => exact ih hn.2 i e e' v (by simpa using h1) (by simpa using h2) h3
theorem clo_plain (run : CRun P w K mg base (L2.CX P w) k f u F fr (spB K cs g)) (hu : FnH u f) (dom : ∀ y a, F.cl.lookup y = some a → y ∈ fr) (inj : ∀ x y a, F.cl.lookup x = some a → F.cl.lookup y = some a → x = y) (l1 : cs.length = fr.length)
    {F0 : Hp} (hf : F0 f = some u) (hc : F0 F.c = some (CodeO F.c F.qual)) : Runs P w K mg base (nA (capsN F.cl fr cs) nT) k g f F0 :=
  clo_core run hu dom inj l1 l1 (fun F' F1 C _ _ _ sF i e e' v h1 h2 h3 => by rw [h1] at h2; cases h2; exact h3.mono sF) hf hc
theorem clo_fns (run : CRun P w K mg base (L2.CX P w) k f u F fr (spB K cs' g)) (hu : FnH u f) (dom : ∀ y a, F.cl.lookup y = some a → y ∈ fr) (inj : ∀ x y a, F.cl.lookup x = some a → F.cl.lookup y = some a → x = y) (l1 : cs.length = fr.length) (hF : CapsF P w mg base cs cs' N2)
    {F0 : Hp} (hf : F0 f = some u) (hc : F0 F.c = some (CodeO F.c F.qual)) : Runs P w K mg base (nA (capsN F.cl fr cs) N2) k g f F0 := by
  refine clo_core run hu dom inj l1 (hF.len.trans l1) (fun F' F1 C hn s1 hC sF i e e' v h1 h2 h3 => hF.act hn (fun a z q => ?_) sF i e e' v h1 h2 h3) hf hc
  obtain ⟨q1, o, v, e, he, rfl, hv⟩ := hC a z q
  obtain ⟨N, k, g, rfl⟩ := hF.fn e he
  obtain ⟨f', rfl, ⟨z, hz, ⟨φ, hφ⟩, _⟩, _⟩ := hv
  exact ⟨q1, o, f', rfl, z, s1 _ _ hz, φ, hφ⟩
end
end DL
set_option Elab.async false
set_option linter.all false
set_option maxRecDepth 100000
set_option maxHeartbeats 4000000
namespace DL
open PySem PySem.Spec PyProof.Rows L2 NdefX LamX
/-! ### a made function by its body's reading -/
/-- the slots at its entry -/
def startW (n : Nat) (d : PyData) (cs : List EV) : DEnv := some (.dat d) :: (cs.map some ++ List.replicate (n - 1 - cs.length) none)
theorem vr_cap {K : PySem.W.Frag} {s : Wd} {N : Nat} {v : V} {e : EV} (h : capV K s.F v e) : VR K s N v e := by
  cases e with
  | dat d => exact h
  | per c => exact h
  | _ => exact h.elim
theorem er_startW {K : PySem.W.Frag} {s : Wd} {x : V} {d : PyData} {N : List Str} {ws : List (Option V)} {cs : List EV} (rx : DR K s.F x d) (hl : ws.length = cs.length) (hn : 1 + cs.length ≤ N.length) (hc : ∀ (i : Nat) (e : EV), cs[i]? = some e → ∃ v, ws[i]? = some (some v) ∧ capV K s.F v e) :
    ER K s 0 (startF N [x] ws) (startW N.length d cs) := by
  unfold startF startW
  refine ⟨by simp; omega, fun i e q => ?_⟩
  cases i with
  | zero =>
    simp at q
    subst q
    exact ⟨x, by simp, rx⟩
  | succ i =>
    rw [List.getElem?_cons_succ] at q
    simp only [List.map_cons, List.map_nil, List.cons_append, List.nil_append, List.getElem?_cons_succ]
    by_cases hi : i < cs.length
    · rw [List.getElem?_append_left (by simpa using hi), List.getElem?_map] at q
      cases hg : cs[i]? with
      | none => rw [hg] at q; cases q
      | some e0 =>
        rw [hg] at q
        cases q
        obtain ⟨v, h1, h2⟩ := hc i _ hg
        exact ⟨v, by rw [List.getElem?_append_left (by rw [hl]; exact hi)]; exact h1, vr_cap h2⟩
    · rw [List.getElem?_append_right (by simpa using Nat.le_of_not_lt hi), List.getElem?_replicate] at q
      split at q <;> cases q
def intQ (r : Int) : PQ := fun e _ => e = .dat (.int r)
theorem intQ_i {r i : Int} {μ : Mu} : intQ r (.dat (.int i)) μ = (i = r) := propext ⟨fun h => by cases h; rfl, fun h => by rw [h]; rfl⟩
section
variable {P : Program} {w : World} {K : PySem.W.Frag} {mg : Str → Option Value} {base : Heap} {N fr : List Str} {F : NF} {f : Addr} {k : Nat} {body : Expr} {x : Str} {cs : List EV} {g : PyData → Option Int}
theorem keep0 {s s' : Wd} {N' : Nat} (x : Ext s 0 s' N') : Same s.H s'.H := fun a o e => x.keep a o e fun m hm => absurd hm (Nat.not_lt_zero _)
/-- THE RULE for a lambda's body -/
theorem crun_lam {te : TDE} (S : NScope N [x] fr F.scope) (hb : ∀ (pm ctv u : Value), bindArgs (PySem.W.kla_fn F.name F.qual F.params body F.scope F.cl pm (.ref F.c) ctv) ⟨[u], []⟩ = pure [(x, u)]) (hl : cs.length = fr.length)
    (hbody : ∀ (A : Around) (outer : List Env) (s : Shared) (H : Hp) (E : XK), Room k (A.deeper (envF F f s.heap.objs.size)) → Takes (ncx (L2.CX P w) P w K mg base N F f A outer s H E) (fun cls d _ H => E cls d H) → DE (ncx (L2.CX P w) P w K mg base N F f A outer s H E) (fun cls d _ H => E cls d H) body te)
    (h : ∀ d r, g d = some r → te (startW N.length d cs) [] (intQ r) fun _ _ => False) : CRun P w K mg base (L2.CX P w) (k + 1) f (LmO f F body) F fr (spB K cs g) := by
  have hn : 1 + fr.length ≤ N.length := by
    have := congrArg List.length S.pre
    rw [List.length_take, List.length_append] at this
    simp at this
    omega
  refine crun_ex S (fun pm ctv us hu => ?_) (fun ws vs H Q E ⟨_, _, _, _, _, _, e, _⟩ => by rw [e]; rfl) fun A outer s H vs ws Q E room hws ⟨s0, y, d, r, hH, R, e, rx, hg, hc, q⟩ => ?_
  · match us, hu with
    | [u], _ => exact hb pm ctv u
  · subst hH e
    obtain ⟨t, p, gg⟩ := (hbody A outer s s0.H E room (takes_of rfl rfl rfl rfl)).ex
    refine ⟨t, p, gg s0 _ _ [] Q _ _ ⟨R, er_startW rx (hws.trans hl.symm) (by rw [hl]; exact hn) hc⟩ (h d r hg) (fun ev μ' v s' hq x' R' rv f' => ?_) LX.none⟩
    cases hq
    have : v = .int r := vr_i rv
    rw [this]
    exact q _ (keep0 x')
/-- .. for a def's -/
theorem crun_def {td : TDS} (S : NScope N [x] fr F.scope) (hb : ∀ (doc pm ctv u : Value), bindArgs (F.fd doc pm ctv) ⟨[u], []⟩ = pure [(x, u)]) (hl : cs.length = fr.length)
    (hbody : ∀ (A : Around) (outer : List Env) (s : Shared) (H : Hp) (E : XK), Room k (A.deeper (envF F f s.heap.objs.size)) → Takes (ncx (L2.CX P w) P w K mg base N F f A outer s H E) (fun cls d _ H => E cls d H) →
      PassesOwn (model P w) (A.deeper (envF F f s.heap.objs.size)) (envF F f s.heap.objs.size) (ncx (L2.CX P w) P w K mg base N F f A outer s H E).xe → DSs (ncx (L2.CX P w) P w K mg base N F f A outer s H E) (fun cls d _ H => E cls d H) F.body td)
    (h : ∀ d r, g d = some r → td { nx := fun _ _ => False, rt := intQ r } (fun _ _ => False) (startW N.length d cs) []) : CRun P w K mg base (L2.CX P w) (k + 1) f (FnO f F) F fr (spB K cs g) := by
  have hn : 1 + fr.length ≤ N.length := by
    have := congrArg List.length S.pre
    rw [List.length_take, List.length_append] at this
    simp at this
    omega
  refine crun_st S (fun doc pm ctv us hu => ?_) (fun ws vs H Q E ⟨_, _, _, _, _, _, e, _⟩ => by rw [e]; rfl) fun A outer s H vs ws Q E room hws ⟨s0, y, d, r, hH, R, e, rx, hg, hc, q⟩ => ?_
  · match us, hu with
    | [u], _ => exact hb doc pm ctv u
  · subst hH e
    obtain ⟨t, p, gg⟩ := (hbody A outer s s0.H E room (takes_of rfl rfl rfl rfl) (passes_of rfl)).ex
    refine ⟨t, p, gg s0 _ _ [] _ _ _ ⟨R, er_startW rx (hws.trans hl.symm) (by rw [hl]; exact hn) hc⟩ (h d r hg) ⟨fun _ _ _ _ z => z.elim, fun ev μ' v s' hq x' R' rv f' => ?_, fun _ _ _ _ z => z.elim, fun _ _ _ _ z => z.elim, fun _ _ _ _ _ _ z => z.elim⟩⟩
    cases hq
    have : v = .int r := vr_i rv
    rw [this]
    exact q _ (keep0 x')
end
end DL
set_option Elab.async false
set_option linter.all false
set_option maxRecDepth 100000
set_option maxHeartbeats 4000000
namespace DL
open PySem PySem.Spec PyProof.Rows L2 NdefX LamX
/-! ### functions are made -/
/-- the module of the built-ins, in the base -/
class BtB (mg : Str → Option Value) (base : Heap) : Prop where
  ex : ∃ (bm : Addr) (ob : Obj), mg "__builtins__" = some (.ref bm) ∧ bm ≠ builtinsNs ∧ bm ≠ mainGlobals ∧ base.get? bm = some ob ∧ ob.cls = .type "module" ∧ ob.dict = some builtinsNs ∧ ob.data = .plain
theorem BtB.at_ {X : Cx} {pins : List (Addr × Obj)} {σ : L2.St} {H : Hp} {s : Shared} {Pt : Addr} {u : HO} (B : BtB X.mg X.base) (I : Inv X pins σ H s) (hP : H Pt = some u) : s.heap.BuiltinsAt X.mg Pt := by
  obtain ⟨bm, ob, h1, h2, h3, h4, h5, h6, h7⟩ := B.ex
  obtain ⟨k1, k2⟩ := I.bs bm ob h4
  exact ⟨bm, ob, h1, h2, h3, (fun z => by rw [z, hP] at k2; cases k2), k1, h5, h6, h7⟩
/-- the reading of a function's making: its code object is found in the table at Pt, or new -/
def tMk (Pt : Addr) (nm : Str) (mk : Addr → Addr → HO) (κ : Addr → Hp → Prop) (H : Hp) : Prop := ∃ ps : Array Value, H Pt = some (.tbl ps) ∧ TriplesOk ps.toList ∧ (∀ (pos : Pos) (cv : Value), codeAmong pos ps.toList = some cv → ∃ c, cv = .ref c ∧ H c = some (CodeO c nm)) ∧
  (∀ f c', H f = none → (∃ pos, codeAmong pos ps.toList = some (.ref c')) → κ f (upd H f (mk f c'))) ∧
  ∀ f c' (ps' : Array Value), H f = none → H c' = none → f ≠ c' → TriplesOk ps'.toList → (∀ (pos : Pos) (cv : Value), codeAmong pos ps'.toList = some cv → codeAmong pos ps.toList = some cv ∨ cv = .ref c') → κ f (upd (upd (upd H Pt (.tbl ps')) c' (CodeO c' nm)) f (mk f c'))
theorem fnd_ext {P : Program} {w : World} {H : Hp} {h : Heap} {f : Addr} {o : Obj} {φ : Heap → Prop} (e : h.get? f = some o) (p : φ h) (st : ∀ h1 h2 : Heap, φ h1 → (∀ o, h1.get? f = some o → h2.get? f = some o) → φ h2) : ObjOk P w H h f (.ext φ) := ⟨p, ⟨o, e⟩, st⟩
theorem lmO_new {P : Program} {w : World} {H : Hp} {h : Heap} {f : Addr} {F : NF} {body : Expr} {pm ctv : Value} (e : h.get? f = some { cls := .type "function", data := .func (PySem.W.kla_fn F.name F.qual F.params body F.scope F.cl pm (.ref F.c) ctv) }) : ObjOk P w H h f (LmO f F body) :=
  fnd_ext e ⟨_, _, pm, ctv, e⟩ fun h1 h2 ⟨od, sl, p, t, z⟩ st => ⟨od, sl, p, t, st _ z⟩
section
variable {X : Cx} {c Pt : Addr} {params : Arguments} {body : Expr} {scope : Scope} {pos : Pos}
theorem pe_lam (hh : PySem.W.codeHdIn X.K c Pt = true) (gP : mainGlobals ≠ Pt) (bt : BtB X.mg X.base) (hcode : X.env.code = .ref c) (hdef : defaultsOf params X.env = ([], []))
    (hfree : ∀ y ∈ scope.names, y.2 = .free → X.env.scope.names.lookup y.1 = some .cell ∨ X.env.scope.names.lookup y.1 = some .free) :
    PE X (.Lambda params body scope pos) fun σ H Q => tMk Pt (X.env.qual ++ "<lambda>") (fun f c' => LmO f ⟨"<lambda>", X.env.qual ++ "<lambda>", params, [], scope, cloFrom X.env.cells scope.names [], c'⟩ body) (fun f H' => Q (.ref f) H') H := by
  refine ⟨fun pins s σ H Q I h => ?_⟩
  obtain ⟨ps, hP, ht, ha, hit, miss⟩ := h
  refine PySem.W.kla_eval hdef ?_
  have bP := bt.at_ I hP
  have hP' : s.heap.get? Pt = some { cls := .none, data := .fields ps } := I.hok Pt _ hP
  have CH := PySem.W.codeHd_of_K I.kIn hh
  have hfr : ∀ y ∈ scope.names, y.2 = .free → ∃ c, X.env.cells.lookup y.1 = some c := fun y hy e => (hfree y hy e).elim (fun z => I.ok.has _ (.inl z)) fun z => I.ok.has _ (.inr z)
  cases hc : codeAmong pos ps.toList with
  | none =>
    refine PySem.W.kla_makeFunction (mg := X.mg) (closure_ok hfr) I.ok.glob (I.mod.glob.keeps I.bk) hcode CH hP' ht hc gP bP fun c' ctv h' tk hx hge hlt hrec htb => ?_
    obtain ⟨c2, oc, vs, t, e2, hoc, hd, hv⟩ := hrec
    cases e2
    have nC : H c' = none := I.hok.fresh hge
    have I1 := inv_table (t' := tk) (more := #[rawInt pos.line, rawInt pos.col, .ref c']) (h' := h') I hP (fun b o hb e => hx b o hb e) htb hge ⟨oc, vs, t, hoc, hd, hv⟩
    have eL : (ps ++ #[rawInt pos.line, rawInt pos.col, .ref c']).toList = ps.toList ++ [rawInt pos.line, rawInt pos.col, .ref c'] := by simp
    have I2 := I1.laid (t' := tk) (a := h'.objs.size) (o := LmO h'.objs.size ⟨"<lambda>", X.env.qual ++ "<lambda>", params, [], scope, cloFrom X.env.cells scope.names [], c'⟩ body) (h' := h'.push (PySem.W.kla_obj "<lambda>" (X.env.qual ++ "<lambda>") params body scope (cloFrom X.env.cells scope.names []) ((X.mg "__name__").getD .none) c' ctv))
      (fun b u e => Heap.get?_push_of_some _ e) (Nat.le_refl _) (lmO_new (Heap.get?_push_size _ rfl))
    refine ⟨.ref h'.objs.size, _, I2, rfl, miss h'.objs.size c' _ (I.hok.fresh (Nat.le_trans hge (Nat.le_of_lt hlt))) nC (Nat.ne_of_gt hlt) (by rw [eL]; exact PySem.TriplesOk_snoc _ _ _ _ ht) fun p' cv hcv => ?_⟩
    rw [eL] at hcv
    rcases among_app2 _ ht hcv with z | ⟨z, _, _⟩
    · exact .inl z
    · exact .inr z
  | some cv =>
    obtain ⟨c', e, hco⟩ := ha pos cv hc
    subst e
    refine PySem.W.kla_makeFunctionHit (mg := X.mg) (closure_ok hfr) I.ok.glob (I.mod.glob.keeps I.bk) hcode CH hP' ht hc bP fun ctv h' tk hx hsz => ?_
    have I1 : Inv X pins σ H { s with heap := h', toks := tk } := I.kept hx
    have I2 := I1.laid (t' := tk) (a := h'.objs.size) (o := LmO h'.objs.size ⟨"<lambda>", X.env.qual ++ "<lambda>", params, [], scope, cloFrom X.env.cells scope.names [], c'⟩ body) (h' := h'.push (PySem.W.kla_obj "<lambda>" (X.env.qual ++ "<lambda>") params body scope (cloFrom X.env.cells scope.names []) ((X.mg "__name__").getD .none) c' ctv))
      (fun b u e => Heap.get?_push_of_some _ e) (Nat.le_refl _) (lmO_new (Heap.get?_push_size _ rfl))
    exact ⟨.ref h'.objs.size, _, I2, rfl, hit h'.objs.size c' (I1.hok.fresh (Nat.le_refl _)) ⟨pos, hc⟩⟩
theorem ps_mkdef {name : Str} {fbody : List Stmt} {i : Nat} (hh : PySem.W.codeHdIn X.K c Pt = true) (gP : mainGlobals ≠ Pt) (bt : BtB X.mg X.base) (hcode : X.env.code = .ref c) (hd0 : params.defaults = []) (hk0 : params.kw_defaults = []) (han : annTrees params none X.env = [])
    (hfree : ∀ y ∈ scope.names, y.2 = .free → X.env.scope.names.lookup y.1 = some .cell ∨ X.env.scope.names.lookup y.1 = some .free) (hN : X.N.Nodup) (hi : X.N[i]? = some name) (hx : Loc X.env.scope name) (hf : X.fn name = true ∨ X.env.scope.names.lookup name = some .local) :
    PS X (.FunctionDef name params fbody [] none [] scope none name pos) fun D σ H => tMk Pt (X.env.qual ++ name) (fun f c' => FnO f ⟨name, X.env.qual ++ name, params, fbody, scope, cloFrom X.env.cells scope.names [], c'⟩) (fun f H' => D.nx (σ.set i (some (.ref f))) H') H := by
  refine ⟨fun pins s σ H D I h => ?_⟩
  obtain ⟨ps, hP, ht, ha, hit, miss⟩ := h
  have hq : qualnameIn X.env name name = X.env.qual ++ name := by
    have hk : X.env.kindOf name = some .local ∨ X.env.kindOf name = some .cell := hx
    unfold qualnameIn
    rcases hk with k | k <;> rw [k] <;> first | rfl | exact if_neg (by decide)
  refine PySem.W.nestDef_K hd0 hk0 han ?_
  rw [hq]
  have bP := bt.at_ I hP
  have hP' : s.heap.get? Pt = some { cls := .none, data := .fields ps } := I.hok Pt _ hP
  have CH := PySem.W.codeHd_of_K I.kIn hh
  have hfr : ∀ y ∈ scope.names, y.2 = .free → ∃ c, X.env.cells.lookup y.1 = some c := fun y hy e => (hfree y hy e).elim (fun z => I.ok.has _ (.inl z)) fun z => I.ok.has _ (.inr z)
  cases hc : codeAmong pos ps.toList with
  | none =>
    refine PySem.W.makeFunction_K (mg := X.mg) (c := c) (P := Pt) (ps := ps) (closure_ok hfr) I.ok.glob (I.mod.glob.keeps I.bk) hcode CH hP' ht hc gP bP fun c' ctv doc h' tk hx' hge hlt hrec htb => ?_
    obtain ⟨c2, oc, vs, t, e2, hoc, hd, hv⟩ := hrec
    cases e2
    have nC : H c' = none := I.hok.fresh hge
    have I1 := inv_table (t' := tk) (more := #[rawInt pos.line, rawInt pos.col, .ref c']) (h' := h') I hP (fun b o hb e => hx' b o hb e) htb hge ⟨oc, vs, t, hoc, hd, hv⟩
    have eL : (ps ++ #[rawInt pos.line, rawInt pos.col, .ref c']).toList = ps.toList ++ [rawInt pos.line, rawInt pos.col, .ref c'] := by simp
    have I2 := inv_fn (F := ⟨name, X.env.qual ++ name, params, fbody, scope, cloFrom X.env.cells scope.names [], c'⟩) (t' := tk) (doc := doc) (pm := (X.mg "__name__").getD .none) (ctv := ctv) I1 rfl
    refine store_ok I2 hN hi hx (v := .ref h'.objs.size) rfl (fun s'' J => ⟨_, _, J, miss h'.objs.size c' _ (I.hok.fresh (Nat.le_trans hge (Nat.le_of_lt hlt))) nC (Nat.ne_of_gt hlt) (by rw [eL]; exact PySem.TriplesOk_snoc _ _ _ _ ht) fun p' cv hcv => ?_⟩) hf
    rw [eL] at hcv
    rcases among_app2 _ ht hcv with z | ⟨z, _, _⟩
    · exact .inl z
    · exact .inr z
  | some cv =>
    obtain ⟨c', e, hco⟩ := ha pos cv hc
    subst e
    refine PySem.W.makeFunction_hit (mg := X.mg) (c := c) (P := Pt) (ps := ps) (closure_ok hfr) I.ok.glob (I.mod.glob.keeps I.bk) hcode CH hP' ht hc bP fun ctv doc h' tk hx' hsz => ?_
    have I1 : Inv X pins σ H { s with heap := h', toks := tk } := I.kept hx'
    have I2 := inv_fn (F := ⟨name, X.env.qual ++ name, params, fbody, scope, cloFrom X.env.cells scope.names [], c'⟩) (t' := tk) (doc := doc) (pm := (X.mg "__name__").getD .none) (ctv := ctv) I1 rfl
    exact store_ok I2 hN hi hx (v := .ref h'.objs.size) rfl (fun s'' J => ⟨_, _, J, hit h'.objs.size c' (I1.hok.fresh (Nat.le_refl _)) ⟨pos, hc⟩⟩) hf
end
end DL
set_option Elab.async false
set_option linter.all false
set_option maxRecDepth 100000
set_option maxHeartbeats 4000000
namespace DL
open PySem PySem.Spec PyProof.Rows L2 NdefX LamX
/-! ### functions are made: by data -/
/-- the store has the table at Pt -/
def μTab (μ : Mu) (Pt : Addr) (nm : Str) : Prop := ∃ j : Nat, μ[j]? = some (Cell.tab Pt nm)
theorem upd_comm {H : Hp} {a b : Addr} {o u : HO} (h : a ≠ b) : upd (upd H a o) b u = upd (upd H b u) a o := by
  funext x
  by_cases e1 : x = a
  · subst e1
    rw [upd_ne h, upd_same, upd_same]
  · by_cases e2 : x = b
    · subst e2
      rw [upd_same, upd_ne e1, upd_same]
    · rw [upd_ne e2, upd_ne e1, upd_ne e1, upd_ne e2]
theorem mk_ok {K : PySem.W.Frag} {s0 s : Wd} {N0 : Nat} {μ : Mu} {Pt : Addr} {nm : Str} {mk : Addr → Addr → HO} {κ : Addr → Hp → Prop} (R : Rep K s μ) (x : Ext s0 N0 s μ.length) (hT : μTab μ Pt nm)
    (h : ∀ (s' : Wd) (f c' : Addr), Rep K s' μ → Ext s0 N0 s' μ.length → s'.F f = some (mk f c') → s'.F c' = some (CodeO c' nm) → κ f s'.H) : tMk Pt nm mk κ s.H := by
  obtain ⟨j, hj⟩ := hT
  obtain ⟨hL, hf, ps, h1, h2, h3⟩ := R.cell j _ hj
  have hlt := (List.getElem?_eq_some_iff.mp hj).1
  subst hL
  refine ⟨ps, h1, h2, fun pos cv e => let ⟨c, e1, e2⟩ := h3 pos cv e; ⟨c, e1, R.sub _ _ e2⟩, fun f c' n1 ⟨pos, hc⟩ => ?_, fun f c' ps' n1 n2 ne ht hm => ?_⟩
  · have Rf := R.putF (o := mk f c') n1
    refine h _ f c' Rf (x.putF R n1) upd_same ?_
    obtain ⟨c, e1, e2⟩ := h3 pos _ hc
    cases e1
    show upd s.F f (mk f c') c' = _
    rw [upd_ne (ne_of_none e2 (R.notF n1))]
    exact e2
  · have R1 := R.putF (o := CodeO c' nm) n2
    have x1 := x.putF (o := CodeO c' nm) R n2
    have nPc : s.L j ≠ c' := fun z => by rw [z, n2] at h1; cases h1
    have kF : Same s.F (upd s.F c' (CodeO c' nm)) := fun a u q => by rw [upd_ne (ne_of_none q (R.notF n2))]; exact q
    have hf1 : upd s.F c' (CodeO c' nm) (s.L j) = none := (upd_ne nPc).trans hf
    obtain ⟨R2, x2⟩ := mut_g (c' := .tab (s.L j) nm) (o := .tbl ps') R1 x1 hlt hf1 ⟨rfl, hf1, ps', upd_same, ht, fun pos cv e => (hm pos cv e).elim (fun z => let ⟨c, e1, e2⟩ := h3 pos cv z; ⟨c, e1, kF _ _ e2⟩) fun z => ⟨c', z, upd_same⟩⟩ (fun t z => by cases z)
    have em : μ.set j (.tab (s.L j) nm) = μ := by
      apply List.ext_getElem?
      intro i
      by_cases hi : j = i
      · subst hi; rw [List.getElem?_set_self hlt]; exact hj.symm
      · rw [List.getElem?_set_ne hi]
    rw [em] at R2 x2
    have n3 : upd (upd s.H c' (CodeO c' nm)) (s.L j) (.tbl ps') f = none := by
      rw [upd_ne (fun z => by rw [← z, n1] at h1; cases h1), upd_ne ne]
      exact n1
    have R3 := R2.putF (o := mk f c') n3
    have x3 := x2.putF (o := mk f c') R2 n3
    have fin := h _ f c' R3 x3 upd_same (by
      show upd (upd s.F c' (CodeO c' nm)) f (mk f c') c' = _
      rw [upd_ne ne.symm, upd_same])
    have e : upd (upd (upd s.H c' (CodeO c' nm)) (s.L j) (.tbl ps')) f (mk f c') = upd (upd (upd s.H (s.L j) (.tbl ps')) c' (CodeO c' nm)) f (mk f c') := by rw [upd_comm nPc.symm]
    rw [← e]
    exact fin
/-- some slots' values -/
def evK (o : Option (Option EV)) (κ : EV → Prop) : Prop := match o with
  | some (some e) => κ e
  | _ => False
theorem evK_s {e : EV} {κ : EV → Prop} : evK (some (some e)) κ = κ e := Eq.trans rfl rfl
def capK (η : DEnv) : List Nat → (List EV → Prop) → Prop
  | [], κ => κ []
  | j :: js, κ => evK η[j]? fun e => capK η js fun es => κ (e :: es)
theorem capK_nil {η : DEnv} {κ : List EV → Prop} : capK η [] κ = κ [] := by unfold capK; rfl
theorem capK_cons {η : DEnv} {j : Nat} {js : List Nat} {κ : List EV → Prop} : capK η (j :: js) κ = evK η[j]? fun e => capK η js fun es => κ (e :: es) := by rw [capK]
theorem evK_ex {o : Option (Option EV)} {κ : EV → Prop} (h : evK o κ) : ∃ e, o = some (some e) ∧ κ e := by
  unfold evK at h
  split at h
  · exact ⟨_, rfl, h⟩
  · exact h.elim
theorem capK_ex {η : DEnv} : ∀ {js : List Nat} {κ : List EV → Prop}, capK η js κ → ∃ cs, cs.length = js.length ∧ κ cs
  | [], κ, h => ⟨[], rfl, by rw [capK_nil] at h; exact h⟩
  | j :: js, κ, h => by
    rw [capK_cons] at h
    obtain ⟨e, _, h⟩ := evK_ex h
    obtain ⟨cs, h1, h2⟩ := capK_ex h
    exact ⟨e :: cs, by simp [h1], h2⟩
/-- captured as such, or functions that may need some -/
def CapA (P : Program) (w : World) (mg : Str → Option Value) (base : Heap) (cs cs' : List EV) (N2 : Need) : Prop := (N2 = nT ∧ cs' = cs ∧ ∀ e ∈ cs, CapP P w mg base e) ∨ CapsF P w mg base cs cs' N2
theorem capA_len {P : Program} {w : World} {mg : Str → Option Value} {base : Heap} {cs cs' : List EV} {N2 : Need} (h : CapA P w mg base cs cs' N2) : cs'.length = cs.length := by
  rcases h with ⟨_, rfl, _⟩ | h
  · rfl
  · exact h.len
theorem clo_any {P : Program} {w : World} {K : PySem.W.Frag} {mg : Str → Option Value} {base : Heap} {fr : List Str} {F : NF} {f : Addr} {k : Nat} {u : HO} {cs cs' : List EV} {g : PyData → Option Int} {N2 : Need} (run : CRun P w K mg base (L2.CX P w) k f u F fr (spB K cs' g)) (hu : FnH u f)
    (dom : ∀ y a, F.cl.lookup y = some a → y ∈ fr) (inj : ∀ x y a, F.cl.lookup x = some a → F.cl.lookup y = some a → x = y) (l1 : cs.length = fr.length) (hA : CapA P w mg base cs cs' N2) {F0 : Hp} (hf : F0 f = some u) (hc : F0 F.c = some (CodeO F.c F.qual)) : Runs P w K mg base (nA (capsN F.cl fr cs) N2) k g f F0 := by
  rcases hA with ⟨rfl, rfl, _⟩ | h
  · exact clo_plain run hu dom inj l1 hf hc
  · exact clo_fns run hu dom inj l1 h hf hc
/-- the reading of a function's making, its body told by B: B cs' g -/
def mkK (P : Program) (w : World) (mg : Str → Option Value) (base : Heap) (Pt : Addr) (nm : Str) (cl : List (Str × Addr)) (fr : List Str) (js : List Nat) (k : Nat) (B : List EV → (PyData → Option Int) → Prop) (η : DEnv) (μ : Mu) (κ : EV → Prop) : Prop :=
  μTab μ Pt nm ∧ capK η js fun cs => ∃ cs' N2 g, CapA P w mg base cs cs' N2 ∧ B cs' g ∧ κ (.per (wP P w mg base (nA (capsN cl fr cs) N2) k g))
theorem clo_dom {cells : List (Str × Addr)} {scope : Scope} {N ps fr : List Str} (S : NScope N ps fr scope) : ∀ y a, (cloFrom cells scope.names []).lookup y = some a → y ∈ fr := fun y a e => by
  rcases cloFrom_mem (PySem.mem_of_lookup e) with h | ⟨h, _⟩
  · cases h
  · exact S.free _ h rfl
theorem clo_inj {X : Cx} {scope : Scope} (ok : X.Ok) (hfree : ∀ y ∈ scope.names, y.2 = .free → X.env.scope.names.lookup y.1 = some .cell ∨ X.env.scope.names.lookup y.1 = some .free) : ∀ x y a, (cloFrom X.env.cells scope.names []).lookup x = some a → (cloFrom X.env.cells scope.names []).lookup y = some a → x = y := fun x y a e1 e2 => by
  have hf : ∀ y ∈ scope.names, y.2 = .free → ∃ c, X.env.cells.lookup y.1 = some c := fun y hy e => (hfree y hy e).elim (fun z => ok.has _ (.inl z)) fun z => ok.has _ (.inr z)
  exact ok.inj x y a (clo_cm hf e1) (clo_cm hf e2)
theorem pe_ok {X : Cx} {e : Expr} {t : TE} (h : PE X e t) : PE X e fun σ H Q => X.Ok → t σ H Q := ⟨fun pins s σ H Q I q => h.run pins s σ H Q I (q I.ok)⟩
theorem ps_ok {X : Cx} {st : Stmt} {t : TS} (h : PS X st t) : PS X st fun D σ H => X.Ok → t D σ H := ⟨fun pins s σ H D I q => h.run pins s σ H D I (q I.ok)⟩
section
variable {X : Cx} {W : WX} {c Pt : Addr} {params : Arguments} {body : Expr} {scope : Scope} {pos : Pos} {nm x : Str} {fr N : List Str} {js : List Nat} {j : Nat} {B : Nat → List EV → (PyData → Option Int) → Prop} {cells : List (Str × Addr)}
/-- a lambda -/
def dLam (P : Program) (w : World) (mg : Str → Option Value) (base : Heap) (Pt : Addr) (nm : Str) (cl : List (Str × Addr)) (fr : List Str) (js : List Nat) (B : Nat → List EV → (PyData → Option Int) → Prop) : TDE := fun η μ q E => ∃ k, mkK P w mg base Pt nm cl fr js (k + 1) (B k) η μ fun e => q e μ
theorem de_lam {P : Program} {w : World} {mg : Str → Option Value} {base : Heap} (hX : X.prog = P ∧ X.w = w ∧ X.mg = mg ∧ X.base = base) (hh : PySem.W.codeHdIn X.K c Pt = true) (gP : mainGlobals ≠ Pt) (bt : BtB X.mg X.base) (hcode : X.env.code = .ref c) (hce : X.env.cells = cells) (hdef : defaultsOf params X.env = ([], [])) (hnm : X.env.qual ++ "<lambda>" = nm)
    (hb : ndefB X.env.scope scope fr = true) (S : NScope N [x] fr scope) (hl : js.length = fr.length)
    (hbd : ∀ (q : Str) (cl : List (Str × Addr)) (c' : Addr) (pm ctv u : Value), bindArgs (PySem.W.kla_fn "<lambda>" q params body scope cl pm (.ref c') ctv) ⟨[u], []⟩ = pure [(x, u)])
    (hbody : ∀ (k : Nat) (cs' : List EV) (g : PyData → Option Int), B k cs' g → ∃ te : TDE, (∀ (q : Str) (cl : List (Str × Addr)) (c' : Addr) (f : Addr) (A : Around) (outer : List Env) (s : Shared) (H : Hp) (E : XK), Room k (A.deeper (envF ⟨"<lambda>", q, params, [], scope, cl, c'⟩ f s.heap.objs.size)) →
        Takes (ncx (L2.CX X.prog X.w) X.prog X.w X.K X.mg X.base N ⟨"<lambda>", q, params, [], scope, cl, c'⟩ f A outer s H E) (fun cls d _ H => E cls d H) → DE (ncx (L2.CX X.prog X.w) X.prog X.w X.K X.mg X.base N ⟨"<lambda>", q, params, [], scope, cl, c'⟩ f A outer s H E) (fun cls d _ H => E cls d H) body te) ∧
      ∀ d r, g d = some r → te (startW N.length d cs') [] (intQ r) fun _ _ => False) :
    DE X W (.Lambda params body scope pos) (dLam P w mg base Pt nm (cloFrom cells scope.names []) fr js B) := by
  obtain ⟨rfl, rfl, rfl, rfl⟩ := hX
  subst hce hnm
  have hfree := ndef_free hb
  refine de_pe (pe_ok (pe_lam hh gP bt hcode hdef hfree)) fun s σ η μ Q q E S0 hq l lx ok => ?_
  obtain ⟨k, hT, hq⟩ := hq
  obtain ⟨cs, hcl, cs', N2, g, hA, hB, hq⟩ := capK_ex hq
  refine mk_ok S0.rep (Ext.refl _ _) hT fun s' f c' R x' hf hc => ?_
  let F : NF := ⟨"<lambda>", X.env.qual ++ "<lambda>", params, [], scope, cloFrom X.env.cells scope.names [], c'⟩
  have l1 : cs.length = fr.length := hcl.trans hl
  obtain ⟨te, hte, hB⟩ := hbody k cs' g hB
  have run : CRun X.prog X.w X.K X.mg X.base (L2.CX X.prog X.w) (k + 1) f (LmO f F body) F fr (spB X.K cs' g) :=
    crun_lam S (fun pm ctv u => hbd _ _ _ pm ctv u) ((capA_len hA).trans l1) (fun A outer s H E room tk => hte _ _ _ f A outer s H E room tk) hB
  have rr := clo_any run lmO_h (clo_dom S) (clo_inj ok hfree) l1 hA (F0 := s'.F) hf hc
  exact l _ μ (.ref f) s' hq x' R ⟨f, rfl, ⟨_, hf, lmO_h⟩, rr⟩ trivial
/-- a def within a def -/
def sMkd (P : Program) (w : World) (mg : Str → Option Value) (base : Heap) (Pt : Addr) (nm : Str) (cl : List (Str × Addr)) (fr : List Str) (js : List Nat) (i : Nat) (B : Nat → List EV → (PyData → Option Int) → Prop) : TDS := fun d E η μ => ∃ k, mkK P w mg base Pt nm cl fr js (k + 1) (B k) η μ fun e => d.nx (η.set i (some e)) μ
theorem ds_mkdef {P : Program} {w : World} {mg : Str → Option Value} {base : Heap} {name : Str} {fbody : List Stmt} {i : Nat} (hX : X.prog = P ∧ X.w = w ∧ X.mg = mg ∧ X.base = base) (hh : PySem.W.codeHdIn X.K c Pt = true) (gP : mainGlobals ≠ Pt) (bt : BtB X.mg X.base) (hcode : X.env.code = .ref c) (hce : X.env.cells = cells) (hd0 : params.defaults = []) (hk0 : params.kw_defaults = []) (han : annTrees params none X.env = [])
    (hnm : X.env.qual ++ name = nm) (hN : X.N.Nodup) (hi : X.N[i]? = some name) (hx : Loc X.env.scope name) (hf : X.fn name = true ∨ X.env.scope.names.lookup name = some .local)
    (hb : ndefB X.env.scope scope fr = true) (S : NScope N [x] fr scope) (hl : js.length = fr.length)
    (hbd : ∀ (q : Str) (cl : List (Str × Addr)) (c' : Addr) (doc pm ctv u : Value), bindArgs ((⟨name, q, params, fbody, scope, cl, c'⟩ : NF).fd doc pm ctv) ⟨[u], []⟩ = pure [(x, u)])
    (hbody : ∀ (k : Nat) (cs' : List EV) (g : PyData → Option Int), B k cs' g → ∃ td : TDS, (∀ (q : Str) (cl : List (Str × Addr)) (c' : Addr) (f : Addr) (A : Around) (outer : List Env) (s : Shared) (H : Hp) (E : XK), Room k (A.deeper (envF ⟨name, q, params, fbody, scope, cl, c'⟩ f s.heap.objs.size)) →
        Takes (ncx (L2.CX X.prog X.w) X.prog X.w X.K X.mg X.base N ⟨name, q, params, fbody, scope, cl, c'⟩ f A outer s H E) (fun cls d _ H => E cls d H) →
        PassesOwn (model X.prog X.w) (A.deeper (envF ⟨name, q, params, fbody, scope, cl, c'⟩ f s.heap.objs.size)) (envF ⟨name, q, params, fbody, scope, cl, c'⟩ f s.heap.objs.size) (ncx (L2.CX X.prog X.w) X.prog X.w X.K X.mg X.base N ⟨name, q, params, fbody, scope, cl, c'⟩ f A outer s H E).xe →
        DSs (ncx (L2.CX X.prog X.w) X.prog X.w X.K X.mg X.base N ⟨name, q, params, fbody, scope, cl, c'⟩ f A outer s H E) (fun cls d _ H => E cls d H) fbody td) ∧
      ∀ d r, g d = some r → td { nx := fun _ _ => False, rt := intQ r } (fun _ _ => False) (startW N.length d cs') []) :
    DS X W (.FunctionDef name params fbody [] none [] scope none name pos) (sMkd P w mg base Pt nm (cloFrom cells scope.names []) fr js i B) := by
  obtain ⟨rfl, rfl, rfl, rfl⟩ := hX
  subst hce hnm
  have hfree := ndef_free hb
  refine ⟨_, ps_ok (ps_mkdef hh gP bt hcode hd0 hk0 han hfree hN hi hx hf), fun s σ η μ D d E S0 hq l ok => ?_⟩
  obtain ⟨k, hT, hq⟩ := hq
  obtain ⟨cs, hcl, cs', N2, g, hA, hB, hq⟩ := capK_ex hq
  refine mk_ok S0.rep (Ext.refl _ _) hT fun s' f c' R x' hfF hc => ?_
  let F : NF := ⟨name, X.env.qual ++ name, params, fbody, scope, cloFrom X.env.cells scope.names [], c'⟩
  have l1 : cs.length = fr.length := hcl.trans hl
  obtain ⟨td, htd, hB⟩ := hbody k cs' g hB
  have run : CRun X.prog X.w X.K X.mg X.base (L2.CX X.prog X.w) (k + 1) f (FnO f F) F fr (spB X.K cs' g) :=
    crun_def S (fun doc pm ctv u => hbd _ _ _ doc pm ctv u) ((capA_len hA).trans l1) (fun A outer s H E room tk po => htd _ _ _ f A outer s H E room tk po) hB
  have rr := clo_any run fnO_h (clo_dom S) (clo_inj ok hfree) l1 hA (F0 := s'.F) hfF hc
  exact l.nx _ μ _ s' hq x' ⟨R, (S0.er.ext x').set i ⟨f, rfl, ⟨_, hfF, fnO_h⟩, rr⟩⟩
end
/-! where a made function's words stand -/
def noE : Expr := .Constant .none 0 ⟨0, 0, 0, 0⟩
def pSt (i : Nat) (l : List Stmt) : Stmt := l.getD i (.Pass ⟨0, 0, 0, 0⟩)
def pRet : Stmt → Expr
  | .Return (some e) _ => e
  | _ => noE
def pAsg : Stmt → Expr
  | .Assign _ e _ => e
  | _ => noE
def pIf : Stmt → List Stmt
  | .If _ b _ _ => b
  | _ => []
def pArg (i : Nat) : Expr → Expr
  | .Call _ as _ _ => as.getD i noE
  | _ => noE
def lamA : Expr → Arguments
  | .Lambda p _ _ _ => p
  | _ => ⟨[], [], none, [], [], none, []⟩
def lamE : Expr → Expr
  | .Lambda _ b _ _ => b
  | _ => noE
def lamS : Expr → Scope
  | .Lambda _ _ s _ => s
  | _ => defScope (.Pass ⟨0, 0, 0, 0⟩)
def fnAr : Stmt → Arguments
  | .FunctionDef _ p _ _ _ _ _ _ _ _ => p
  | _ => ⟨[], [], none, [], [], none, []⟩
def fnBo : Stmt → List Stmt
  | .FunctionDef _ _ b _ _ _ _ _ _ _ => b
  | _ => []
def fnSc : Stmt → Scope
  | .FunctionDef _ _ _ _ _ _ s _ _ _ => s
  | _ => defScope (.Pass ⟨0, 0, 0, 0⟩)
end DL
set_option Elab.async false
set_option linter.all false
set_option maxRecDepth 100000
set_option maxHeartbeats 4000000
namespace DL
open PySem PySem.Spec PyProof.Rows L2 NdefX LamX
/-! ### defs that hand out functions which they made -/
/-- a body whose last statement tells a value: told with the slots -/
structure PSR (X : Cx) (st : List Stmt) (T : (V → L2.St → Hp → Prop) → L2.St → Hp → Prop) : Prop where
  run : ∀ (pins : List (Addr × Obj)) (s : Shared) (σ : L2.St) (H : Hp) (R : V → L2.St → Hp → Prop), Inv X pins σ H s → T R σ H →
    wpAny (model X.prog X.w) X.A (execs st X.env) (fun fl s' => ∃ u v σ' H', fl = .ret u ∧ Inv X pins σ' H' s' ∧ RelV v u ∧ R v σ' H') X.xe s
section
variable {X : Cx} {e : Expr} {te : TE} {pos : Pos} {st : Stmt} {rest : List Stmt} {t : TS} {T : (V → L2.St → Hp → Prop) → L2.St → Hp → Prop}
theorem psr_ret (he : PE X e te) : PSR X [.Return (some e) pos] fun R σ H => te σ H fun v H1 => R v σ H1 :=
  ⟨fun pins s σ H R I h => wpAny_execs_cons (wpAny_Return_some (thn (he.run pins s σ H _ I h) fun u s1 ⟨v, H1, I1, r1, q1⟩ => ⟨u, v, σ, H1, rfl, I1, r1, q1⟩))⟩
theorem psr_cons (h1 : PS X st t) (h2 : PSR X rest T) : PSR X (st :: rest) fun R σ H => t { nx := T R, rt := fun _ _ => False } σ H := by
  refine ⟨fun pins s σ H R I h => wpAny_execs_cons (thn (h1.run pins s σ H { nx := T R, rt := fun _ _ => False } I h) fun fl s1 q => ?_)⟩
  cases fl with
  | next => exact let ⟨σ', H', I', q⟩ := q; h2.run pins s1 σ' H' R I' q
  | ret u => exact let ⟨_, _, _, _, _, q⟩ := q; q.elim
  | brk => exact let ⟨_, _, _, q⟩ := q; q.elim
  | cont => exact let ⟨_, _, _, q⟩ := q; q.elim
end
abbrev RQ := EV → DEnv → Mu → Prop
abbrev TDR := RQ → XQ → DEnv → Mu → Prop
def LR (K : PySem.W.Frag) (s : Wd) (N : Nat) (r : RQ) (R : V → L2.St → Hp → Prop) : Prop := ∀ (e : EV) (η' : DEnv) (μ' : Mu) (v : V) (σ' : L2.St) (s' : Wd), r e η' μ' → Ext s N s' μ'.length → Sit K s' μ' σ' η' → VR K s' μ'.length v e → Frsh s.H v e → R v σ' s'.H
structure DSR (X : Cx) (W : WX) (st : List Stmt) (td : TDR) : Prop where
  ex : ∃ T, PSR X st T ∧ ∀ (s : Wd) (σ : L2.St) (η : DEnv) (μ : Mu) (R : V → L2.St → Hp → Prop) (r : RQ) (E : XQ), Sit X.K s μ σ η → td r E η μ → LR X.K s μ.length r R → (∀ σ, LX X.K s μ.length σ E W) → T R σ s.H
def rRet (te : TDE) : TDR := fun r E η μ => te η μ (fun e μ1 => r e η μ1) E
def rSeq (td : TDS) (tr : TDR) : TDR := fun r E η μ => td { nx := tr r E, rt := fun _ _ => False } E η μ
section
variable {X : Cx} {W : WX} {e : Expr} {te : TDE} {pos : Pos} {st : Stmt} {rest : List Stmt} {td : TDS} {tr : TDR}
theorem dsr_ret (he : DE X W e te) : DSR X W [.Return (some e) pos] (rRet te) := by
  obtain ⟨t1, p1, g1⟩ := he.ex
  exact ⟨_, psr_ret p1, fun s σ η μ R r E S hq l lx => g1 s σ η μ _ _ E S hq (fun ev μ1 v s1 hk x R1 r1 f1 => l ev η μ1 v σ s1 hk x (S.go x R1) r1 f1) (lx σ)⟩
theorem dsr_cons (h1 : DS X W st td) (h2 : DSR X W rest tr) : DSR X W (st :: rest) (rSeq td tr) := by
  obtain ⟨t1, p1, g1⟩ := h1.ex
  obtain ⟨t2, p2, g2⟩ := h2.ex
  refine ⟨_, psr_cons p1 p2, fun s σ η μ R r E S hq l lx => g1 s σ η μ _ _ E S hq ⟨fun η' μ' σ' s' q x S' => ?_, fun _ _ _ _ z => z.elim, fun _ _ _ _ z => z.elim, fun _ _ _ _ z => z.elim, fun y μ' cls dd σ' s' q x' R' r => lx σ' y μ' cls dd s' q x' R' r⟩⟩
  exact g2 s' σ' η' μ' R r E S' q (fun ev η2 μ2 v σ2 s2 q2 x2 S2 r2 f2 => l ev η2 μ2 v σ2 s2 q2 (x.trans x2 fun n hn => S'.rep.here hn) S2 r2 (f2.back (K := X.K) x fun n hn => S'.rep.here hn)) fun σ3 => (lx σ3).go x S'.rep
end
/-! ### the cells become known -/
section
variable {K : PySem.W.Frag} {s0 s : Wd} {N0 N : Nat} {μ : Mu} {C : CMap}
theorem CellAt.lay {a : Addr} {c : Cell} (h : CellAt K s a c) (sub : Same s.F s.H) (hn : ∀ a u, C a = some u → s.H a = none) : CellAt K { s with H := layC s.H C, F := layC s.F C } a c := by
  have nF : ∀ a u, C a = some u → s.F a = none := fun a u e => by
    cases q : s.F a with
    | none => rfl
    | some o => exact absurd (sub a o q) (by rw [hn a u e]; simp)
  have hH := same_lay hn
  have hF := same_lay nF
  have ca : C a = none := by
    cases q : C a with
    | none => rfl
    | some u => exact absurd (hn a u q) (h.here sub)
  have at_ : layC s.F C a = s.F a := layC_n ca
  cases c with
  | lst xs => obtain ⟨h1, vs, h2, h3⟩ := h; exact ⟨at_.trans h1, vs, hH _ _ h2, h3.mono hF⟩
  | frz xs => obtain ⟨vs, h2, h3⟩ := h; exact ⟨vs, hF _ _ h2, h3.mono hF⟩
  | dct kvs => obtain ⟨h1, ks, h2, h3, h4⟩ := h; exact ⟨at_.trans h1, ks, hH _ _ h2, h3, h4.mono hF⟩
  | dck kvs => obtain ⟨h1, ks, h2, h3, h4⟩ := h; exact ⟨at_.trans h1, ks, hH _ _ h2, h3, h4.mono hF⟩
  | abs P => obtain ⟨xs, hP, h1, vs, h2, h3⟩ := h; exact ⟨xs, hP, at_.trans h1, vs, hH _ _ h2, h3.mono hF⟩
  | tab P nm => exact ⟨h.1, h.2.to hF (at_.trans h.2.nf) fun _ z => hH _ _ z⟩
  | own t => exact fun z => h (by rw [← layC_n (H := s.H) ca]; exact z)
  | dead => exact fun z => h (by rw [← layC_n (H := s.H) ca]; exact z)
theorem Rep.noF (R : Rep K s μ) (hn : ∀ a u, C a = some u → s.H a = none) : ∀ a u, C a = some u → s.F a = none := fun a u e => by
  cases q : s.F a with
  | none => rfl
  | some o => exact absurd (R.sub a o q) (by rw [hn a u e]; simp)
theorem keeps_lay {F H : Hp} {a : Addr} (h : C a = none) : Keeps F H (layC F C) (layC H C) a := ⟨layC_n h, fun z _ => (layC_n h).trans z⟩
theorem Rep.lay (R : Rep K s μ) (hn : ∀ a u, C a = some u → s.H a = none) : Rep K { s with H := layC s.H C, F := layC s.F C } μ := by
  have nF := R.noF hn
  have nC : ∀ {a : Addr}, s.H a ≠ none → C a = none := fun {a} h => by
    cases q : C a with
    | none => rfl
    | some u => exact absurd (hn a u q) h
  refine R.of rfl (fun a u q => ?_) (fun n c q => (R.cell n c q).lay R.sub hn) (fun a h => by rw [layC_n (nC h)]; exact h) (R.beside (same_lay nF) fun n a h1 h2 => keeps_lay (nC (R.live n a h1 h2)))
  have q : layC s.F C a = some u := q
  show layC s.H C a = some u
  cases e : C a with
  | none => rw [layC_n e] at q ⊢; exact R.sub a u q
  | some z => rw [layC_s e] at q ⊢; exact q
theorem Ext.lay (x : Ext s0 N0 s N) (sub : Same s.F s.H) (hn : ∀ a u, C a = some u → s.H a = none) : Ext s0 N0 { s with H := layC s.H C, F := layC s.F C } N := by
  have nF : ∀ a u, C a = some u → s.F a = none := fun a u e => by
    cases q : s.F a with
    | none => rfl
    | some o => exact absurd (sub a o q) (by rw [hn a u e]; simp)
  have nC : ∀ {a : Addr}, s.H a ≠ none → C a = none := fun {a} h => by
    cases q : C a with
    | none => rfl
    | some u => exact absurd (hn a u q) h
  refine ⟨fun a o z => same_lay nF a o (x.f a o z), x.l, x.le, fun a o h1 h2 => same_lay hn a o (x.keep a o h1 h2), fun a h1 h2 h3 h4 => ?_, x.lnew, x.onew, fun a h => ?_⟩
  · show layC s.F C a = none
    rw [layC_n (nC (x.alive a h3))]
    exact x.fnew a h1 h2 h3 h4
  · show layC s.H C a ≠ none
    rw [layC_n (nC (x.alive a h))]
    exact x.alive a h
end
/-- what stands in a name's slot -/
def slotIs (N : List Str) (η : DEnv) (y : Str) (e : EV) : Prop := ∃ j : Nat, N[j]? = some y ∧ η[j]? = some (some e)
/-- needs that the frame's own cells fulfil -/
inductive Done (sc : Scope) (cells : List (Str × Addr)) (N : List Str) (η : DEnv) : Need → Prop
  | T : Done sc cells N η nT
  | A {a b : Need} : Done sc cells N η a → Done sc cells N η b → Done sc cells N η (nA a b)
  | caps {scope : Scope} {fr : List Str} {cs : List EV} : ndefB sc scope fr = true → (∀ e ∈ cs, (∃ d, e = .dat d) ∨ ∃ c, e = .per c) → (∀ (i : Nat) (y : Str) (e : EV), fr[i]? = some y → cs[i]? = some e → slotIs N η y e) → Done sc cells N η (capsN (cloFrom cells scope.names []) fr cs)
/-- what is left of a need -/
inductive Left (D : Need → Prop) : Need → Need → Prop
  | all {N : Need} : D N → Left D N nT
  | right {a b : Need} : D a → Left D (nA a b) b
mutual
inductive DisT (P : Program) (w : World) (mg : Str → Option Value) (base : Heap) (D : Need → Prop) : Tree → Tree → Prop
  | dat (d : PyData) : DisT P w mg base D (.dat d) (.dat d)
  | fn {N N' : Need} {k : Nat} {g : PyData → Option Int} : Left D N N' → DisT P w mg base D (.per (wP P w mg base N k g)) (.per (wP P w mg base N' k g))
  | nod {k : Knd} {b : Addr} {ts ts' : List Tree} : DisTs P w mg base D ts ts' → DisT P w mg base D (.nod k b ts) (.nod k b ts')
inductive DisTs (P : Program) (w : World) (mg : Str → Option Value) (base : Heap) (D : Need → Prop) : List Tree → List Tree → Prop
  | nil : DisTs P w mg base D [] []
  | cons {t t' : Tree} {ts ts' : List Tree} : DisT P w mg base D t t' → DisTs P w mg base D ts ts' → DisTs P w mg base D (t :: ts) (t' :: ts')
end
/-- what is told, with the needs that are fulfilled -/
inductive Dis (P : Program) (w : World) (mg : Str → Option Value) (base : Heap) (D : Need → Prop) : EV → EV → Prop
  | dat (d : PyData) : Dis P w mg base D (.dat d) (.dat d)
  | fn {N N' : Need} {k : Nat} {g : PyData → Option Int} : Left D N N' → Dis P w mg base D (.per (wP P w mg base N k g)) (.per (wP P w mg base N' k g))
  | newo {t t' : Tree} : DisT P w mg base D t t' → Dis P w mg base D (.newo t) (.newo t')
section
variable {P : Program} {w : World} {mg : Str → Option Value} {base : Heap} {D : Need → Prop} {K : PySem.W.Frag} {F H F' H' : Hp}
mutual
theorem DisT.addrs_eq : ∀ {t t' : Tree}, DisT P w mg base D t t' → addrs t' = addrs t
  | _, _, .dat _ => rfl
  | _, _, .fn _ => by rw [addrs_per, addrs_per]
  | _, _, .nod h => by rw [addrs_nod, addrs_nod, DisTs.addrs_eq h]
theorem DisTs.addrs_eq : ∀ {ts ts' : List Tree}, DisTs P w mg base D ts ts' → addrsL ts' = addrsL ts
  | _, _, .nil => rfl
  | _, _, .cons h hs => by rw [addrsL_cons, addrsL_cons, DisT.addrs_eq h, DisTs.addrs_eq hs]
end
theorem left_ok (hD : ∀ N, D N → N.ψ K F') (e : Same F F') {N N' : Need} {k : Nat} {g : PyData → Option Int} {v : V} (h : Left D N N') (p : (wP P w mg base N k g).φ K F v) : (wP P w mg base N' k g).φ K F' v := by
  refine wP_act ((wP P w mg base N k g).mono e p) fun F2 e2 n => ?_
  cases h with
  | all h => exact N.mono e2 (hD _ h)
  | right h => exact ⟨Need.mono _ e2 (hD _ h), n⟩
mutual
theorem DisT.ok (hD : ∀ N, D N → N.ψ K F') (e : Same F F') : ∀ {t t' : Tree} {v : V}, DisT P w mg base D t t' → TreeR K F H v t → (∀ a ∈ addrs t, Keeps F H F' H' a) → TreeR K F' H' v t'
  | _, _, _, .dat _, .dat h, _ => .dat (h.mono e)
  | _, _, _, .fn l, .per h, _ => .per (left_ok hD e l h)
  | _, _, _, .nod (k := k) (b := b) hs, r, q => by
    have q0 := q b (by rw [addrs_nod]; exact List.mem_cons_self)
    cases r with
    | nod h1 h2 h3 =>
      refine .nod (h1.congr q0.1) ?_ (DisTs.ok hD e hs h3 fun a ha => q a (by rw [addrs_nod]; exact List.mem_cons_of_mem _ ha))
      rcases h2 with h2 | h2
      · exact .inl h2
      · cases k with
        | tup => exact .inl trivial
        | lst => exact .inr (q0.2 h2 fun ws z => by rw [show H b = some (.lst _) from h1] at z; cases z)
        | dck ks => exact .inr (q0.2 h2 fun ws z => by rw [h1.1] at z; cases z)
        | dct ks => exact .inr (q0.2 h2 fun ws z => by rw [h1.1] at z; cases z)
        | ins C fs => exact .inr (q0.2 h2 fun ws z => by obtain ⟨dx, h1, _⟩ := h1; rw [h1] at z; cases z)
        | gho => exact .inr (q0.2 h2 fun ws z => by obtain ⟨o, g1, g2⟩ := h1; rw [g1] at z; cases z; exact g2 _ rfl)
theorem DisTs.ok (hD : ∀ N, D N → N.ψ K F') (e : Same F F') : ∀ {ts ts' : List Tree} {vs : List V}, DisTs P w mg base D ts ts' → TreesR K F H vs ts → (∀ a ∈ addrsL ts, Keeps F H F' H' a) → TreesR K F' H' vs ts'
  | _, _, _, .nil, .nil, _ => .nil
  | _, _, _, .cons h hs, .cons r rs, q => .cons (DisT.ok hD e h r fun a ha => q a (by rw [addrsL_cons]; exact List.mem_append_left _ ha)) (DisTs.ok hD e hs rs fun a ha => q a (by rw [addrsL_cons]; exact List.mem_append_right _ ha))
end
theorem Dis.ok {s : Wd} {N : Nat} {C : CMap} {v : V} {y y' : EV} (hD : ∀ N, D N → N.ψ K (layC s.F C)) (nF : ∀ a u, C a = some u → s.F a = none) (hn : ∀ a u, C a = some u → s.H a = none) (h : Dis P w mg base D y y') (r : VR K s N v y) : VR K { s with H := layC s.H C, F := layC s.F C } N v y' := by
  cases h with
  | dat d => exact DR.mono (same_lay nF) r
  | fn l => exact left_ok hD (same_lay nF) l r
  | newo h =>
    obtain ⟨r1, r2, r3, r4⟩ := r
    refine ⟨by rw [h.addrs_eq]; exact r1, h.ok hD (same_lay nF) r2 fun a ha => keeps_lay ?_, by rw [h.addrs_eq]; exact r3, by rw [h.addrs_eq]; exact r4⟩
    cases q : C a with
    | none => rfl
    | some u => exact absurd (hn a u q) (r2.live a ha)
theorem Dis.frsh {H0 : Hp} {v : V} {y y' : EV} (h : Dis P w mg base D y y') (f : Frsh H0 v y) : Frsh H0 v y' := by
  cases h with
  | dat d => trivial
  | fn l => trivial
  | newo h => intro a ha; rw [h.addrs_eq] at ha; exact f a ha
end
end DL
set_option Elab.async false
set_option linter.all false
set_option maxRecDepth 100000
set_option maxHeartbeats 4000000
namespace DL
open PySem PySem.Spec PyProof.Rows L2 NdefX LamX
/-! ### a def with cells, at its end -/
section
variable {X : Cx} {σ : L2.St} {H : Hp} {s : Shared}
/-- the cell at a: its object, its value -/
def Good (X : Cx) (σ : L2.St) (h : Heap) (a : Addr) (o : Obj) (v : V) : Prop := ∃ (y : Str) (j : Nat) (x : Value), X.env.cells.lookup y = some a ∧ X.N[j]? = some y ∧ σ[j]? = some (some v) ∧ h.get? a = some o ∧ RelV v x ∧ o.data = .cell (some x)
open Classical in
noncomputable def ownC (X : Cx) (σ : L2.St) (h : Heap) : CMap := fun a => if q : ∃ o v, Good X σ h a o v then some (CelO q.choose q.choose_spec.choose) else none
theorem nodup_ix {α : Type} {l : List α} (h : l.Nodup) {i j : Nat} {x : α} (h1 : l[i]? = some x) (h2 : l[j]? = some x) : i = j := by
  obtain ⟨a1, a2⟩ := List.getElem?_eq_some_iff.mp h1
  obtain ⟨b1, b2⟩ := List.getElem?_eq_some_iff.mp h2
  rcases Nat.lt_trichotomy i j with z | z | z
  · exact absurd (a2.trans b2.symm) (List.pairwise_iff_getElem.mp h i j a1 b1 z)
  · exact z
  · exact absurd (b2.trans a2.symm) (List.pairwise_iff_getElem.mp h j i b1 a1 z)
theorem good_one (ok : X.Ok) (nd : X.N.Nodup) {h : Heap} {a : Addr} {o o' : Obj} {v v' : V} (g : Good X σ h a o v) (g' : Good X σ h a o' v') : o' = o ∧ v' = v := by
  obtain ⟨y, j, x, a1, a2, a3, a4, a5, a6⟩ := g
  obtain ⟨y', j', x', b1, b2, b3, b4, b5, b6⟩ := g'
  cases ok.inj _ _ _ a1 b1
  cases nodup_ix nd a2 b2
  rw [a3] at b3
  rw [a4] at b4
  cases b3
  cases b4
  exact ⟨rfl, rfl⟩
theorem ownC_good (ok : X.Ok) (nd : X.N.Nodup) {h : Heap} {a : Addr} {o : Obj} {v : V} (g : Good X σ h a o v) : ownC X σ h a = some (CelO o v) := by
  unfold ownC
  have q : ∃ o v, Good X σ h a o v := ⟨o, v, g⟩
  rw [dif_pos q]
  obtain ⟨e1, e2⟩ := good_one ok nd g q.choose_spec.choose_spec
  exact congrArg some (congr (congrArg CelO e1) e2)
theorem ownC_ex {h : Heap} {a : Addr} {u : HO} (e : ownC X σ h a = some u) : ∃ o v, u = CelO o v ∧ Good X σ h a o v := by
  unfold ownC at e
  split at e
  · rename_i q
    cases e
    exact ⟨_, _, rfl, q.choose_spec.choose_spec⟩
  · cases e
theorem ownC_cels {h : Heap} : Cels (ownC X σ h) h := fun a u e => by
  obtain ⟨o, v, rfl, y, j, x, _, _, _, h1, h2, h3⟩ := ownC_ex e
  exact ⟨o, v, rfl, h1, x, h2, h3⟩
theorem vr_capE {K : PySem.W.Frag} {s : Wd} {N : Nat} {v : V} {e : EV} (h : VR K s N v e) (q : (∃ d, e = .dat d) ∨ ∃ c, e = .per c) : capV K s.F v e := by
  rcases q with ⟨d, rfl⟩ | ⟨c, rfl⟩ <;> exact h
/-- the frame's own cells fulfil what is said of them -/
theorem done_ok {pins : List (Addr × Obj)} {s1 : Wd} {μ : Mu} {η : DEnv} (J : Inv X pins σ s1.H s) (nd : X.N.Nodup) (R : Rep X.K s1 μ) (er : ER X.K s1 μ.length σ η) : ∀ N, Done X.env.scope X.env.cells X.N η N → N.ψ X.K (layC s1.F (ownC X σ s.heap)) := by
  have hn : ∀ a u, ownC X σ s.heap a = some u → s1.H a = none := fun a u e => by
    obtain ⟨o, v, rfl, y, j, x, h1, _⟩ := ownC_ex e
    exact J.freeC y a h1
  have nF := R.noF hn
  intro N h
  induction h with
  | T => trivial
  | A _ _ i1 i2 => exact ⟨i1, i2⟩
  | @caps scope fr cs hb hk hs =>
    have hfree := ndef_free hb
    have hfr : ∀ y ∈ scope.names, y.2 = .free → ∃ c, X.env.cells.lookup y.1 = some c := fun y hy e => (hfree y hy e).elim (fun z => J.ok.has _ (.inl z)) fun z => J.ok.has _ (.inr z)
    refine ⟨s1.F, same_lay nF, fun y a e => ?_, fun i y e e1 e2 => ?_⟩
    · have := J.freeC y a (clo_cm hfr e)
      cases q : s1.F a with
      | none => rfl
      | some o => exact absurd (R.sub a o q) (by rw [this]; simp)
    · obtain ⟨j, hj, he⟩ := hs i y e e1 e2
      obtain ⟨v, hv, rv⟩ := er.get j e he
      have hm := ndef_fr hb y (List.mem_of_getElem? e1)
      have kind := hfree _ hm rfl
      obtain ⟨a, ha⟩ := hfr _ hm rfl
      obtain ⟨m, _, hl⟩ := J.loc
      obtain ⟨u, ru, lk⟩ := hl j y v hj hv (kind.elim (fun z => .inr (.inl z)) fun z => .inr (.inr z))
      rcases lk with ⟨z, _⟩ | ⟨_, a', ha', o, ho, hd⟩
      · have z' : X.env.scope.names.lookup y = some .local := z
        rcases kind with k | k <;> rw [show X.env.scope.names.lookup y = _ from k] at z' <;> cases z'
      · have ha : X.env.cells.lookup y = some a := ha
        rw [ha] at ha'
        cases ha'
        exact ⟨a, o, v, clo_has hfr hm ha, layC_s (ownC_good J.ok nd ⟨y, j, u, ha, hj, hv, ho, ru, hd⟩), ⟨u, ru, hd⟩, vr_capE rv (hk e (List.mem_of_getElem? e2))⟩
end
/-- what goes out: own cells of the store are forgotten, the frame's cells are known -/
def exitC (P : Program) (w : World) (mg : Str → Option Value) (base : Heap) (sc : Scope) (cells : List (Str × Addr)) (Ns : List Str) (N : Nat) (q : PQ) : RQ := fun e η μ => exitQ N (fun e1 μ1 => ∃ e2, Dis P w mg base (Done sc cells Ns η) e1 e2 ∧ q e2 μ1) e μ
/-- a def's object, its code object's address told -/
structure FunC (K : PySem.W.Frag) (x qual : Str) (st : Stmt) (f : Addr) (fd : FuncData) (c : Addr) : Prop where
  ex : ∃ (oc : Value) (od : Option Addr) (kV doc pm : Value) (an : Option Addr) (ct : Value) (osl : Array (Option Value)),
    fd = PySem.W.fnOf x qual (defArgs st) (defBody st) (defScope st) .none kV doc pm an (.ref c) ct ∧ K.lookup f = some ⟨oc, od, .func fd, osl⟩ ∧ PySem.W.codeIn K (.ref c) qual = true
theorem funC_mk {K : PySem.W.Frag} {x qual : Str} {st : Stmt} {f c : Addr} {oc : Value} {od an : Option Addr} {osl : Array (Option Value)} {kV doc pm ct : Value} (l : K.lookup f = some ⟨oc, od, .func (PySem.W.fnOf x qual (defArgs st) (defBody st) (defScope st) .none kV doc pm an (.ref c) ct), osl⟩)
    (h : PySem.W.codeIn K (.ref c) qual = true) : FunC K x qual st f (PySem.W.fnOf x qual (defArgs st) (defBody st) (defScope st) .none kV doc pm an (.ref c) ct) c := ⟨oc, od, kV, doc, pm, an, ct, osl, rfl, l, h⟩
section
variable {P : Program} {w : World} {K : PySem.W.Frag} {mg : Str → Option Value} {base : Heap}
theorem fd_ofC {x qual : Str} {st : Stmt} {f c : Addr} {fd : FuncData} {N ps : List Str} {k : Nat} {sp : SpD} (F : FunC K x qual st f fd c) (S : FnScope N ps (defScope st))
    (main : ∀ (cells : List (Str × Addr)), ∃ td : TDR, (∀ (A : Around) (outer : List Env) (s : Shared) (H : Hp) (E : XK), Room k (A.deeper (envOfC qual (defScope st) s.heap.objs.size f (.ref c))) → (cxOf (L2.CX P w) P w K mg base N qual (defScope st) f (.ref c) A outer s H E).env.cells = cells →
      Takes (cxOf (L2.CX P w) P w K mg base N qual (defScope st) f (.ref c) A outer s H E) (fun cls d _ H => E cls d H) →
      PassesOwn (model P w) (A.deeper (envOfC qual (defScope st) s.heap.objs.size f (.ref c))) (envOfC qual (defScope st) s.heap.objs.size f (.ref c)) (cxOf (L2.CX P w) P w K mg base N qual (defScope st) f (.ref c) A outer s H E).xe →
      DSR (cxOf (L2.CX P w) P w K mg base N qual (defScope st) f (.ref c) A outer s H E) (fun cls d _ H => E cls d H) (defBody st) td) ∧
    ∀ (es : List EV) (μ : Mu) (q : PQ) (x : XQ), es.length = ps.length → sp es μ q x → td (exitC P w mg base (defScope st) cells N μ.length q) (fun y μ' => x y (μ'.take μ.length)) (startD N es) μ) :
    FnOk P w K mg base (L2.CX P w) (k + 1) f fd ps (spOf K ps.length sp) := by
  obtain ⟨oc, od, kV, doc, pm, an, ct, osl, rfl, lk, hcd⟩ := F.ex
  refine ⟨fun vs H Q E z => z.1, fun A outer sh H args us vs Q E room e0 bd rv want => ?_⟩
  have many : vs.length = ps.length := want.1
  have inK : K.In sh.heap := e0.mod.kin.keeps fun b o e => (e0.bs b o e).1
  have noLim : sh.heap.NoLimit := e0.mod.nolimit.keeps fun b o e => (e0.bs b o e).1
  have kinds : ∀ y ∈ ps.zip us, (defScope st).names.lookup y.1 = some .local ∨ ((defScope st).names.lookup y.1 = some .cell ∧ ((cellsFrom (sh.heap.objs.size + 1) (defScope st).names []).lookup y.1).isSome = true) := fun ⟨n, v⟩ hy =>
    (S.par n (List.of_mem_zip hy).1).imp id fun q => ⟨q, PySem.W.cellsFrom_some _ _ _ (.inl q)⟩
  refine codeAny_call_function room.depth (inK _ _ lk) rfl S.co S.gen rfl (PySem.W.codeRec_of inK hcd) (bd _ _ _ _ ?_)
  refine wpAny_newFunctionEnv_cells S.kind kinds fun env he s1 ic => ?_
  subst he
  refine ⟨noLim.keeps ic.toInCall.keep, codeAny_func ?_⟩
  obtain ⟨hl, s, μ, es, q, y, rfl, R, hv, hsp, l, lx⟩ := want
  have J0 : Inv (cxOf (L2.CX P w) P w K mg base N qual (defScope st) f (.ref c) A outer sh s.H E) [] (start N vs) s.H s1 := inv_start S room.hd e0 many rv ic
  obtain ⟨td, body, h⟩ := main (cellsFrom (sh.heap.objs.size + 1) (defScope st).names [])
  obtain ⟨T, pr, g⟩ := (body A outer sh s.H E (room.deeper _) rfl (takes_of rfl rfl rfl rfl) (passes_of rfl)).ex
  have hN : ∀ n, n < μ.length → s.H (s.L n) ≠ none := fun n hn => R.here hn
  have start := g s _ (startD N es) μ (fun v σ' H1 => ∀ (C : CMap), (∀ a u, C a = some u → H1 a = none) → (∀ (s' : Wd) (μ' : Mu) (η' : DEnv), s'.H = H1 → Rep K s' μ' → ER K s' μ'.length σ' η' → ∀ N', Done (defScope st) (cellsFrom (sh.heap.objs.size + 1) (defScope st).names []) N η' N' → N'.ψ K (layC s'.F C)) → Q v (layC H1 C)) _ _ ⟨R, er_start hv⟩ (h es μ q y (by rw [← hv.len]; exact hl) hsp)
    (fun e1 η' μ' v σ' s' hq x' S' r f => ?_) (fun σ z μ' cls dd s' hq x' R' r => ?_)
  · refine wpAny_mono (pr.run [] s1 _ s.H _ J0 start) (fun fl s' ⟨u, v, σ', H', e, J, ru, hR⟩ => ?_) fun e s' z => z
    subst e
    exact ce_end (C := ownC _ σ' s'.heap) J.os J.bare J.base e0.hok J.hok ru ownC_cels (fun a u e => by
        obtain ⟨o, v, rfl, y, j, x, h1, _⟩ := ownC_ex e
        exact J.freeC y a h1) (fun a u e => by
        obtain ⟨o, v, rfl, y, j, x, h1, _⟩ := ownC_ex e
        exact J.ok.cab y a rfl h1) (hR _ (fun a u e => by
        obtain ⟨o, v, rfl, y, j, x, h1, _⟩ := ownC_ex e
        exact J.freeC y a h1) fun s2 μ2 η2 eH R2 er2 N' hD => by
        subst eH
        exact done_ok J S.nd R2 er2 N' hD)
  · intro C hn hD
    refine exit_gen (κ := fun v s2 => s2 = s' → Q v (layC s'.H C)) (fun e μ2 v2 s2 ⟨e2, hd, hq2⟩ x2 R2 r2 f2 eH => ?_) hN e1 μ' v s' hq x' S'.rep r f rfl
    subst eH
    have nF2 := R2.noF hn
    exact l e2 μ2 v2 { s2 with H := layC s2.H C, F := layC s2.F C } hq2 (x2.lay R2.sub hn) (R2.lay hn) (hd.ok (fun N' hN' => hD s2 μ' η' rfl S'.rep S'.er N' hN') nF2 hn r2) (hd.frsh f2)
  · have e1 : (μ'.take μ.length).length = μ.length := by rw [List.length_take]; have := x'.le; omega
    exact lx z _ cls dd s' hq (by rw [e1]; exact x'.take (Nat.le_refl _) x'.le) (R'.take _) r
end
end DL
set_option Elab.async false
set_option linter.all false
set_option maxRecDepth 100000
set_option maxHeartbeats 4000000
namespace DL
open PySem PySem.Spec PyProof.Rows L2 NdefX LamX
/-! ### lists with functions in them; equations; a law's start with tables -/
section
variable {X : Cx} {W : WX} {e : Expr} {es : List Expr} {te : TDE} {t : TDA} {pos : Pos}
abbrev TDGe := List EV → DEnv → Mu → (DEnv → Mu → Prop) → Prop
structure DGe (X : Cx) (ts : List Expr) (is : List Nat) (td : TDGe) : Prop where
  ex : ∃ g : TGs, PGs X ts g ∧ ∀ (s : Wd) (σ : L2.St) (η : DEnv) (μ : Mu) (vs : List V) (es : List EV) (Q : L2.St → Hp → Prop) (q : DEnv → Mu → Prop), Sit X.K s μ σ η → VL X.K s μ.length vs es → td es η μ q → LGo X.K s μ.length is σ q Q → g vs σ s.H Q
def gNe : TDGe := fun es η μ q => es = [] ∧ q η μ
def gCe (t : TDG) (u : TDGe) : TDGe := fun es η μ q => match es with
  | e :: r => t e η μ fun η' μ' => u r η' μ' q
  | [] => False
theorem dge_nil : DGe X [] [] gNe := ⟨_, pgs_nil, fun s σ η μ vs ds Q q S r hq l => by
  obtain ⟨rfl, hq⟩ := hq
  cases r
  exact ⟨rfl, l η μ σ s hq (Ext.refl _ _) S (Only.refl σ)⟩⟩
theorem dge_cons {is js : List Nat} {t : TDG} {u : TDGe} (h1 : DG X e is t) (h2 : DGe X es js u) (hs : (assignEach (e :: es) X.env).map (·.2) = assign e X.env :: (assignEach es X.env).map (·.2) := by rfl) : DGe X (e :: es) (is ++ js) (gCe t u) := by
  obtain ⟨t1, p1, g1⟩ := h1.ex
  obtain ⟨t2, p2, g2⟩ := h2.ex
  refine ⟨_, pgs_cons p1 p2 hs, fun s σ η μ vs ds Q q S r hq l => ?_⟩
  cases r with
  | nil => exact hq.elim
  | cons r rr =>
    refine ⟨_, _, rfl, g1 s σ η μ _ _ _ _ S r hq fun η' μ' σ' s' hk x S' o => ?_⟩
    exact g2 s' σ' η' μ' _ _ Q q S' (rr.ext x) hk fun η2 μ2 σ2 s2 hk2 x2 S2 o2 => l η2 μ2 σ2 s2 hk2 (x.trans x2 fun n hn => S'.rep.here hn) S2 (o.trans o2)
/-- a leaf as a value -/
def leafK (t : Tree) (κ : EV → Prop) : Prop := match t with
  | .dat d => κ (.dat d)
  | .per c => κ (.per c)
  | _ => False
def leavesK : List Tree → (List EV → Prop) → Prop
  | [], κ => κ []
  | t :: ts, κ => leafK t fun e => leavesK ts fun es => κ (e :: es)
theorem leavesK_nil {κ : List EV → Prop} : leavesK [] κ = κ [] := by rw [leavesK]
theorem leavesK_cons {t : Tree} {ts : List Tree} {κ : List EV → Prop} : leavesK (t :: ts) κ = leafK t fun e => leavesK ts fun es => κ (e :: es) := by rw [leavesK]
theorem leafK_d {d : PyData} {κ : EV → Prop} : leafK (.dat d) κ = κ (.dat d) := Eq.trans rfl rfl
theorem leafK_p {c : Per} {κ : EV → Prop} : leafK (.per c) κ = κ (.per c) := Eq.trans rfl rfl
theorem leaves_ex {K : PySem.W.Frag} {s : Wd} {N : Nat} : ∀ {ts : List Tree} {vs : List V} {κ : List EV → Prop}, leavesK ts κ → TreesR K s.F s.H vs ts → ∃ es, VL K s N vs es ∧ κ es
  | [], _, κ, h, .nil => ⟨[], .nil, by rw [leavesK_nil] at h; exact h⟩
  | t :: ts, _, κ, h, .cons r rs => by
    rw [leavesK_cons] at h
    cases t with
    | dat d =>
      obtain ⟨es, h1, h2⟩ := leaves_ex (s := s) (N := N) h rs
      cases r with
      | dat r => exact ⟨_, .cons (e := .dat d) r h1, h2⟩
    | per c =>
      obtain ⟨es, h1, h2⟩ := leaves_ex (s := s) (N := N) h rs
      cases r with
      | per r => exact ⟨_, .cons (e := .per c) r h1, h2⟩
    | nod _ _ _ => exact h.elim
/-- a, b = a new list with functions in it -/
def gLt (n : Nat) (t : TDGe) : TDG := fun e η μ q => match e with
  | .newo (.nod .lst _ ts) => ts.length = n ∧ leavesK ts fun es => t es η μ q
  | _ => False
theorem gLt_n {n : Nat} {t : TDGe} {b : Addr} {ts : List Tree} {η : DEnv} {μ : Mu} {q : DEnv → Mu → Prop} : gLt n t (.newo (.nod .lst b ts)) η μ q = (ts.length = n ∧ leavesK ts fun es => t es η μ q) := Eq.trans rfl rfl
theorem gNe_nil {η : DEnv} {μ : Mu} {q : DEnv → Mu → Prop} : gNe [] η μ q = q η μ := propext ⟨fun h => h.2, fun h => ⟨rfl, h⟩⟩
theorem gCe_cons {t : TDG} {u : TDGe} {e : EV} {r : List EV} {η : DEnv} {μ : Mu} {q : DEnv → Mu → Prop} : gCe t u (e :: r) η μ q = t e η μ fun η' μ' => u r η' μ' q := Eq.trans rfl rfl
theorem dg_lstT {k : Nat} {is : List Nat} {t : TDGe} {n : Nat} (hc : X.calm = true) (h : DGe X es is t) (hn : (assignEach es X.env).length = n := by rfl) (hst : (assignEach es X.env).findIdx? (·.1) = none := by rfl) : DG X (.Tuple es k pos) is (gLt n t) := by
  obtain ⟨t1, p1, g1⟩ := h.ex
  refine ⟨_, pg_lst hc p1 hn hst, fun s σ η μ v e Q q S r hq l => ?_⟩
  unfold gLt at hq
  split at hq
  · rename_i b ts
    have hz := hq.1
    obtain ⟨_, r, _, _⟩ := r
    cases r with
    | nod h1 _ h3 =>
      obtain ⟨es, hv, hq⟩ := leaves_ex (s := s) (N := μ.length) hq.2 h3
      exact ⟨_, _, rfl, SqL.of h1, by rw [h3.length]; exact hz, g1 s σ η μ _ _ Q q S hv hq l⟩
  · exact hq.elim
/-- [e, ..], data and functions -/
def trK (e : EV) (κ : Tree → Prop) : Prop := match e with
  | .dat d => κ (.dat d)
  | .per c => κ (.per c)
  | _ => False
def trsK : List EV → (List Tree → Prop) → Prop
  | [], κ => κ []
  | e :: es, κ => trK e fun t => trsK es fun ts => κ (t :: ts)
theorem trsK_nil {κ : List Tree → Prop} : trsK [] κ = κ [] := by rw [trsK]
theorem trsK_cons {e : EV} {es : List EV} {κ : List Tree → Prop} : trsK (e :: es) κ = trK e fun t => trsK es fun ts => κ (t :: ts) := by rw [trsK]
theorem trK_d {d : PyData} {κ : Tree → Prop} : trK (.dat d) κ = κ (.dat d) := Eq.trans rfl rfl
theorem trK_p {c : Per} {κ : Tree → Prop} : trK (.per c) κ = κ (.per c) := Eq.trans rfl rfl
theorem trs_ex {K : PySem.W.Frag} {s : Wd} {N : Nat} {H0 : Hp} : ∀ {es : List EV} {vs : List V} {κ : List Tree → Prop}, trsK es κ → VRs K s N H0 vs es → ∃ ts, (∀ H, TreesR K s.F H vs ts) ∧ addrsL ts = [] ∧ κ ts
  | [], _, κ, h, .nil => ⟨[], fun _ => .nil, addrsL_nil, by rw [trsK_nil] at h; exact h⟩
  | e :: es, _, κ, h, .cons r _ rs => by
    rw [trsK_cons] at h
    unfold trK at h
    split at h
    · obtain ⟨ts, h1, h2, h3⟩ := trs_ex h rs
      exact ⟨_, fun H => .cons (.dat r) (h1 H), by rw [addrsL_cons, addrs_dat, h2]; rfl, h3⟩
    · obtain ⟨ts, h1, h2, h3⟩ := trs_ex h rs
      exact ⟨_, fun H => .cons (.per r) (h1 H), by rw [addrsL_cons, addrs_per, h2]; rfl, h3⟩
    · exact h.elim
def dLstT (t : TDA) : TDE := fun η μ q E => t η μ (fun es μ1 => es.length ≤ 100000 ∧ trsK es fun ts => ∀ a, q (.newo (.nod .lst a ts)) μ1) E
theorem x_dLstT {η : DEnv} {μ : Mu} {q : PQ} {E : XQ} : dLstT t η μ q E = t η μ (fun es μ1 => es.length ≤ 100000 ∧ trsK es fun ts => ∀ a, q (.newo (.nod .lst a ts)) μ1) E := Eq.trans rfl rfl
theorem de_lstT (h : DA X W es t) : DE X W (.List es pos) (dLstT t) := by
  obtain ⟨t1, p1, g1⟩ := h.ex
  refine de_pe (pe_lst p1) fun s σ η μ Q q E S hq l lx => g1 s σ η μ _ _ E S hq (fun es' μ1 vs s1 ⟨hz, hq1⟩ x1 R1 r1 => ?_) lx
  obtain ⟨ts, h1, h2, h3⟩ := trs_ex hq1 r1
  refine ⟨line_of (by rw [r1.len]; exact hz), fun p hp => ?_⟩
  have ad : ∀ a, a ∈ addrs (.nod .lst p ts) ↔ a = p := fun a => by rw [addrs_nod, h2, List.mem_singleton]
  exact l (.newo (.nod .lst p ts)) μ1 (.ref p) { s1 with H := upd s1.H p (.lst vs) } (h3 p) (x1.put R1 hp) (R1.put hp) ⟨⟨p, rfl, (ad p).mpr rfl⟩, .nod upd_same (.inr (R1.notF hp)) (h1 _), by rw [addrs_nod, h2]; simp, fun a ha => by rw [(ad a).mp ha]; exact R1.notL hp⟩
    (fun a ha => by rw [(ad a).mp ha]; exact x1.fresh R1 hp)
end
/-! equations -/
section
variable {P : Program} {w : World} {mg : Str → Option Value} {base : Heap} {η : DEnv} {μ ν : Mu} {q : PQ} {E : XQ} {N n : Nat}
theorem ex_per {c : Per} : DL.exitQ N q (.per c) μ = q (.per c) (μ.take N) := Eq.trans rfl rfl
theorem ex_newo {t : Tree} : DL.exitQ N q (.newo t) μ = q (.newo t) (μ.take N) := Eq.trans rfl rfl
theorem x_rRet {te : TDE} {r : RQ} : rRet te r E η μ = te η μ (fun e μ1 => r e η μ1) E := Eq.trans rfl rfl
theorem x_rSeq {td : TDS} {tr : TDR} {r : RQ} : rSeq td tr r E η μ = td { nx := tr r E, rt := fun _ _ => False } E η μ := Eq.trans rfl rfl
theorem x_exitC {sc : Scope} {cells : List (Str × Addr)} {Ns : List Str} {e : EV} : exitC P w mg base sc cells Ns N q e η μ = exitQ N (fun e1 μ1 => ∃ e2, Dis P w mg base (Done sc cells Ns η) e1 e2 ∧ q e2 μ1) e μ := Eq.trans rfl rfl
theorem x_dLam {Pt : Addr} {nm : Str} {cl : List (Str × Addr)} {fr : List Str} {js : List Nat} {B : Nat → List EV → (PyData → Option Int) → Prop} : dLam P w mg base Pt nm cl fr js B η μ q E = ∃ k, mkK P w mg base Pt nm cl fr js (k + 1) (B k) η μ fun e => q e μ := Eq.trans rfl rfl
theorem x_sMkd {Pt : Addr} {nm : Str} {cl : List (Str × Addr)} {fr : List Str} {js : List Nat} {i : Nat} {B : Nat → List EV → (PyData → Option Int) → Prop} {d : DEnds} : sMkd P w mg base Pt nm cl fr js i B d E η μ = ∃ k, mkK P w mg base Pt nm cl fr js (k + 1) (B k) η μ fun e => d.nx (η.set i (some e)) μ := Eq.trans rfl rfl
theorem x_mkK {Pt : Addr} {nm : Str} {cl : List (Str × Addr)} {fr : List Str} {js : List Nat} {k : Nat} {B : List EV → (PyData → Option Int) → Prop} {κ : EV → Prop} : mkK P w mg base Pt nm cl fr js k B η μ κ = (μTab μ Pt nm ∧ capK η js fun cs => ∃ cs' N2 g, CapA P w mg base cs cs' N2 ∧ B cs' g ∧ κ (.per (wP P w mg base (nA (capsN cl fr cs) N2) k g))) := Eq.trans rfl rfl
theorem μTab_h {Pt : Addr} {nm : Str} (h : μTab μ Pt nm) : μTab μ Pt nm = True := eq_true h
theorem μTab_app {Pt : Addr} {nm : Str} (h : μTab μ Pt nm) : μTab (μ ++ ν) Pt nm = True := eq_true (by
  obtain ⟨j, hj⟩ := h
  exact ⟨j, by rw [List.getElem?_append_left (List.getElem?_eq_some_iff.mp hj).1]; exact hj⟩)
theorem cl_per {N : Nat} {η : DEnv} {c : Per} : clean N (some (.per c) :: η) = some (.per c) :: clean N η := Eq.trans rfl rfl
theorem cl_at {N n : Nat} {η : DEnv} {p : List Nat} {b : Addr} : clean N (some (.at n p b) :: η) = some (.at n p b) :: clean N η := Eq.trans rfl rfl
theorem nN_per {c : Per} : noNew (.per c) = true := Eq.trans rfl rfl
theorem stl_per {c : Per} : stlK q (.per c) μ = q (.per c) μ := Eq.trans rfl rfl
end
section
variable {P : Program} {w : World} {K : PySem.W.Frag} {mg : Str → Option Value} {base : Heap}
/-- a def that hands out functions, with its contract -/
theorem def_okC {x qual : Str} {st : Stmt} {f c : Addr} {fd : FuncData} {N ps : List Str} {k : Nat} (sp : SpD) (F : FunC K x qual st f fd c) (S : FnScope N ps (defScope st)) (hm : mg x = some (.ref f)) (hb : Binds K fd ps []) (kp : PySem.W.keepIn K (.ref f) = true)
    (main : ∀ (cells : List (Str × Addr)), ∃ td : TDR, (∀ (A : Around) (outer : List Env) (s : Shared) (H : Hp) (E : XK), Room k (A.deeper (envOfC qual (defScope st) s.heap.objs.size f (.ref c))) → (cxOf (L2.CX P w) P w K mg base N qual (defScope st) f (.ref c) A outer s H E).env.cells = cells →
      Takes (cxOf (L2.CX P w) P w K mg base N qual (defScope st) f (.ref c) A outer s H E) (fun cls d _ H => E cls d H) →
      PassesOwn (model P w) (A.deeper (envOfC qual (defScope st) s.heap.objs.size f (.ref c))) (envOfC qual (defScope st) s.heap.objs.size f (.ref c)) (cxOf (L2.CX P w) P w K mg base N qual (defScope st) f (.ref c) A outer s H E).xe →
      DSR (cxOf (L2.CX P w) P w K mg base N qual (defScope st) f (.ref c) A outer s H E) (fun cls d _ H => E cls d H) (defBody st) td) ∧
    ∀ (es : List EV) (μ : Mu) (q : PQ) (x : XQ), es.length = ps.length → sp es μ q x → td (exitC P w mg base (defScope st) cells N μ.length q) (fun y μ' => x y (μ'.take μ.length)) (startD N es) μ) :
    DefAt P w K mg base x (k + 1) ps [] [] sp := ⟨⟨f, fd, fd_ofC F S main, hm, kp, hb⟩, .nil⟩
/-! a law's start -/
def tabsμ (T : List (Addr × Str)) : Mu := T.map fun p => .tab p.1 p.2
def spLawTD (T : List (Addr × Str)) : SpD := fun es μ q _ => ∃ ns : List Int, es = [.ro (ns.map .int)] ∧ ns.length ≤ 63 ∧ μ = tabsμ T ∧ ∀ μ', q (.dat (.bool true)) μ'
def spLawT (K : PySem.W.Frag) (T : List (Addr × Str)) : Sp := fun vs H Q _ => ∃ (a : Addr) (ns : List Int), vs = [.ref a] ∧ SqL K H a (ns.map V.int) ∧ ns.length ≤ 63 ∧ (∀ p ∈ T, H p.1 = some (.tbl #[])) ∧ ∀ H', Q (.bl true) H'
theorem law_spT {T : List (Addr × Str)} (nd : (T.map (·.1)).Nodup) {vs : List V} {H : Hp} {Q : VK} {E : XK} (h : spLawT K T vs H Q E) : spOf K 1 (spLawTD T) vs H Q E := by
  obtain ⟨a, ns, rfl, hs, hl, hT, k⟩ := h
  have len : (tabsμ T).length = T.length := by unfold tabsμ; rw [List.length_map]
  have atL : ∀ {n : Nat} {p : Addr × Str}, T[n]? = some p → (T.map (·.1)).getD n 0 = p.1 := fun {n p} e => by
    rw [List.getD_eq_getElem?_getD, List.getElem?_map, e]; rfl
  have noT : ∀ {b : Addr} {p : Addr × Str}, p ∈ T → ¬ (b = p.1 ∧ ∀ p ∈ T, b ≠ p.1) := fun {b p} hp ⟨z, n⟩ => n p hp z
  refine ⟨rfl, ⟨H, fun b => if b = a ∧ (∀ p ∈ T, b ≠ p.1) then H a else none, fun i => (T.map (·.1)).getD i 0, fun i b => i < T.length ∧ b = (T.map (·.1)).getD i 0⟩, tabsμ T, [.ro (ns.map .int)], fun e _ => e = .dat (.bool true), fun _ _ => False, rfl, ⟨fun b o q => ?_, fun n c q => ?_, fun m n b hm hn e1 e2 => ?_, fun n hn => ⟨by rw [← len]; exact hn, rfl⟩, fun n b hn ho => ?_, fun n t q => ?_⟩, .cons ⟨a, ns.map V.int, rfl, ?_, drs_ints ns⟩ .nil, ⟨ns, rfl, hl, rfl, fun _ => rfl⟩, fun e μ' v s' hq x R r f => ?_, fun _ _ _ _ _ z => z.elim⟩
  · have q' : (if b = a ∧ (∀ p ∈ T, b ≠ p.1) then H a else none) = some o := q
    split at q'
    · rename_i e
      rw [e.1]
      exact q'
    · cases q'
  · unfold tabsμ at q
    rw [List.getElem?_map] at q
    cases hp : T[n]? with
    | none => rw [hp] at q; cases q
    | some p =>
      rw [hp] at q
      cases q
      have pe := atL hp
      refine ⟨pe, ?_, #[], ?_, trivial, fun pos cv z => by simp [codeAmong] at z⟩
      · show (if _ ∧ _ then H a else none) = none
        rw [if_neg]
        intro z
        exact z.2 p (List.mem_of_getElem? hp) pe
      · exact (congrArg H pe).trans (hT p (List.mem_of_getElem? hp))
  · obtain ⟨h1, e1⟩ := e1
    obtain ⟨h2, e2⟩ := e2
    have z := e1.symm.trans e2
    obtain ⟨p1, q1⟩ : ∃ p, T[m]? = some p := ⟨T[m], List.getElem?_eq_getElem h1⟩
    obtain ⟨p2, q2⟩ : ∃ p, T[n]? = some p := ⟨T[n], List.getElem?_eq_getElem h2⟩
    rw [atL q1, atL q2] at z
    exact nodup_ix nd (x := p1.1) (by rw [List.getElem?_map, q1]; rfl) (by rw [List.getElem?_map, q2, z]; rfl)
  · obtain ⟨h1, rfl⟩ := ho
    obtain ⟨p1, q1⟩ : ∃ p, T[n]? = some p := ⟨T[n], List.getElem?_eq_getElem h1⟩
    show H _ ≠ none
    rw [atL q1, hT p1 (List.mem_of_getElem? q1)]
    simp
  · unfold tabsμ at q
    rw [List.getElem?_map] at q
    cases hp : T[n]? with
    | none => rw [hp] at q; cases q
    | some p => rw [hp] at q; cases q
  · by_cases aT : ∀ p ∈ T, a ≠ p.1
    · rcases hs with (h | ⟨o, h⟩) | h
      · exact .inl (.inl (show (if a = a ∧ _ then H a else none) = _ by rw [if_pos ⟨rfl, aT⟩]; exact h))
      · exact .inl (.inr ⟨o, show (if a = a ∧ _ then H a else none) = _ by rw [if_pos ⟨rfl, aT⟩]; exact h⟩)
      · exact .inr h
    · rcases hs with (h | ⟨o, h⟩) | h
      · exact absurd (fun p hp z => by rw [z, hT p hp] at h; cases h) aT
      · exact absurd (fun p hp z => by rw [z, hT p hp] at h; cases h) aT
      · exact .inr h
  · subst hq
    rw [vr_b r]
    exact k s'.H
theorem btb_of {mg : Str → Option Value} {base : Heap} {c Pt : Addr} (T : TabB base mg c Pt) : BtB mg base := by
  obtain ⟨bm, ob, h1, h2, h3, _, h4⟩ := T.bm
  exact ⟨⟨bm, ob, h1, h2, h3, h4⟩⟩
theorem walk_tab {l : PySem.W.OpenLaw} {n k : Nat} {q : Program} {loose : List Str} {XP : (Str → Option Value) → Heap → Prop} {YP : World → Heap → Prop} {d : DefRec} {K : Params → PySem.W.Frag} {x : Str} {ts : List Addr}
    (hn : l.most = some n) (hn2 : n ≤ sizeLine) (hdf : d.params.defaults = []) (room : Room k callerA) (hn63 : n = 63)
    (hY : ∀ (w : World) (h : Heap), YP w h → (K w.params).In h ∧ ∀ Pt ∈ ts, h.get? Pt = some { cls := .none, data := .fields #[] })
    (F : ∀ (w : World) (mg : Str → Option Value) (fa : Addr) (h : Heap), (K w.params).In h → h.Ns mainGlobals mg → mg d.name = some (.ref fa) →
      ∃ (fd : FuncData) (T : List (Addr × Str)) (cs : List (Addr × Addr)), cs ≠ [] ∧ (T.map (·.1)).Nodup ∧ (∀ p ∈ T, p.1 ∈ cs.map (·.2)) ∧ (∀ p ∈ cs, p.2 ∈ ts ∧ (K w.params).lookup p.2 = none ∧ PySem.W.codeHdIn (K w.params) p.1 p.2 = true) ∧ (∀ (s : Shared) (u : Value), BindsTo s fd ⟨[u], []⟩ [(x, u)]) ∧
        ∀ base : Heap, (K w.params).In base → base.Ns mainGlobals mg → BtB mg base → FnOk l.prog w (K w.params) mg base (L2.CX l.prog w) k fa fd [x] (spOf (K w.params) 1 (spLawTD T)))
    (hCX : ∀ (w : World) (H : Hp) (s : Shared) (e : Value) (s' : Shared), L2.CX l.prog w [] H s (fun _ _ _ => False) e s' → False) :
    PySem.W.WalkO q loose XP YP l.row.toRowW d [] (fun f vs => PySem.call f vs) := by
  refine Att.attach_call hn hdf fun w s₀ s₁ mg mb fa o pm cd doc a vs ns G Y ho hd hcd hmg hobj hints hlen hg => ?_
  obtain ⟨KX, tabs⟩ := hY w _ Y
  obtain ⟨fd, T, cs, hne, nd, hT, hcs, hb, hF⟩ := F w mg fa _ KX G.T.g hmg
  refine law_callTs (sp := spLawT (K w.params) T) KX G.T.g G.T.b G.T.builtins G.T.nolimit hg (fun p hp => tabs _ (hcs p hp).1) (fun p hp => (hcs p hp).2.1) (fun p hp => PySem.W.codeHd_of_K KX (hcs p hp).2.2) G.T.bmain hobj hints (Nat.le_trans hlen hn2) room (fun base b1 b2 TB => ?_) hb (fun H hH hS => ⟨a, ns, rfl, hS, by omega, fun p hp => ?_, fun _ => rfl⟩) fun H e s' => hCX w H s₁ e s'
  · obtain ⟨p, hp⟩ := List.exists_mem_of_ne_nil _ hne
    exact (hF base b1 b2 (btb_of (TB p hp))).imp fun vs H Q E z => law_spT nd z
  · obtain ⟨c, hc, e⟩ := List.mem_map.mp (hT p hp)
    rw [← e]
    exact hH c hc
end
end DL
set_option Elab.async false
set_option linter.all false
set_option maxRecDepth 100000
set_option maxHeartbeats 4000000
namespace DL
open PySem PySem.Spec PyProof.Rows L2 NdefX LamX
/-! ### a dict that is captured is locked for good -/
def lockC (η : DEnv) (μ : Mu) (i n : Nat) (c : Option Cell) (κ : DEnv → Mu → Prop) : Prop := match c with
  | some (.dct kvs) => κ (η.set i (some (.dat (.dict (kvT kvs))))) (μ.set n .dead)
  | _ => False
def lockE (η : DEnv) (μ : Mu) (i : Nat) (o : Option (Option EV)) (κ : DEnv → Mu → Prop) : Prop := match o with
  | some (some (.loc n)) => lockC η μ i n μ[n]? κ
  | some (some (.dat _)) => κ η μ
  | _ => False
theorem lockE_l {η : DEnv} {μ : Mu} {i n : Nat} {κ : DEnv → Mu → Prop} : lockE η μ i (some (some (.loc n))) κ = lockC η μ i n μ[n]? κ := Eq.trans rfl rfl
theorem lockC_d {η : DEnv} {μ : Mu} {i n : Nat} {kvs : List (List Key × PyData)} {κ : DEnv → Mu → Prop} : lockC η μ i n (some (.dct kvs)) κ = κ (η.set i (some (.dat (.dict (kvT kvs))))) (μ.set n .dead) := Eq.trans rfl rfl
def sLock (i : Nat) (td : TDS) : TDS := fun d E η μ => lockE η μ i η[i]? fun η' μ' => td d E η' μ'
theorem s_lock {i : Nat} {td : TDS} {d : DEnds} {E : XQ} {η : DEnv} {μ : Mu} (h : lockE η μ i η[i]? fun η' μ' => td d E η' μ') : sLock i td d E η μ := h
theorem q_lock {i : Nat} {td u : TDS} {d : DEnds} {E : XQ} {η : DEnv} {μ : Mu} (h : lockE η μ i η[i]? fun η' μ' => sSeq td u d E η' μ') : sSeq (sLock i td) u d E η μ := h
theorem ps_lk {X : Cx} {st : Stmt} {t : TS} (h : PS X st t) : PS X st fun D σ H => t D σ H ∨ ∃ d u, H d = some u ∧ Mut (some u) ∧ ∀ od, t D σ (upd H d (.frz od u)) := by
  refine ⟨fun pins s σ H D I q => ?_⟩
  rcases q with q | ⟨d, u, hd, mu, q⟩
  · exact h.run pins s σ H D I q
  · obtain ⟨od, I3⟩ := I.lock hd mu
    exact h.run pins s σ _ D I3 (q od)
theorem set_same {σ : L2.St} {i : Nat} {v : V} (h : σ[i]? = some (some v)) : σ.set i (some v) = σ := by
  apply List.ext_getElem?
  intro j
  by_cases e : i = j
  · subst e
    rw [List.getElem?_set_self (List.getElem?_eq_some_iff.mp h).1, h]
  · rw [List.getElem?_set_ne e]
theorem ds_lock {X : Cx} {W : WX} {st : Stmt} {td : TDS} (i : Nat) (h : DS X W st td) : DS X W st (sLock i td) := by
  obtain ⟨t, p, g⟩ := h.ex
  refine ⟨_, ps_lk p, fun s σ η μ D d E S hq l => ?_⟩
  unfold sLock lockE at hq
  split at hq
  · rename_i n hi
    unfold lockC at hq
    split at hq
    · rename_i kvs hn
      obtain ⟨v, hv, _, rfl⟩ := S.er.get i _ hi
      obtain ⟨hf, ks, h1, h4, h5⟩ := S.rep.cell n _ hn
      refine .inr ⟨s.L n, _, h1, trivial, fun od => ?_⟩
      obtain ⟨a1, a2, a3⟩ := lock_dead (o := .frz od (.dT ks)) S.rep (Ext.refl _ _) hn hf
      have er := (S.er.ext a2).set i (v := .ref (s.L n)) (e := .dat (.dict (kvT kvs))) (.dcT upd_same h4 (h5.mono a3) rfl)
      rw [set_same hv] at er
      exact g _ σ _ _ D d E ⟨a1, er⟩ hq (l.go a2 a1)
    · exact hq.elim
  · exact .inl (g s σ η μ D d E S hq l)
  · exact hq.elim
/-! captured names by their slots -/
inductive SlotsAre (N : List Str) (η : DEnv) : List Str → List EV → Prop
  | nil : SlotsAre N η [] []
  | cons {y : Str} {e : EV} {fr : List Str} {cs : List EV} (j : Nat) : N[j]? = some y → η[j]? = some (some e) → SlotsAre N η fr cs → SlotsAre N η (y :: fr) (e :: cs)
theorem SlotsAre.all {N : List Str} {η : DEnv} {fr : List Str} {cs : List EV} (h : SlotsAre N η fr cs) : ∀ (i : Nat) (y : Str) (e : EV), fr[i]? = some y → cs[i]? = some e → slotIs N η y e := by
  induction h with
  | nil => intro i y e h; simp at h
  | cons j h1 h2 _ ih =>
    intro i y e g1 g2
    cases i with
    | zero => simp at g1 g2; subst g1 g2; exact ⟨j, h1, h2⟩
    | succ i => exact ih i y e (by simpa using g1) (by simpa using g2)
section
variable {P : Program} {w : World} {mg : Str → Option Value} {base : Heap}
theorem capsP_nil : ∀ e ∈ ([] : List EV), CapP P w mg base e := fun e h => by cases h
theorem capsP_d {d : PyData} {cs : List EV} (h : ∀ e ∈ cs, CapP P w mg base e) : ∀ e ∈ EV.dat d :: cs, CapP P w mg base e := fun e he => by
  rcases List.mem_cons.mp he with rfl | he
  · exact .dat d
  · exact h e he
theorem capsP_w {k : Nat} {g : PyData → Option Int} {cs : List EV} (h : ∀ e ∈ cs, CapP P w mg base e) : ∀ e ∈ EV.per (wP P w mg base nT k g) :: cs, CapP P w mg base e := fun e he => by
  rcases List.mem_cons.mp he with rfl | he
  · exact .fn k g
  · exact h e he
theorem dpP {cs : List EV} (h : ∀ e ∈ cs, CapP P w mg base e) : ∀ e ∈ cs, (∃ d, e = .dat d) ∨ ∃ c, e = .per c := fun e he => by
  cases h e he with
  | dat d => exact .inl ⟨d, rfl⟩
  | fn k g => exact .inr ⟨_, rfl⟩
/-- data and functions that need nothing, all cells the frame's own: nothing is needed any more -/
theorem clo_done {sc scope : Scope} {cells : List (Str × Addr)} {N fr : List Str} {η : DEnv} {cs : List EV} {k : Nat} {B : List EV → (PyData → Option Int) → Prop} {g : PyData → Option Int} {q : PQ} {μ : Mu} (hp : ∀ e ∈ cs, CapP P w mg base e) (hB : B cs g) (hb : ndefB sc scope fr = true) (hs : SlotsAre N η fr cs) (hq : q (.per (wP P w mg base nT k g)) μ) :
    ∃ cs' N2 g, CapA P w mg base cs cs' N2 ∧ B cs' g ∧ ∃ e2, Dis P w mg base (Done sc cells N η) (.per (wP P w mg base (nA (capsN (cloFrom cells scope.names []) fr cs) N2) k g)) e2 ∧ q e2 μ :=
  ⟨cs, nT, g, .inl ⟨rfl, rfl, hp⟩, hB, _, .fn (.all (.A (.caps hb (dpP hp) hs.all) .T)), hq⟩
end
end DL
set_option Elab.async false
set_option linter.all false
set_option maxRecDepth 100000
set_option maxHeartbeats 4000000
namespace DL
open PySem PySem.Spec PyProof.Rows L2
/-! ### {k: v}, d.pop(k, x), d != {} of dicts that are trees -/
def disp1K (q : PQ) : EV → EV → Mu → Prop := fun x y μ2 => match x with
  | .dat (.int n) => treeK (fun t => ∀ a, q (.newo (.nod (.dck [.inl n]) a [t])) μ2) y
  | _ => False
def dDisp1 (tk tv : TDE) : TDE := fun η μ q E => tk η μ (fun x μ1 => tv η μ1 (fun y μ2 => disp1K q x y μ2) E) E
theorem x_dDisp1 {tk tv : TDE} {η : DEnv} {μ : Mu} {q : PQ} {E : XQ} : dDisp1 tk tv η μ q E = tk η μ (fun x μ1 => tv η μ1 (fun y μ2 => disp1K q x y μ2) E) E := Eq.trans rfl rfl
theorem disp1K_i {q : PQ} {n : Int} {y : EV} {μ : Mu} : disp1K q (.dat (.int n)) y μ = treeK (fun t => ∀ a, q (.newo (.nod (.dck [.inl n]) a [t])) μ) y := Eq.trans rfl rfl
theorem de_disp1 {X : Cx} {W : WX} {k v : Expr} {pos : Pos} {tk tv : TDE} (hk : DE X W k tk) (hv : DE X W v tv) : DE X W (.Dict [some k] [v] pos) (dDisp1 tk tv) := by
  obtain ⟨t1, p1, g1⟩ := hk.ex
  obtain ⟨t2, p2, g2⟩ := hv.ex
  refine de_pe (pe_disp (pps_cons p1 p2 pps_nil) rfl rfl (by simp) (by simp)) fun s σ η μ Q q E S hq l lx => ?_
  intro p hp
  have R0 := S.rep.put (o := .dK []) hp
  have x0 := (Ext.refl s μ.length).put (o := .dK []) S.rep hp
  refine g1 _ σ η μ _ _ E (S.go x0 R0) hq (fun e1 μ1 v1 s1 hk1 x1 R1 r1 f1 => ?_) (lx.go x0 R0)
  have x01 := x0.trans x1 fun n hn => R0.here hn
  refine g2 s1 σ η μ1 _ _ E (S.go x01 R1) hk1 (fun e2 μ2 v2 s2 hk2 x2 R2 r2 f2 => ?_) (lx.go x01 R1)
  unfold disp1K at hk2
  split at hk2
  · rename_i n
    obtain ⟨t, hk, rt, ndt, frt, o1⟩ := tree_of (s0 := s1) r2 f2 hk2
    have nl0 : NL _ μ.length p := S.rep.notL hp
    have h1 : s1.H p = some (.dK []) := x1.keep p _ upd_same nl0
    have nl1 : NL s1 μ1.length p := x1.out (by show upd s.H p _ p ≠ none; rw [upd_same]; simp) nl0
    have h2 : s2.H p = some (.dK []) := x2.keep p _ h1 nl1
    have nl2 : NL s2 μ2.length p := x2.out (by rw [h1]; simp) nl1
    have f0 : s.F p = none := S.rep.notF hp
    have f1' : s1.F p = none := x1.fnew p f0 nl0 (by show upd s.H p _ p ≠ none; rw [upd_same]; simp) (by intro vs z; have z : upd s.H p (.dK []) p = _ := z; rw [upd_same] at z; cases z)
    have fp : s2.F p = none := x2.fnew p f1' nl1 (by rw [h1]; simp) (by intro vs z; rw [h1] at z; cases z)
    have ev : v1 = .int n := vr_i r1
    subst ev
    refine ⟨h2, [(.inl n, v2)], rfl, by simp, ?_⟩
    have em : mergeK [] [((.inl n : Key), v2)] = [(.inl n, v2)] := by simp [mergeK, putK]
    rw [em]
    have x02 := x01.trans x2 fun n hn => R1.here hn
    have pt : p ∉ addrs t := fun z => by
      have := (frt p z).2
      rw [h1] at this
      cases this
    have ad : ∀ a, a ∈ addrs (.nod (.dck [.inl n]) p [t]) ↔ a = p ∨ a ∈ addrs t := fun a => by
      rw [addrs_nod, addrsL_cons, addrsL_nil, List.append_nil, List.mem_cons]
    refine l (.newo (.nod (.dck [.inl n]) p [t])) μ2 (.ref p) _ (hk p) (x02.poke hp) (R2.poke fp nl2) ⟨⟨p, rfl, (ad p).mpr (.inl rfl)⟩, .nod (vs := [v2]) ⟨upd_same, rfl, by simp, fun k hk => by simp at hk; subst hk; trivial⟩ (.inr fp) (.cons (rt.keeps (fun _ _ z => z) fun a ha => keeps_put fun z => pt (z ▸ ha)) .nil), ?_, fun a ha => ?_⟩ (fun a ha => ?_)
    · rw [addrs_nod, addrsL_cons, addrsL_nil, List.append_nil]
      exact List.nodup_cons.mpr ⟨pt, ndt⟩
    · rcases (ad a).mp ha with rfl | ha
      · exact nl2
      · exact (frt a ha).1
    · rcases (ad a).mp ha with rfl | ha
      · exact hp
      · exact x01.wasNone (frt a ha).2
  · exact hk2.elim
/-! d.pop(k, x) -/
theorem drop_zip {k : Key} : ∀ {ks : List Key} {vs : List V} {i : Nat}, ks.Nodup → findIx ks k = some i → ks.length = vs.length → dropK (ks.zip vs) k = (ks.eraseIdx i).zip (vs.eraseIdx i)
  | [], _, _, _, h, _ => by simp [findIx] at h
  | c :: ks, [], _, _, _, h => by simp at h
  | c :: ks, v :: vs, i, hn, h, hl => by
    obtain ⟨n1, n2⟩ := List.nodup_cons.mp hn
    unfold findIx at h
    by_cases e : c = k
    · rw [if_pos e] at h
      cases h
      subst e
      have : dropK (ks.zip vs) c = ks.zip vs := by
        unfold dropK
        rw [List.filter_eq_self]
        intro p hp
        have := (List.of_mem_zip hp).1
        simp only [ne_eq, decide_not, Bool.not_eq_true', decide_eq_false_iff_not]
        exact fun z => n1 (z ▸ this)
      simp only [List.zip_cons_cons, List.eraseIdx_cons_zero]
      unfold dropK at this ⊢
      rw [List.filter_cons, if_neg (by simp)]
      exact this
    · rw [if_neg e] at h
      cases q : findIx ks k with
      | none => rw [q] at h; cases h
      | some j =>
        rw [q] at h
        cases h
        have ih := drop_zip n2 q (vs := vs) (by simpa using hl)
        simp only [List.zip_cons_cons, List.eraseIdx_cons_succ]
        unfold dropK at ih ⊢
        rw [List.filter_cons, if_pos (by simpa using e), ih]
theorem mem_addrsE {a : Addr} : ∀ {ts : List Tree} {i : Nat}, a ∈ addrsL (ts.eraseIdx i) → a ∈ addrsL ts
  | [], _, h => by simpa using h
  | t :: ts, 0, h => by rw [List.eraseIdx_cons_zero] at h; rw [addrsL_cons]; exact List.mem_append_right _ h
  | t :: ts, i + 1, h => by
    rw [List.eraseIdx_cons_succ, addrsL_cons] at h
    rw [addrsL_cons]
    exact (List.mem_append.mp h).elim (fun z => List.mem_append_left _ z) fun z => List.mem_append_right _ (mem_addrsE z)
theorem nodup_addrsE : ∀ {ts : List Tree} {i : Nat}, (addrsL ts).Nodup → (addrsL (ts.eraseIdx i)).Nodup
  | [], _, h => by simpa using h
  | t :: ts, 0, h => by rw [List.eraseIdx_cons_zero]; rw [addrsL_cons] at h; exact (List.nodup_append.mp h).2.1
  | t :: ts, i + 1, h => by
    rw [addrsL_cons] at h
    rw [List.eraseIdx_cons_succ, addrsL_cons]
    obtain ⟨h1, h2, h3⟩ := List.nodup_append.mp h
    exact List.nodup_append.mpr ⟨h1, nodup_addrsE h2, fun a ha b hb => h3 a ha b (mem_addrsE hb)⟩
theorem TreesR.erase {K : PySem.W.Frag} {F H : Hp} : ∀ {vs : List V} {ts : List Tree} (i : Nat), TreesR K F H vs ts → TreesR K F H (vs.eraseIdx i) (ts.eraseIdx i)
  | _, _, _, .nil => by simpa using TreesR.nil
  | _, _, 0, .cons _ h => by simpa using h
  | _, _, i + 1, .cons r h => by simpa using TreesR.cons r (TreesR.erase i h)
def popK2 (q : PQ) (z : EV) (μ : Mu) (n : Nat) (b : Addr) (ks : List Key) (ts : List Tree) (r : Option Nat) : Prop := match r with
  | none => q z μ
  | some i => ∃ xs a, ts[i]? = some (.nod .lst a (xs.map .dat)) ∧ q (.dat (.list xs)) (μ.set n (.own (.nod (.dck (ks.eraseIdx i)) b (ts.eraseIdx i))))
def dckK (kd : Knd) (κ : List Key → Prop) : Prop := match kd with
  | .dck ks => κ ks
  | _ => False
def keyK1 (d : PyData) (κ : Key → Prop) : Prop := match keyOf d with
  | some k => κ k
  | none => False
def oPop2 (x y z : EV) (μ : Mu) (q : PQ) : Prop := match x, y with
  | .at n [] b, .dat d => nodK μ n [] b fun kd ts => dckK kd fun ks => keyK1 d fun k => popK2 q z μ n b ks ts (findIx ks k)
  | _, _ => False
theorem pop2_at {n : Nat} {b : Addr} {i : Int} {z : EV} {μ : Mu} {q : PQ} : oPop2 (.at n [] b) (.dat (.int i)) z μ q = nodK μ n [] b fun kd ts => dckK kd fun ks => popK2 q z μ n b ks ts (findIx ks (.inl i)) := Eq.trans rfl rfl
theorem dckK_k {ks : List Key} {κ : List Key → Prop} : dckK (.dck ks) κ = κ ks := Eq.trans rfl rfl
def dPop2 (to ty tz : TDE) : TDE := fun η μ q E => to η μ (fun x μ1 => isDctA x μ1 ∧ ty η μ1 (fun y μ2 => tz η μ2 (fun z μ3 => oPop2 x y z μ3 q) E) E) E
theorem x_dPop2 {to ty tz : TDE} {η : DEnv} {μ : Mu} {q : PQ} {E : XQ} : dPop2 to ty tz η μ q E = to η μ (fun x μ1 => isDctA x μ1 ∧ ty η μ1 (fun y μ2 => tz η μ2 (fun z μ3 => oPop2 x y z μ3 q) E) E) E := Eq.trans rfl rfl
theorem own_at {μ : Mu} {n : Nat} {t : Tree} (h : nodeAt μ n [] = some t) : μ[n]? = some (.own t) := by
  obtain ⟨u, h1, h2⟩ := nodeAt_ex h
  unfold Tree.get at h2
  cases h2
  exact h1
theorem at_own {μ : Mu} {n : Nat} {t : Tree} (h : μ[n]? = some (.own t)) : nodeAt μ n [] = some t := by
  unfold nodeAt
  rw [h]
  unfold Tree.get
  rfl
theorem de_pop2 {X : Cx} {W : WX} {o e f : Expr} {apos cpos : Pos} {to ty tz : TDE} (ho : DE X W o to) (he : DE X W e ty) (hf : DE X W f tz) (m : M2 X o "pop" apos e f cpos) : DE X W (.Call (.Attribute o "pop" apos) [e, f] [] cpos) (dPop2 to ty tz) := by
  obtain ⟨t1, p1, g1⟩ := ho.ex
  obtain ⟨t2, p2, g2⟩ := he.ex
  obtain ⟨t3, p3, g3⟩ := hf.ex
  refine de_pe (pe_dpop2 p1 p2 p3 m) fun s σ η μ Q q E S hq l lx => g1 s σ η μ _ _ E S hq (fun ex μ1 v1 s1 hk1 x1 R1 r1 f1 => ?_) lx
  obtain ⟨hd, hk1⟩ := hk1
  unfold isDctA isKd at hd
  split at hd
  · rename_i n p b
    have er : v1 = .ref b := r1
    subst er
    obtain ⟨kd, ts, hn, hkd⟩ := nodK_ex hd
    obtain ⟨vs, hH, _, _⟩ := node_is R1 hn
    refine ⟨b, rfl, ?_, ?_⟩
    · cases kd with
      | dck ks => exact .inl ⟨_, .inl hH.1⟩
      | dct ks => exact .inr ⟨_, .inl hH.1⟩
      | _ => exact hkd.elim
    refine g2 s1 σ η μ1 _ _ E (S.go x1 R1) hk1 (fun ey μ2 v2 s2 hk2 x2 R2 r2 f2 => ?_) (lx.go x1 R1)
    have x12 := x1.trans x2 fun n hn => R1.here hn
    refine g3 s2 σ η μ2 _ _ E (S.go x12 R2) hk2 (fun ez μ3 v3 s3 hk3 x3 R3 r3 f3 => ?_) (lx.go x12 R2)
    have x13 := x12.trans x3 fun n hn => R2.here hn
    unfold oPop2 at hk3
    split at hk3
    · rename_i n0 b0 d heq
      cases heq
      obtain ⟨kd, ts, hn, hk3⟩ := nodK_ex hk3
      unfold dckK at hk3
      split at hk3
      · rename_i ks
        unfold keyK1 at hk3
        split at hk3
        · rename_i k hkey
          have hr2 : DR X.K s3.F v2 d := DR.mono x3.f r2
          obtain ⟨rfl, _, _⟩ := keyOf_ok hr2 hkey
          obtain ⟨vs, ⟨hH, hlen, hnd, hok⟩, hF, hT⟩ := node_is R3 hn
          refine ⟨_, k, hH, rfl, fun v hv => ?_, fun hv => ?_⟩
          · cases hi : findIx ks k with
            | none => rw [valV_no hi] at hv; cases hv
            | some i =>
              rw [hi] at hk3
              obtain ⟨xs, a, hts, hk3⟩ := hk3
              have hivs : ∃ w, vs[i]? = some w ∧ TreeR X.K s3.F s3.H w (.nod .lst a (xs.map .dat)) := hT.get hts
              obtain ⟨w, hw, rw_⟩ := hivs
              rw [valV_zip hi hw] at hv
              cases hv
              obtain ⟨rfl, _⟩ := rw_.node
              have hown := own_at hn
              have hlt := (List.getElem?_eq_some_iff.mp hown).1
              have hna : nodeAt μ3 n [i] = some (.nod .lst a (xs.map .dat)) := by
                unfold nodeAt
                rw [hown]
                unfold Tree.get
                simp only [Tree.kid, hts]
                unfold Tree.get
                rfl
              obtain ⟨d', μ4, F', O', ⟨rfl, rfl⟩, hl4, R4, x4, r4⟩ := still (k := fun d μ' => d = .list xs ∧ μ' = putAt μ3 n [i] (.dat (.list xs))) (e := .at n [i] a) (v := .ref a) R3 x13 rfl trivial (by
                unfold withDat toDat
                simp only [hna, flatT_map, if_true]
                exact ⟨trivial, trivial⟩)
              have e4 : putAt μ3 n [i] (.dat (.list xs)) = μ3.set n (.own (.nod (.dck ks) b (ts.set i (.dat (.list xs))))) := by
                rw [c_putAt, hown, putM_own, put_cons, hts, putC_some, put_nil]
              rw [e4] at R4 x4
              have hn4 : nodeAt (μ3.set n (.own (.nod (.dck ks) b (ts.set i (.dat (.list xs)))))) n [] = some (.nod (.dck ks) b (ts.set i (.dat (.list xs)))) := at_own (List.getElem?_set_self hlt)
              obtain ⟨vs4, ⟨hH4, hlen4, _, _⟩, hF4, hT4⟩ := node_is R4 hn4
              have ev : vs4 = vs := by
                have z := hH4.symm.trans hH
                have z2 : ks.zip vs4 = ks.zip vs := HO.dK.inj (Option.some.inj z)
                have z3 := congrArg (List.map Prod.snd) z2
                rwa [List.map_snd_zip (by omega), List.map_snd_zip (by omega)] at z3
              subst ev
              have hil : i < ks.length := (findIx_some hi).2
              have hE := TreesR.erase i hT4
              rw [List.eraseIdx_set_eq] at hE
              obtain ⟨nd0, own0⟩ := kids_nd R3 hn
              obtain ⟨O5, R5, x5⟩ := node_mut (k' := .dck (ks.eraseIdx i)) (o := .dK (dropK (ks.zip vs4) k)) (vs' := vs4.eraseIdx i) (ts' := ts.eraseIdx i) R4 x4 hn4 (fun z => z)
                ⟨by rw [upd_same, drop_zip hnd hi hlen], by rw [List.length_eraseIdx, List.length_eraseIdx, hlen], hnd.eraseIdx i, fun c hc => hok c (List.mem_of_mem_eraseIdx hc)⟩ hE (nodup_addrsE nd0)
                (fun c hc => .inl (by rw [← List.eraseIdx_set_eq (l := ts) (i := i) (a := .dat (.list xs))] at hc; exact mem_addrsE hc))
              have e5 : putAt (μ3.set n (.own (.nod (.dck ks) b (ts.set i (.dat (.list xs)))))) n [] (.nod (.dck (ks.eraseIdx i)) b (ts.eraseIdx i)) = μ3.set n (.own (.nod (.dck (ks.eraseIdx i)) b (ts.eraseIdx i))) := by
                rw [c_putAt, List.getElem?_set_self hlt, putM_own, put_nil, List.set_set]
              rw [e5] at R5 x5
              exact l (.dat (.list xs)) _ (.ref a) _ hk3 x5 R5 r4 trivial
          · cases hi : findIx ks k with
            | some i =>
              have : i < vs.length := by rw [← hlen]; exact (findIx_some hi).2
              rw [valV_zip hi (List.getElem?_eq_getElem this)] at hv
              cases hv
            | none =>
              rw [hi] at hk3
              exact l _ μ3 v3 s3 hk3 x13 R3 r3 (f3.back (K := X.K) x12 fun n hn => R2.here hn)
        · exact hk3.elim
      · exact hk3.elim
    · exact hk3.elim
  · exact hd.elim
/-! == and != of dicts with int and text keys, one of them empty -/
def rNeE : R2 := fun x y H Q => ∃ (a b : Addr) (kvs : List (Key × V)), x = .ref a ∧ y = .ref b ∧ H a = some (.dK kvs) ∧ H b = some (.dK []) ∧ Q (.bl (!kvs.isEmpty)) H
theorem op_neE {X : Cx} (hu : X.A.units + 64 < cLine) : OpR X (compareOp .NotEq) rNeE := by
  intro pins s σ H x y v u Q I rx ry h
  obtain ⟨a, b, kvs, rfl, rfl, ha, hb, q⟩ := h
  cases rx
  cases ry
  obtain ⟨_, na, va, ra, da⟩ := dk_rd I.hok (.inl ha)
  obtain ⟨_, nb, vb, rb, db⟩ := dk_rd I.hok (.inl hb)
  cases rb
  refine PySem.W.keq_ne (r := true) na nb da db (by omega) (fun hl => ?_) ⟨.bl (!kvs.isEmpty), H, I, ?_, q⟩
  · have : va = [] := List.eq_nil_of_length_eq_zero (by simpa using hl)
    subst this
    exact .nil
  · have hl : va.length = kvs.length := ra.length.symm
    cases kvs with
    | nil =>
      have : va = [] := List.eq_nil_of_length_eq_zero hl
      subst this
      rfl
    | cons c kvs =>
      cases va with
      | nil => simp at hl
      | cons d va => rfl
def oNeE : OD := fun x y μ q => match x, y with
  | .at n p b, .newk [] => nodK μ n p b fun kd ts => dckK kd fun _ => q (.dat (.bool (!ts.isEmpty))) μ
  | _, _ => False
theorem neE_at {n : Nat} {p : List Nat} {b : Addr} {μ : Mu} {q : PQ} : oNeE (.at n p b) (.newk []) μ q = nodK μ n p b fun kd ts => dckK kd fun _ => q (.dat (.bool (!ts.isEmpty))) μ := Eq.trans rfl rfl
theorem os_neE {K : PySem.W.Frag} : OpS K rNeE oNeE := by
  intro s0 N0 s μ x y ex ey q Q R xt rx fx ry fy h l
  unfold oNeE at h
  split at h
  · rename_i n p b
    obtain ⟨kd, ts, hn, h⟩ := nodK_ex h
    unfold dckK at h
    split at h
    · rename_i ks
      obtain ⟨vs, ⟨hH, hlen, _, _⟩, _, hT⟩ := node_is R hn
      obtain ⟨p2, vk, rfl, h1, _, _, ⟨h4, _⟩, _⟩ := ry
      have : vk = [] := by simpa using h4
      subst this
      refine ⟨b, p2, _, rx, rfl, hH, h1, ?_⟩
      have e : (ks.zip vs).isEmpty = ts.isEmpty := by
        have l1 := hT.length
        cases ts with
        | nil =>
          have : vs = [] := List.eq_nil_of_length_eq_zero l1
          subst this
          simp
        | cons t ts =>
          cases vs with
          | nil => simp at l1
          | cons v vs =>
            cases ks with
            | nil => simp at hlen
            | cons k ks => rfl
      rw [e]
      exact l _ μ _ s h xt R (.bl _) trivial
    · exact h.elim
  · exact h.elim
def dNewKk : TDE := fun _ μ q _ => q (.newk []) μ
theorem x_dNewKk {η : DEnv} {μ : Mu} {q : PQ} {E : XQ} : dNewKk η μ q E = q (.newk []) μ := Eq.trans rfl rfl
theorem de_dnewK {X : Cx} {W : WX} {pos : Pos} : DE X W (.Dict [] [] pos) dNewKk := de_pe pe_dnewK fun s σ η μ Q q E S hq l _ => fun p hp =>
  l (.newk []) μ (.ref p) { s with H := upd s.H p (.dK []) } hq ((Ext.refl s μ.length).put S.rep hp) (S.rep.put hp) ⟨p, [], rfl, upd_same, S.rep.notF hp, S.rep.notL hp, ⟨rfl, fun _ z => by cases z⟩, .nil⟩ (fun y hy => by cases hy; exact hp)
end DL
set_option Elab.async false
set_option linter.all false
set_option maxRecDepth 100000
set_option maxHeartbeats 4000000
namespace DL
open PySem PySem.Spec PyProof.Rows L2
/-! ### d.clear() of a dict with tuple keys -/
def rClearT : V → List V → Hp → VK → Prop := fun x vs H Q => ∃ (a : Addr) (kvs : List (List Key × V)), x = .ref a ∧ vs = [] ∧ H a = some (.dT kvs) ∧ Q .non (upd H a (.dT []))
theorem mt_clearT {X : Cx} : MtR X "dict.clear" rClearT := by
  intro pins s σ H x vs v us Q I rx rv h
  obtain ⟨a, kvs, rfl, rfl, ha, q⟩ := h
  cases rx
  have hus := rv.zero
  subst hus
  obtain ⟨z, hd, xs', rel, dd⟩ := dt_of I.hok ha
  obtain ⟨o, es, ep, hq, h2, h3, h4, h5, h6⟩ := dd
  have hz : es.size ≤ sizeLine := by
    have e := congrArg List.length h4
    rw [Array.length_toList, List.length_map] at e
    rw [e, ← Paired.length rel]
    exact z
  refine call_meetsIn PySem.F.slot_dict_clear (s := s) (Heap.DictRaw.typeIs ⟨o, hq, h2, h3⟩) PySem.F.entry_dict_clear (PySem.F.args_dict_clear_1 _) (meets_dict_clear_raw a) ⟨es, ep, ⟨o, hq, h2, h3⟩, hz, fun h' dd' hs => ?_⟩
  obtain ⟨o', hq', h2', h3'⟩ := dd'
  have I2 : Inv X pins σ (upd H a (.dT [])) { s with heap := h', toks := s.toks } :=
    d_write I (by rw [ha]; exact True.intro) hs ⟨o', hq'⟩ ⟨Nat.zero_le _, hd, [], .nil, o', _, _, hq', h2', h3', rfl, List.nodup_nil⟩
  exact ⟨.non, _, I2, rfl, q⟩
def oClearD : MD := fun x es μ q => match x, es with
  | .loc n, [] => lcD μ[n]? fun _ => q (.dat .none) (μ.set n (.dct []))
  | _, _ => False
theorem clearD_l {n : Nat} {μ : Mu} {q : PQ} : oClearD (.loc n) [] μ q = lcD μ[n]? fun _ => q (.dat .none) (μ.set n (.dct [])) := Eq.trans rfl rfl
theorem ms_clearD {K : PySem.W.Frag} : MtS K rClearT oClearD := by
  intro s0 N0 s μ x xs ex es q Q R xt rx fx r h l
  unfold oClearD at h
  split at h
  · rename_i n
    unfold lcD at h
    split at h
    · rename_i kvs hn
      obtain ⟨hlt, rfl⟩ := rx
      obtain ⟨hf, ks, hH, _, hd⟩ := R.cell n _ hn
      cases r
      obtain ⟨a1, a2⟩ := mut_c (c' := .dct []) (o := .dT []) R xt hn hf ⟨hf, _, upd_same, ⟨rfl, fun _ z => by cases z⟩, .nil⟩
      exact ⟨s.L n, ks, rfl, rfl, hH, l (.dat .none) _ .non _ h a2 a1 .non trivial⟩
    · exact h.elim
  · exact h.elim
end DL
namespace PySem.W
open Lean Elab Tactic Meta PySem PySem.Calls PyProof.Rows PyProof.V PySem.Spec
section
variable {prog : Program} {w : World} {K : Type} [DecidableEq K] {knd : HeapKind prog w K} {A : Around} {E : Value → Shared → Prop} {s : Shared}
inductive HitsH {K : Type} [DecidableEq K] (A : Around) (s : Shared) (xb : List (K × Addr × Value)) : List (K × Addr × Value) → Bool → Prop
  | nil : HitsH A s xb [] true
  | miss {k : K} {p : Addr × Value} {r : List (K × Addr × Value)} : atKey xb k = none → HitsH A s xb ((k, p) :: r) false
  | hit {k : K} {p : Addr × Value} {q : Addr × Value} {r : List (K × Addr × Value)} {e b : Bool} : atKey xb k = some q → SeqAt.EqAt A s p.2 q.2 e → HitsH A s xb r b → HitsH A s xb ((k, p) :: r) (e && b)
theorem HitsH.inv {xb : List (K × Addr × Value)} {k : K} {p : Addr × Value} {r : List (K × Addr × Value)} {b : Bool} (h : HitsH A s xb ((k, p) :: r) b) :
    (atKey xb k = none ∧ b = false) ∨ ∃ q e b', atKey xb k = some q ∧ SeqAt.EqAt A s p.2 q.2 e ∧ HitsH A s xb r b' ∧ b = (e && b') := by
  cases h with
  | miss hn => exact .inl ⟨hn, rfl⟩
  | hit hy he hr => exact .inr ⟨_, _, _, hy, he, hr, rfl⟩
theorem atKey_none {xs : List (K × Addr × Value)} {k : K} (h : ∀ (j : Nat) (p : Addr × Value), xs[j]? ≠ some (k, p)) : atKey xs k = none := by
  unfold atKey
  rw [Option.map_eq_none_iff, List.find?_eq_none]
  intro x hx e
  obtain ⟨j, hj⟩ := List.getElem?_of_mem hx
  refine h j x.2 ?_
  rw [hj, ← of_decide_eq_true e]
theorem atKey_some : ∀ {xs : List (K × Addr × Value)} {k : K} {j : Nat} {p : Addr × Value}, (xs.map (·.1)).Nodup → xs[j]? = some (k, p) → atKey xs k = some p
  | [], _, _, _, _, h => by simp at h
  | x :: xs, k, 0, p, hn, h => by
    simp at h
    subst h
    simp [atKey]
  | x :: xs, k, j + 1, p, hn, h => by
    rw [List.map_cons, List.nodup_cons] at hn
    have ih := atKey_some hn.2 (j := j) (k := k) (p := p) (by simpa using h)
    have hx : ¬ x.1 = k := fun e => hn.1 (by
      rw [e]
      exact List.mem_map.mpr ⟨(k, p), List.mem_of_getElem? (by simpa using h), rfl⟩)
    unfold atKey at ih ⊢
    rw [List.find?_cons_of_neg (by simpa using hx)]
    exact ih
theorem samePairsH {nm : String} {a b : Addr} {xa xb : List (K × Addr × Value)} {r : Bool} {Q : Bool → Shared → Prop} (ha : (a == sysModules) = false) (hb : (b == sysModules) = false) (hu : knd.room A)
    (da : s.heap.DictOfH knd a xa) (db : s.heap.DictOfH knd b xb) (hits : xa.length = xb.length → HitsH A s xb xa r) (h : Q (xa.length == xb.length && r) s) :
    wpAny (model prog w) A (Builtin.Dict.samePairs nm a b) Q E s := by
  obtain ⟨oa, es, ep, hoa, _, hda, hea, hka, hna⟩ := da
  obtain ⟨ob, es', ep', hob, _, hdb, heb, hkb, hnb⟩ := db
  have hla : xa.length = es.size := (size_of_entries hea).symm
  have hlb : xb.length = es'.size := (size_of_entries heb).symm
  rw [hla, hlb] at h
  unfold Builtin.Dict.samePairs Builtin.Dict.showsAll
  rw [if_neg (show ¬ (a == sysModules) = true by rw [ha]; exact Bool.false_ne_true), if_neg (show ¬ (b == sysModules) = true by rw [hb]; exact Bool.false_ne_true)]
  refine wpAny_bind (wpAny_pure (wpAny_bind (wpAny_pure ?_)))
  refine wpAny_bind (wpAny_dictEntries hoa hda ?_)
  dsimp only
  refine wpAny_bind (wpAny_dictEntries hob hdb ?_)
  by_cases hsz : es.size = es'.size
  case neg =>
    rw [if_pos (by simpa using hsz)]
    have hbf : (es.size == es'.size) = false := by simpa using hsz
    rw [hbf, Bool.false_and] at h
    exact wpAny_bind (wpAny_rule (wpAny_pure h))
  case pos =>
    have h' : Q r s := by simpa [hsz] using h
    have hits' := hits (by rw [hla, hlb]; exact hsz)
    rw [if_neg (by rw [hsz]; simp)]
    refine wpAny_bind (wpAny_dictEpoch hoa hda ?_)
    refine wpAny_bind ?_
    rw [Std.Legacy.Range.forIn_eq_forIn_range']
    simp only [Std.Legacy.Range.size, Nat.sub_zero, Nat.add_sub_cancel, Nat.div_one]
    refine wpAny_forIn_list _
      (fun rest q s' => s' = s ∧ q = (none, ()) ∧ ∃ i, rest = List.range' i (es.size - i) ∧ i ≤ es.size ∧ HitsH A s xb (xa.drop i) r)
      _ ?_ ?_ _ _ ⟨rfl, rfl, 0, by simp, Nat.zero_le _, hits'⟩
    · rintro x rest q s' ⟨rfl, rfl, i, hr, hi, hpre⟩
      have hlt : i < es.size := by
        rcases Nat.lt_or_ge i es.size with h | h
        · exact h
        · rw [Nat.sub_eq_zero_of_le h] at hr; simp at hr
      obtain ⟨rfl, hrest⟩ : x = i ∧ rest = List.range' (i + 1) (es.size - (i + 1)) := by
        have e : es.size - i = (es.size - (i + 1)) + 1 := by omega
        rw [e, List.range'_succ] at hr
        injection hr with h1 h2
        exact ⟨h1, h2⟩
      refine wpAny_bind (wpAny_dictEntries hoa hda ?_)
      have hlt' : x < xa.length := by rw [hla]; exact hlt
      obtain ⟨k, p, v, hkv⟩ : ∃ k p v, xa[x] = (k, p, v) := ⟨_, _, _, rfl⟩
      have hxk : xa[x]? = some (k, p, v) := by rw [List.getElem?_eq_getElem hlt', hkv]
      have hdrop : xa.drop x = (k, p, v) :: xa.drop (x + 1) := by rw [← hkv]; exact List.drop_eq_getElem_cons hlt'
      have hkey : knd.is s'.heap k p := hka _ (List.mem_of_getElem? hxk)
      rw [hdrop] at hpre
      rw [entry_at hea x, hxk]
      show wpAny _ _ (holding [Value.ref p, v] _ >>= _) _ _ _
      refine wpAny_bind (wpAny_holding (wpAny_bind (wpAny_dictFind_heap hu hkey hob hdb heb hkb hnb (fun hno => ?_) fun j q hj => ?_)))
      · have hn := atKey_none hno
        rcases hpre.inv with ⟨_, er⟩ | ⟨y, _, _, hy, _⟩
        · rw [er] at h'
          refine wpAny_pure ?_
          show wpAny _ _ (if (!false) = true then _ else _) _ _ _
          rw [if_pos (by decide)]
          exact wpAny_pure (wpAny_pure h')
        · rw [hn] at hy; exact nomatch hy
      · have hv' := atKey_some hnb hj
        refine wpAny_bind (wpAny_dictEntries hob hdb ?_)
        rw [entry_at heb j, hj]
        rcases hpre.inv with ⟨hn, _⟩ | ⟨y, e, b', hy, he, hrr, er⟩
        · rw [hv'] at hn; exact nomatch hn
        · have ey : q = y := Option.some.inj (hv'.symm.trans hy)
          subst ey
          refine wpAny_holding (he prog w _ _ ?_)
          cases e with
          | false =>
            rw [er, Bool.false_and] at h'
            show wpAny _ _ (if (!false) = true then _ else _) _ _ _
            rw [if_pos (by decide)]
            exact wpAny_pure (wpAny_pure h')
          | true =>
            rw [Bool.true_and] at er
            rw [← er] at hrr
            show wpAny _ _ (if (!true) = true then _ else _) _ _ _
            rw [if_neg (by decide)]
            refine wpAny_bind (wpAny_dictEpoch hoa hda ?_)
            rw [if_neg (by simp)]
            exact wpAny_pure ⟨rfl, rfl, x + 1, hrest, hlt, hrr⟩
    · rintro q s' ⟨rfl, rfl, i, hr, hi, hpre⟩
      have hin : i = es.size := by
        rcases Nat.lt_or_ge i es.size with h | h
        · have e : es.size - i = (es.size - (i + 1)) + 1 := by omega
          rw [e, List.range'_succ] at hr; exact nomatch hr
        · exact Nat.le_antisymm hi h
      refine wpAny_pure ?_
      rw [hin, ← hla, List.drop_length] at hpre
      cases hpre
      exact h'
theorem keq_eqH {a b : Addr} {xa xb : List (K × Addr × Value)} {r : Bool} {Q : Value → Shared → Prop} (ha : (a == sysModules) = false) (hb : (b == sysModules) = false) (hk : knd.room A.in1)
    (da : s.heap.DictOfH knd a xa) (db : s.heap.DictOfH knd b xb) (hu : A.units < cLine) (hits : xa.length = xb.length → HitsH A.in1 s xb xa r) (h : Q (.bool (xa.length == xb.length && r)) s) :
    wpAny (model prog w) A (compareOp .Eq (.ref a) (.ref b)) Q E s := by
  refine wpAny_richCompare_same_room (op := .Eq) da.typeIs db.typeIs PySem.F.slot_dict_eq (wpAny_call_entry PySem.F.slot_dict_eq da.typeIs PySem.F.entry_dict_eq ?_ (PySem.F.args_dict_eq_2 _ _)) hu
  show wpAny _ _ (Builtin.Dict.dictSlotArgs "__eq__" ⟨[.ref a, .ref b], []⟩ >>= _) _ _ s
  refine wpAny_bind ?_
  unfold Builtin.Dict.dictSlotArgs
  refine wpAny_bind (wpAny_notOrdered_dict da.typeIs ?_)
  show wpAny _ _ (pure (Value.ref a, Value.ref b)) _ _ s
  refine wpAny_pure ?_
  refine wpAny_bind (wpAny_isInstance (T := "dict") db.typeIs PySem.F.sub_dict_dict ?_)
  simp only [Bool.not_true, Bool.false_eq_true, if_false]
  refine wpAny_bind (wpAny_pure (wpAny_bind (wpAny_pure ?_)))
  refine wpAny_bind (samePairsH ha hb hk da db hits ?_)
  refine wpAny_pure ⟨_, rfl, ?_, ?_⟩
  · exact fun x => nomatch x
  · simpa using h
end
end PySem.W
namespace DL
open PySem PySem.Spec PyProof.Rows L2
/-! ### == of dicts with tuple keys and ints -/
def intV (p : List Key × Int) : List Key × V := (p.1, .int p.2)
def intE (p : List Key × Int) : List Key × PyData := (p.1, .int p.2)
def getN (ls : List (List Key × Int)) (k : List Key) : Option Int := (ls.find? fun p => decide (p.1 = k)).map (·.2)
def eqT (ks ls : List (List Key × Int)) : Bool := ks.length == ls.length && ks.all fun p => decide (getN ls p.1 = some p.2)
theorem valV_int (ls : List (List Key × Int)) (k : List Key) : valV (ls.map intV) k = (getN ls k).map V.int := by
  unfold valV getN
  rw [List.find?_map, Option.map_map, Option.map_map]
  rfl
def rEqT : R2 := fun x y H Q => ∃ (a b : Addr) (ks ls : List (List Key × Int)), x = .ref a ∧ y = .ref b ∧ Rd H a (.dT (ks.map intV)) ∧ Rd H b (.dT (ls.map intV)) ∧ Q (.bl (eqT ks ls)) H
theorem op_eqT {X : Cx} (hu : X.A.units + 64 < cLine) : OpR X (compareOp .Eq) rEqT := by
  intro pins s σ H x y v u Q I rx ry h
  obtain ⟨a, b, ks, ls, rfl, rfl, ha, hb, q⟩ := h
  cases rx
  cases ry
  obtain ⟨_, na, xa, ra, da⟩ := dt_rd I.hok ha
  obtain ⟨_, nb, xb, rb, db⟩ := dt_rd I.hok hb
  have la : xa.length = ks.length := by rw [← Paired.length ra, List.length_map]
  have lb : xb.length = ls.length := by rw [← Paired.length rb, List.length_map]
  refine PySem.W.keq_eqH (r := ks.all fun p => decide (getN ls p.1 = some p.2)) na nb (tupleKind_room_in1 (by omega)) da db (by omega) (fun _ => ?_) ⟨.bl (eqT ks ls), H, I, ?_, q⟩
  · clear da la q ha
    have all : ∀ {ks : List (List Key × Int)} {xa : List (List Key × Addr × Value)}, KT H (ks.map intV) xa → PySem.W.HitsH X.A.in1 s xb xa (ks.all fun p => decide (getN ls p.1 = some p.2)) := by
      intro ks
      induction ks with
      | nil => intro xa r; cases r; exact .nil
      | cons p ks ih =>
        intro xa r
        cases r with
        | @cons _ z _ zs h1 t =>
          obtain ⟨e1, _, e3⟩ := h1
          obtain ⟨k, pz⟩ := z
          have ek : p.1 = k := e1
          subst ek
          have rv := rb.val p.1
          rw [valV_int] at rv
          rw [List.all_cons]
          cases hq : atKey xb p.1 with
          | none =>
            rw [hq] at rv
            cases hg : getN ls p.1 with
            | some j => rw [hg] at rv; exact (show False from rv).elim
            | none =>
              have : (decide ((none : Option Int) = some p.2) && ks.all fun p => decide (getN ls p.1 = some p.2)) = false := by simp
              rw [this]
              exact .miss hq
          | some zq =>
            rw [hq] at rv
            cases hg : getN ls p.1 with
            | none => rw [hg] at rv; exact (show False from rv).elim
            | some j =>
              rw [hg] at rv
              obtain ⟨t1, h1⟩ := (show ∃ t, pz.2 = Value.int p.2 t from e3)
              obtain ⟨t2, h2⟩ := (show ∃ t, zq.2 = Value.int j t from rv)
              have he : decide (some j = some p.2) = (p.2 == j) := by
                by_cases hj : j = p.2
                · subst hj; simp
                · have : ¬ p.2 = j := fun z => hj z.symm
                  simp [hj, this]
              rw [he]
              exact .hit hq (by rw [h1, h2]; exact SeqAt.EqAt.int_int _ _ _ _) (ih t)
    exact all ra
  · rw [la, lb]
    rfl
def oEqT : OD := fun x y μ q => match x, y with
  | .loc n, .dat (.dict l) => lcD μ[n]? fun kvs => ∃ ks ls : List (List Key × Int), kvs = ks.map intE ∧ l = kvT (ls.map intE) ∧ q (.dat (.bool (eqT ks ls))) μ
  | _, _ => False
theorem eqT_l {n : Nat} {l : List (PyData × PyData)} {μ : Mu} {q : PQ} : oEqT (.loc n) (.dat (.dict l)) μ q = lcD μ[n]? fun kvs => ∃ ks ls : List (List Key × Int), kvs = ks.map intE ∧ l = kvT (ls.map intE) ∧ q (.dat (.bool (eqT ks ls))) μ := Eq.trans rfl rfl
theorem dr_int {K : PySem.W.Frag} {F : Hp} {v : V} {i : Int} (r : DR K F v (.int i)) : v = .int i := by cases r; rfl
theorem ints_of {K : PySem.W.Frag} {F : Hp} : ∀ {ks : List (List Key × V)} {ls : List (List Key × Int)}, ks.map (·.1) = (ls.map intE).map (·.1) → DRs K F (ks.map (·.2)) ((ls.map intE).map (·.2)) → ks = ls.map intV
  | [], [], _, _ => rfl
  | [], _ :: _, h, _ => by simp at h
  | _ :: _, [], h, _ => by simp at h
  | k :: ks, l :: ls, h, r => by
    simp only [List.map_cons, List.cons.injEq] at h
    cases r with
    | cons r rs =>
      have r' : DR K F k.2 (.int l.2) := r
      have e : k.2 = .int l.2 := dr_int r'
      have hk : k = intV l := Prod.ext h.1 e
      rw [hk, ints_of h.2 rs]
      rfl
theorem os_eqT {K : PySem.W.Frag} : OpS K rEqT oEqT := by
  intro s0 N0 s μ x y ex ey q Q R xt rx fx ry fy h l
  unfold oEqT at h
  split at h
  · rename_i n d
    obtain ⟨kvs, hc, ks, ls, rfl, rfl, hq⟩ := lcD_ex h
    obtain ⟨hlt, rfl⟩ := rx
    obtain ⟨hf, ks1, hH, ⟨hk1, hk2⟩, hd⟩ := R.cell n _ hc
    have e1 := ints_of hk1 hd
    subst e1
    have ry' : DR K s.F y (.dict (kvT (ls.map intE))) := ry
    generalize hz : kvT (ls.map intE) = z at ry'
    cases ry' with
    | @dcT a od ks2 kvs2 _ hF hk2 hs2 e =>
      have e2 : ls.map intE = kvs2 := kvT_inj (hz.trans e)
      subst e2
      have e3 := ints_of hk2.1 hs2
      subst e3
      exact ⟨s.L n, a, ks, ls, rfl, rfl, .inl hH, .inr ⟨od, R.sub _ _ hF⟩, l (.dat (.bool (eqT ks ls))) μ _ s hq xt R (.bl _) trivial⟩
    | @dcK a od ks kvs2 _ hF hk2 hs2 e ne =>
      exfalso
      subst hz
      cases kvs2 with
      | nil => exact ne rfl
      | cons p r =>
        cases ls with
        | nil => simp [kvT, kvK] at e
        | cons p2 r2 =>
          simp only [kvT, kvK, List.map_cons, List.cons.injEq, Prod.mk.injEq] at e
          have e1 := e.1.1
          cases hk0 : p.1 <;> rw [hk0] at e1 <;> simp [keyD] at e1
  · exact h.elim
end DL
set_option Elab.async false
set_option linter.all false
set_option maxRecDepth 100000
set_option maxHeartbeats 4000000
namespace DL
open PySem PySem.Spec PyProof.Rows L2
/-! ### min(xs), min(xs, default=d), xs a list of data that compare -/
/-! ### .. stepping -/
/-! ### .. of encoded items -/
section
variable {α : Type} {en : α → PyData} {lt : α → α → Bool}
theorem OrdR.lst {rn : α → List PyData} (O : OrdR rn lt) : OrdE (fun a => .list (rn a)) lt where
  alike a b := by simp only [PySem.W.alike]; exact O.alike a b
  lts a b := (PySem.W.dataLt_list _ _).trans (O.lts a b)
  eqs a b := by rw [PyData.eqv]; exact O.eqs a b
  irr := O.irr
  tri := O.tri
  tr := O.tr
end
end DL
set_option Elab.async false
set_option linter.all false
set_option maxRecDepth 100000
set_option maxHeartbeats 4000000
namespace DL
open PySem PySem.Spec PyProof.Rows L2
/-! ### d.get(k), d.get(k, z), tuple keys -/
/-! ### x[i] = d, x a list that is a part of a tree -/
/-! ### tuple(x), x a list of data that is a part of a tree -/
end DL
set_option Elab.async false
set_option linter.all false
set_option maxRecDepth 100000
set_option maxHeartbeats 4000000
namespace DL
open PySem PySem.Spec PyProof.Rows L2
/-! ### f(..)[i], f's answer a new list with functions in it -/
end DL
set_option Elab.async false
set_option linter.all false
set_option maxRecDepth 100000
set_option maxHeartbeats 4000000
namespace DL
open PySem PySem.Spec PyProof.Rows L2 NdefX LamX
/-! ### defs that make functions, and may end early with data -/
end DL
set_option Elab.async false
set_option linter.all false
set_option maxRecDepth 100000
set_option maxHeartbeats 4000000
namespace DL
open PySem PySem.Spec PyProof.Rows L2 NdefX LamX
/-! ### f(.., a function made here, ..): the call runs with the frame's own cells known -/
/-! ### the world without the cells again -/
section
variable {K : PySem.W.Frag} {s s' : Wd} {N : Nat} {μ : Mu} {C : CMap}
theorem TabAt.drop {F H : Hp} {a : Addr} {nm : Str} (h : TabAt F H a nm) (hm : CelM C) (hc : ∀ a u o, C a = some u → F a = some o → o = u) (ca : C a = none) : TabAt (dropC F C) (dropC H C) a nm := by
  obtain ⟨h1, ps, h2, h3, h4⟩ := h
  refine ⟨by rw [dropC_n ca]; exact h1, ps, by rw [dropC_n ca]; exact h2, h3, fun pos cv e => ?_⟩
  obtain ⟨c, e1, e2⟩ := h4 pos cv e
  refine ⟨c, e1, drop_at hm hc e2 fun ob x z => ?_⟩
  have z1 : LamX.CodeO c nm = CelO ob x := z
  unfold LamX.CodeO CelO at z1
  cases z1
end
/-! ### the rule -/
inductive DisA (P : Program) (w : World) (mg : Str → Option Value) (base : Heap) (D : Need → Prop) : EV → EV → Prop
  | dat (d : PyData) : DisA P w mg base D (.dat d) (.dat d)
  | loc (n : Nat) : DisA P w mg base D (.loc n) (.loc n)
  | fn {N N' : Need} {k : Nat} {g : PyData → Option Int} : Left D N N' → DisA P w mg base D (.per (wP P w mg base N k g)) (.per (wP P w mg base N' k g))
inductive DisL (P : Program) (w : World) (mg : Str → Option Value) (base : Heap) (D : Need → Prop) : List EV → List EV → Prop
  | nil : DisL P w mg base D [] []
  | cons {e e' : EV} {es es' : List EV} : DisA P w mg base D e e' → DisL P w mg base D es es' → DisL P w mg base D (e :: es) (e' :: es')
section
variable {P : Program} {w : World} {mg : Str → Option Value} {base : Heap} {D : Need → Prop} {K : PySem.W.Frag} {s : Wd} {N : Nat} {C : CMap}
theorem DisA.ok {v : V} {y y' : EV} (hD : ∀ N, D N → N.ψ K (layC s.F C)) (nF : ∀ a u, C a = some u → s.F a = none) (h : DisA P w mg base D y y') (r : VR K s N v y) : VR K { s with H := layC s.H C, F := layC s.F C } N v y' := by
  cases h with
  | dat d => exact DR.mono (same_lay nF) r
  | loc n => exact r
  | fn l => exact left_ok hD (same_lay nF) l r
theorem DisL.ok (hD : ∀ N, D N → N.ψ K (layC s.F C)) (nF : ∀ a u, C a = some u → s.F a = none) : ∀ {vs : List V} {es es' : List EV}, DisL P w mg base D es es' → VL K s N vs es → VL K { s with H := layC s.H C, F := layC s.F C } N vs es'
  | _, _, _, .nil, .nil => .nil
  | _, _, _, .cons h hs, .cons r rs => .cons (h.ok hD nF r) (DisL.ok hD nF hs rs)
end
end DL
set_option Elab.async false
set_option linter.all false
set_option maxRecDepth 100000
set_option maxHeartbeats 4000000
namespace DL
open PySem PySem.Spec PyProof.Rows L2
open PySem.Froz (sObj addTx tailTx TxOk add_ok add_x is_str)
/-! ### sets of texts: how they grow -/
/-- the set at a holds the texts l -/
structure SetX (P : Program) (w : World) (h : Heap) (a : Addr) (l : List Str) : Prop where
  ex : ∃ D : Froz.SD, h.get? a = some (sObj "set" D) ∧ TxOk P w D l ∧ Ris D.2.2.place.toList ∧ (w.params.followText "set-order" = true ∨ D.2.2.led = true)
  nd : l.Nodup
theorem SetX.at {P : Program} {w : World} {h h' : Heap} {a : Addr} {l : List Str} (R : SetX P w h a l) (k : ∀ o, h.get? a = some o → h'.get? a = some o) : SetX P w h' a l := by
  obtain ⟨⟨D, ho, r⟩, nd⟩ := R
  exact ⟨⟨D, k _ ho, r⟩, nd⟩
section
variable {P : Program} {w : World} {A : Around} {E : Value → Shared → Prop} {s : Shared}
/-- what was met among the first i -/
def Seen (ks : List Str) (i : Nat) (l : List Str) : Prop := (∀ x, x ∈ l ↔ x ∈ ks.take i) ∧ l.length ≤ i
theorem Seen.step {ks : List Str} {i : Nat} {l l' : List Str} {k : Str} (g : Seen ks i l) (hk : ks[i]? = some k) (e : l' = if k ∈ l then l else k :: l) : Seen ks (i + 1) l' := by
  have t : ks.take (i + 1) = ks.take i ++ [k] := by rw [List.take_add_one, hk]; rfl
  obtain ⟨g1, g2⟩ := g
  by_cases h : k ∈ l
  · rw [if_pos h] at e
    subst e
    refine ⟨fun x => ?_, Nat.le_succ_of_le g2⟩
    rw [t, List.mem_append, List.mem_singleton, ← g1 x]
    exact ⟨.inl, fun z => z.elim id fun z => z ▸ h⟩
  · rw [if_neg h] at e
    subst e
    refine ⟨fun x => ?_, Nat.succ_le_succ g2⟩
    rw [t, List.mem_append, List.mem_singleton, List.mem_cons, ← g1 x]
    exact ⟨fun z => z.elim .inr .inl, fun z => z.elim .inr .inl⟩
end
end DL
set_option Elab.async false
set_option linter.all false
set_option maxRecDepth 100000
set_option maxHeartbeats 4000000
namespace DL
open PySem PySem.Spec PyProof.Rows L2
open PySem.Froz (sObj TxOk)
/-! ### .. sorted -/
/-! ### as an expression -/
end DL
set_option Elab.async false
set_option linter.all false
set_option maxRecDepth 100000
set_option maxHeartbeats 4000000
namespace DL
open PySem PySem.Spec PyProof.Rows L2
/-! ### x in C, C a written tuple of texts -/
end DL
set_option Elab.async false
set_option linter.all false
set_option maxRecDepth 100000
set_option maxHeartbeats 4000000
namespace DL
open PySem PySem.Spec PyProof.Rows L2
/-! ### more of cells -/
end DL
set_option Elab.async false
set_option linter.all false
set_option maxRecDepth 100000
set_option maxHeartbeats 4000000
namespace DL
open PySem PySem.Spec PyProof.Rows L2
/-! ### exceptions whose context is None -/
/-- try: body, except C: a suite that raises -/
def sTryX (K : PySem.W.Frag) (c : Value) (tb ts : TDS) : TDS := fun d E η μ => tb d (fun x μ' => ∃ b, PySem.W.exmOne K (.ref x.c) c = some b ∧ (b = true → ts d E η μ') ∧ (b = false → E x μ')) η μ
section
variable {K : PySem.W.Frag} {c : Value} {tb ts v : TDS} {d : DEnds} {E : XQ} {η : DEnv} {μ : Mu}
theorem s_tryX (h : tb d (fun x μ' => ∃ b, PySem.W.exmOne K (.ref x.c) c = some b ∧ (b = true → ts d E η μ') ∧ (b = false → E x μ')) η μ) : sTryX K c tb ts d E η μ := h
theorem q_tryX (h : sTryX K c tb ts { d with nx := v d E } E η μ) : sSeq (sTryX K c tb ts) v d E η μ := h
end
end DL
set_option Elab.async false
set_option linter.all false
set_option maxRecDepth 100000
set_option maxHeartbeats 4000000
namespace DL
open PySem PySem.Spec PyProof.Rows L2
/-! ### range(i, j, c), c above nought -/
section
variable {X : Cx} {W : WX} {tg a b c : Expr} {t : TDA} {p pos : Pos}
/-! ### x, y, z = a, b, c -/
def parK3 (i j l : Nat) (d : DEnds) (η : DEnv) (es : List EV) (μ1 : Mu) : Prop := match es with
  | [e1, e2, e3] => (noNew e1 = true ∧ noNew e2 = true ∧ noNew e3 = true) ∧ d.nx (((η.set i (some e1)).set j (some e2)).set l (some e3)) μ1
  | _ => False
def sPar3 (i j l : Nat) (t : TDA) : TDS := fun d E η μ => t η μ (fun es μ1 => parK3 i j l d η es μ1) E
end
section
variable {t v : TDS} {ta : TDA} {d : DEnds} {E : XQ} {η : DEnv} {μ : Mu} {i j l : Nat}
theorem s_par3 (h : ta η μ (fun es μ1 => parK3 i j l d η es μ1) E) : sPar3 i j l ta d E η μ := h
theorem q_par3 (h : sPar3 i j l ta { d with nx := v d E } E η μ) : sSeq (sPar3 i j l ta) v d E η μ := h
end
end DL
set_option Elab.async false
set_option linter.all false
set_option maxRecDepth 100000
set_option maxHeartbeats 4000000
namespace DL
open PySem PySem.Spec PyProof.Rows L2
/-! ### methods by their bodies -/
end DL
set_option Elab.async false
set_option linter.all false
set_option maxRecDepth 100000
set_option maxHeartbeats 4000000
namespace DL
open PySem PySem.Spec PyProof.Rows L2
/-! ### sorted(d), d a dict that is a part of a tree -/
end DL
set_option Elab.async false
set_option linter.all false
set_option maxRecDepth 100000
set_option maxHeartbeats 4000000
namespace DL
open PySem PySem.Spec PyProof.Rows L2
/-! ### xs.pop(i) -/
theorem DRs.eraseIdx {K : PySem.W.Frag} {F : Hp} {vs : List V} {ds : List PyData} (h : DRs K F vs ds) (i : Nat) : DRs K F (vs.eraseIdx i) (ds.eraseIdx i) := by
  rw [List.eraseIdx_eq_take_drop_succ, List.eraseIdx_eq_take_drop_succ]
  exact (h.take _).append (h.drop _)
end DL
set_option Elab.async false
set_option linter.all false
set_option maxRecDepth 100000
set_option maxHeartbeats 4000000
namespace DL
open PySem PySem.Spec PyProof.Rows L2
/-! ### what goes out of a def: a part of a cell of its own -/
/-! ### for x in a list that is a part of a tree -/
/-! ### [parts of a cell, in some turn]: the parts become a new list's -/
end DL
set_option Elab.async false
set_option linter.all false
set_option maxRecDepth 100000
set_option maxHeartbeats 4000000
namespace DL
open PySem PySem.Spec PyProof.Rows L2
/-! ### max(a, b), min(a, b) of two alike data -/
/-! .. as readings -/
/-! {} of either kind -/
end DL
set_option Elab.async false
set_option linter.all false
set_option maxRecDepth 100000
set_option maxHeartbeats 4000000
namespace DL
open PySem PySem.Spec PyProof.Rows L2
/-! ### sorted(d), d a dict of any keys that is a part of a tree -/
/-! ### things of one kind that may be a dict's keys -/
/-! a dict of things, a part of an instance -/
end DL
set_option Elab.async false
set_option linter.all false
set_option maxRecDepth 100000
set_option maxHeartbeats 4000000
namespace DL
open PySem PySem.Spec PyProof.Rows L2
/-! ### len of a list that is a part of a tree -/
end DL
set_option Elab.async false
set_option linter.all false
set_option maxRecDepth 100000
set_option maxHeartbeats 4000000
namespace DL
open PySem PySem.Spec PyProof.Rows L2
/-! ### lists of lists of things, parts of a tree -/
end DL
set_option Elab.async false
set_option linter.all false
set_option maxRecDepth 100000
set_option maxHeartbeats 4000000
namespace DL
open PySem PySem.Spec PyProof.Rows L2
/-! ### a cell of its own told by its address alone -/
/-! ### things: numbers, texts, legs -/
end DL
set_option Elab.async false
set_option linter.all false
set_option maxRecDepth 100000
set_option maxHeartbeats 4000000
namespace DL
open PySem PySem.Spec PyProof.Rows L2
/-! ### a text times a number -/
/-! ### list(d), d a dict that is a part of a tree -/
/-! ### xs[i] = e, xs a list that is a part of a tree, e new -/
def oSetLT : EV → EV → EV → Mu → (Mu → Prop) → Prop := fun z x y μ q => match x, y with
  | .at n p b, .dat (.int k) => nodK μ n p b fun kd ts => kd = .lst ∧ ∃ j, ixN ts.length k = some j ∧ atK (some j) ts fun _ _ => treeK (fun t => q (putAt μ n p (.nod .lst b (ts.set j t)))) z
  | _, _ => False
def sSetLT (to ti tv : TDE) : TDS := fun d E η μ => tv η μ (fun z μ1 => to η μ1 (fun x μ2 => ti η μ2 (fun y μ3 => oSetLT z x y μ3 fun μ4 => d.nx η μ4) fun _ _ => False) fun _ _ => False) E
theorem s_setLT {to ti tv : TDE} {d : DEnds} {E : XQ} {η : DEnv} {μ : Mu} (h : tv η μ (fun z μ1 => to η μ1 (fun x μ2 => ti η μ2 (fun y μ3 => oSetLT z x y μ3 fun μ4 => d.nx η μ4) fun _ _ => False) fun _ _ => False) E) : sSetLT to ti tv d E η μ := h
theorem q_setLT {to ti tv : TDE} {v : TDS} {d : DEnds} {E : XQ} {η : DEnv} {μ : Mu} (h : tv η μ (fun z μ1 => to η μ1 (fun x μ2 => ti η μ2 (fun y μ3 => oSetLT z x y μ3 fun μ4 => v d E η μ4) fun _ _ => False) fun _ _ => False) E) : sSeq (sSetLT to ti tv) v d E η μ := h
end DL
namespace DL
open PySem PySem.Spec PyProof.Rows L2
end DL
set_option Elab.async false
set_option linter.all false
set_option maxRecDepth 100000
set_option maxHeartbeats 4000000
namespace DL
open PySem PySem.Spec PyProof.Rows L2
/-! ### sets of tuples of texts: what is asked of a member, and the search -/
abbrev TxRow := List Str × Addr
abbrev TxAt (P : Program) (w : World) (h : Heap) (r : TxRow) : Prop := IsTupleKey (strKind P w) h r.1 r.2
abbrev txH (P : Program) (w : World) (k : List Str) : Int := tupleKeyHash (strKind P w) k
end DL
set_option Elab.async false
set_option linter.all false
set_option maxRecDepth 100000
set_option maxHeartbeats 4000000
namespace DL
open PySem PySem.Spec PyProof.Rows L2
/-! ### sets of tuples of texts: the set, and the search in it -/
def cellsOf (P : Program) (w : World) (m : List TxRow) : List (Int × Value) := m.map fun r => (txH P w r.1, .ref r.2)
structure SetPs (P : Program) (w : World) (h : Heap) (a : Addr) (m : List TxRow) (es : Array (Int × Value)) (ep : Nat) (t : SetTable) : Prop where
  here : ∃ o, h.get? a = some o ∧ o.ExactSet ∧ o.data = .set es ep t
  ents : es.toList = cellsOf P w m
  tb : TabOk t (m.map fun r => txH P w r.1)
  kn : (m.map Prod.fst).Nodup
  each : ∀ r ∈ m, TxAt P w h r
  shown : w.params.followText "set-order" = true ∨ t.led = true
  space : m.length * 5 < t.mask * 3
  small : m.length < 64
end DL
set_option Elab.async false
set_option linter.all false
set_option maxRecDepth 100000
set_option maxHeartbeats 4000000
namespace DL
open PySem PySem.Spec PyProof.Rows L2
/-! ### sets of tuples of texts: growing -/
end DL
set_option Elab.async false
set_option linter.all false
set_option maxRecDepth 100000
set_option maxHeartbeats 4000000
namespace DL
open PySem PySem.Spec PyProof.Rows L2
/-! ### set(xs), xs a list of tuples of texts -/
structure Came (ks : List TxRow) (i : Nat) (m : List TxRow) : Prop where
  of : ∀ r ∈ m, r ∈ ks.take i
  all : ∀ r ∈ ks.take i, r.1 ∈ m.map Prod.fst
  le : m.length ≤ i
theorem Came.step {ks m m' : List TxRow} {i : Nat} {x : TxRow} (g : Came ks i m) (hx : ks[i]? = some x) (e1 : x.1 ∈ m.map Prod.fst → m' = m) (e2 : x.1 ∉ m.map Prod.fst → m'.Perm (x :: m)) : Came ks (i + 1) m' := by
  have t : ks.take (i + 1) = ks.take i ++ [x] := by rw [List.take_add_one, hx]; rfl
  by_cases h : x.1 ∈ m.map Prod.fst
  · cases e1 h
    refine ⟨fun r hr => ?_, fun r hr => ?_, Nat.le_succ_of_le g.le⟩
    · rw [t]
      exact List.mem_append_left _ (g.of r hr)
    · rw [t, List.mem_append, List.mem_singleton] at hr
      rcases hr with hr | rfl
      · exact g.all r hr
      · exact h
  · have pm := e2 h
    refine ⟨fun r hr => ?_, fun r hr => ?_, by rw [pm.length_eq]; exact Nat.succ_le_succ g.le⟩
    · rw [t, List.mem_append, List.mem_singleton]
      rcases List.mem_cons.mp (pm.mem_iff.mp hr) with z | z
      · exact .inr z
      · exact .inl (g.of r z)
    · rw [(pm.map Prod.fst).mem_iff, List.map_cons, List.mem_cons]
      rw [t, List.mem_append, List.mem_singleton] at hr
      rcases hr with hr | rfl
      · exact .inr (g.all r hr)
      · exact .inl rfl
section
variable {P : Program} {w : World} {A : Around} {E : Value → Shared → Prop} {s : Shared}
theorem SetPs.kept {h h' : Heap} {a : Addr} {m : List TxRow} {es : Array (Int × Value)} {ep : Nat} {t : SetTable} (R : SetPs P w h a m es ep t) (k : ∀ o, h.get? a = some o → h'.get? a = some o) (e : ∀ r ∈ m, TxAt P w h' r) : SetPs P w h' a m es ep t := by
  obtain ⟨o, ho, more⟩ := R.here
  exact { R with here := ⟨o, k o ho, more⟩, each := e }
end
end DL
set_option Elab.async false
set_option linter.all false
set_option maxRecDepth 100000
set_option maxHeartbeats 4000000
namespace DL
open PySem PySem.Spec PyProof.Rows L2
/-! ### sorted(set(xs)), xs a list of tuples of texts -/
/-! ### as an expression -/
end DL
set_option Elab.async false
set_option linter.all false
set_option maxRecDepth 100000
set_option maxHeartbeats 4000000
namespace DL
open PySem PySem.Spec PyProof.Rows L2
/-! ### xs += t, t a tuple -/
end DL
set_option Elab.async false
set_option linter.all false
set_option maxRecDepth 100000
set_option maxHeartbeats 4000000
namespace DL
open PySem PySem.Spec PyProof.Rows L2
/-! ### for, its body laying cells that stay -/
def sForG (vs : List Nat) (ti : TDI) (g : TDG) (tb : TDS) : TDS := fun d E η μ => ti η μ (fun items G μ1 => ∃ Inv : Nat → DEnv → Mu → Prop, Inv 0 (forget η vs) μ1 ∧ (∀ i η μ, Inv i η μ → G μ) ∧
  (∀ (i : Nat) (e : EV) η μ, items[i]? = some e → Inv i η μ → g e η μ fun η2 μ2 => tb { nx := fun η' μ' => Inv (i + 1) (forget η' vs) μ', ct := fun η' μ' => Inv (i + 1) (forget η' vs) μ', bk := d.nx, rt := d.rt } E η2 μ2) ∧
  ∀ η μ, Inv items.length η μ → d.nx η μ) E
def ForGG (vs : List Nat) (g : TDG) (tb : TDS) (d : DEnds) (E : XQ) (η : DEnv) (items : List EV) (G : Mu → Prop) (μ1 : Mu) : Prop := ∃ Inv : Nat → DEnv → Mu → Prop, Inv 0 (forget η vs) μ1 ∧ (∀ i η μ, Inv i η μ → G μ) ∧
  (∀ (i : Nat) (e : EV) η μ, items[i]? = some e → Inv i η μ → g e η μ fun η2 μ2 => tb { nx := fun η' μ' => Inv (i + 1) (forget η' vs) μ', ct := fun η' μ' => Inv (i + 1) (forget η' vs) μ', bk := d.nx, rt := d.rt } E η2 μ2) ∧
  ∀ η μ, Inv items.length η μ → d.nx η μ
section
variable {t v : TDS} {ti : TDI} {g : TDG} {d : DEnds} {E : XQ} {η : DEnv} {μ μ1 : Mu} {vs : List Nat}
theorem s_forG (h : ti η μ (ForGG vs g t d E η) E) : sForG vs ti g t d E η μ := h
theorem q_forG (h : ti η μ (ForGG vs g t { d with nx := v d E } E η) E) : sSeq (sForG vs ti g t) v d E η μ := h
end
end DL
set_option Elab.async false
set_option linter.all false
set_option maxRecDepth 100000
set_option maxHeartbeats 4000000
namespace DL
open PySem PySem.Spec PyProof.Rows L2 NdefX LamX
/-! ### max of three whole numbers -/
/-! ### for x in A + B, both lists that are parts of trees -/
/-! ### what is walked, by one of two readings -/
/-! ### a call that is told of some cells alone -/
def pickM (is : List Nat) (μ : Mu) : Mu := is.map fun i => (μ[i]?).getD .dead
theorem pickM_len {is : List Nat} {μ : Mu} : (pickM is μ).length = is.length := by unfold pickM; simp
theorem pickM_get {is : List Nat} {μ : Mu} {k i : Nat} (h : is[k]? = some i) : (pickM is μ)[k]? = some ((μ[i]?).getD .dead) := by unfold pickM; rw [List.getElem?_map, h]; rfl
/-- the world seen so -/
abbrev Wd.pick (s : Wd) (is : List Nat) : Wd := { s with L := fun k => s.L (is.getD k 0), O := fun k a => s.O (is.getD k 0) a }
def PickOk (is : List Nat) (μ : Mu) : Prop := is.Nodup ∧ ∀ i ∈ is, i < μ.length
theorem getD_get {is : List Nat} {k : Nat} (h : k < is.length) : is[k]? = some (is.getD k 0) := by
  rw [List.getD_eq_getElem?_getD, List.getElem?_eq_getElem h]
  rfl
section
variable {K : PySem.W.Frag} {s s' : Wd} {μ : Mu} {is : List Nat}
theorem PickOk.cell (h : PickOk is μ) {k : Nat} (hk : k < is.length) : is.getD k 0 < μ.length ∧ (pickM is μ)[k]? = μ[is.getD k 0]? := by
  have e := getD_get hk
  have h1 := h.2 _ (List.mem_of_getElem? e)
  refine ⟨h1, ?_⟩
  rw [pickM_get e, List.getElem?_eq_getElem h1]
  rfl
theorem PickOk.inj (h : PickOk is μ) {k j : Nat} (hk : k < is.length) (hj : j < is.length) (e : is.getD k 0 = is.getD j 0) : k = j := by
  have e1 := getD_get hk
  have e2 := getD_get hj
  rw [List.getElem?_eq_getElem hk] at e1
  rw [List.getElem?_eq_getElem hj] at e2
  have z := List.pairwise_iff_getElem.mp h.1
  have e3 : is[k] = is[j] := by rw [Option.some.inj e1, Option.some.inj e2, e]
  by_cases q : k < j
  · exact absurd e3 (z k j hk hj q)
  · by_cases q2 : j < k
    · exact absurd e3.symm (z j k hj hk q2)
    · omega
theorem Rep.pick (R : Rep K s μ) (h : PickOk is μ) : Rep K (s.pick is) (pickM is μ) := by
  refine ⟨R.sub, fun k c hc => ?_, fun k j a hk hj h1 h2 => ?_, fun k hk => ?_, fun k a hk h1 => ?_, fun k t ht => ?_⟩
  · have hk : k < is.length := by have := (List.getElem?_eq_some_iff.mp hc).1; rw [pickM_len] at this; exact this
    rw [(h.cell hk).2] at hc
    exact (R.cell _ c hc).atL
  · rw [pickM_len] at hk hj
    exact h.inj hk hj (R.dis _ _ a (h.cell hk).1 (h.cell hj).1 h1 h2)
  · rw [pickM_len] at hk
    exact R.root _ (h.cell hk).1
  · rw [pickM_len] at hk
    exact R.live _ a (h.cell hk).1 h1
  · have hk : k < is.length := by have := (List.getElem?_eq_some_iff.mp ht).1; rw [pickM_len] at this; exact this
    rw [(h.cell hk).2] at ht
    obtain ⟨a, b, c⟩ := R.tree _ t ht
    exact ⟨a, b, c⟩
theorem CellAt.keeps {s' : Wd} {a : Addr} {c : Cell} (h : CellAt K s a c) (e : Same s.F s'.F) (k : Keeps s.F s.H s'.F s'.H a) : CellAt K s' a c := by
  cases c with
  | lst xs =>
    obtain ⟨h0, vs, h1, h2⟩ := h
    exact ⟨k.2 h0 (fun ws z => by rw [h1] at z; cases z), vs, k.1.trans h1, h2.mono e⟩
  | frz xs => obtain ⟨vs, h1, h2⟩ := h; exact ⟨vs, e _ _ h1, h2.mono e⟩
  | dct kvs =>
    obtain ⟨h0, vs, h1, h2, h3⟩ := h
    exact ⟨k.2 h0 (fun ws z => by rw [h1] at z; cases z), vs, k.1.trans h1, h2, h3.mono e⟩
  | dck kvs =>
    obtain ⟨h0, vs, h1, h2, h3⟩ := h
    exact ⟨k.2 h0 (fun ws z => by rw [h1] at z; cases z), vs, k.1.trans h1, h2, h3.mono e⟩
  | abs P =>
    obtain ⟨xs, hP, h0, vs, h1, h2⟩ := h
    exact ⟨xs, hP, k.2 h0 (fun ws z => by rw [h1] at z; cases z), vs, k.1.trans h1, h2.mono e⟩
  | tab P nm =>
    obtain ⟨rfl, ht⟩ := h
    obtain ⟨ps, h1, _⟩ := ht.ex
    exact ⟨rfl, ht.to e (k.2 ht.nf (fun ws z => by rw [h1] at z; cases z)) fun ps hp => k.1.trans hp⟩
  | own t => exact fun z => h (k.1.symm.trans z)
  | dead => exact fun z => h (k.1.symm.trans z)
end
/-- what is handed over, its cells by the places in the pick -/
inductive DisP (P : Program) (w : World) (mg : Str → Option Value) (base : Heap) (D : Need → Prop) (is : List Nat) : EV → EV → Prop
  | dat (d : PyData) : DisP P w mg base D is (.dat d) (.dat d)
  | loc {n k : Nat} : is[k]? = some n → DisP P w mg base D is (.loc n) (.loc k)
  | fn {N N' : Need} {k : Nat} {g : PyData → Option Int} : Left D N N' → DisP P w mg base D is (.per (wP P w mg base N k g)) (.per (wP P w mg base N' k g))
inductive DisPs (P : Program) (w : World) (mg : Str → Option Value) (base : Heap) (D : Need → Prop) (is : List Nat) : List EV → List EV → Prop
  | nil : DisPs P w mg base D is [] []
  | cons {e e' : EV} {es es' : List EV} : DisP P w mg base D is e e' → DisPs P w mg base D is es es' → DisPs P w mg base D is (e :: es) (e' :: es')
section
variable {P : Program} {w : World} {mg : Str → Option Value} {base : Heap} {D : Need → Prop} {K : PySem.W.Frag} {s : Wd} {N : Nat} {C : CMap} {is : List Nat}
theorem DisP.ok {v : V} {y y' : EV} (hD : ∀ N, D N → N.ψ K (layC s.F C)) (nF : ∀ a u, C a = some u → s.F a = none) (h : DisP P w mg base D is y y') (r : VR K s N v y) : VR K (({ s with H := layC s.H C, F := layC s.F C } : Wd).pick is) is.length v y' := by
  cases h with
  | dat d => exact DR.mono (same_lay nF) r
  | loc hk =>
    rename_i n k
    have r' : n < N ∧ v = .ref (s.L n) := r
    have hl := (List.getElem?_eq_some_iff.mp hk).1
    have e := getD_get hl
    rw [hk] at e
    refine ⟨hl, ?_⟩
    show v = .ref (s.L (is.getD k 0))
    rw [← Option.some.inj e]
    exact r'.2
  | fn l => exact left_ok hD (same_lay nF) l r
theorem DisPs.ok (hD : ∀ N, D N → N.ψ K (layC s.F C)) (nF : ∀ a u, C a = some u → s.F a = none) : ∀ {vs : List V} {es es' : List EV}, DisPs P w mg base D is es es' → VL K s N vs es → VL K (({ s with H := layC s.H C, F := layC s.F C } : Wd).pick is) is.length vs es'
  | _, _, _, .nil, .nil => .nil
  | _, _, _, .cons h hs, .cons r rs => .cons (h.ok hD nF r) (DisPs.ok hD nF hs rs)
end
end DL
set_option Elab.async false
set_option linter.all false
set_option maxRecDepth 100000
set_option maxHeartbeats 4000000
namespace DL
open PySem PySem.Spec PyProof.Rows L2 NdefX LamX
/-! ### what goes out of a def: a new list, its last item a cell of the def's own -/
end DL
set_option Elab.async false
set_option linter.all false
set_option maxRecDepth 100000
set_option maxHeartbeats 4000000
namespace DL
open PySem PySem.Spec PyProof.Rows L2
/-! ### exceptions with one field -/
def rfK (C : Addr) (f : Str) (E : XQ) : List EV → Mu → Prop := fun es μ1 => match es with
  | [.dat d] => E ⟨C, some [(f, d)]⟩ μ1
  | _ => False
def sRaiseF (C : Addr) (f : Str) (t : TDA) : TDS := fun _ E η μ => t η μ (rfK C f E) E
theorem s_raiseF {C : Addr} {f : Str} {t : TDA} {d : DEnds} {E : XQ} {η : DEnv} {μ : Mu} (h : t η μ (rfK C f E) E) : sRaiseF C f t d E η μ := h
theorem q_raiseF {C : Addr} {f : Str} {t : TDA} {d : DEnds} {E : XQ} {η : DEnv} {μ : Mu} {v : TDS} (h : t η μ (rfK C f E) E) : sSeq (sRaiseF C f t) v d E η μ := h
end DL
set_option Elab.async false
set_option linter.all false
set_option maxRecDepth 100000
set_option maxHeartbeats 4000000
namespace DL
open PySem PySem.Spec PyProof.Rows L2
/-! ### e.f, e a caught exception that is kept -/
/-! ### try with two clauses, either keeping its exception -/
end DL
set_option Elab.async false
set_option linter.all false
set_option maxRecDepth 100000
set_option maxHeartbeats 4000000
namespace DL
open PySem PySem.Spec PyProof.Rows L2
/-! ### an exception that leaves a comprehension -/
end DL
set_option Elab.async false
set_option linter.all false
set_option maxRecDepth 100000
set_option maxHeartbeats 4000000
namespace DL
open PySem PySem.Spec PyProof.Rows L2
end DL
set_option Elab.async false
set_option linter.all false
set_option maxRecDepth 100000
set_option maxHeartbeats 4000000
namespace DL
open PySem PySem.Spec PyProof.Rows L2
/-! ### .. by data -/
end DL
set_option Elab.async false
set_option linter.all false
set_option maxRecDepth 100000
set_option maxHeartbeats 4000000
namespace DL
open PySem PySem.Spec PyProof.Rows L2 TL
/-! ### texts: split at a sign, startswith, int, str, f-strings -/
end DL
set_option Elab.async false
set_option linter.all false
set_option maxRecDepth 100000
set_option maxHeartbeats 4000000
namespace DL
open PySem PySem.Spec PyProof.Rows L2
/-! ### (data, .., a new list): a tuple that is a tree -/
/-! ### a, b = a tuple that is a part of a tree -/
/-! ### a text times a number, nought too -/
end DL
set_option Elab.async false
set_option linter.all false
set_option maxRecDepth 100000
set_option maxHeartbeats 4000000
namespace DL
open PySem PySem.Spec PyProof.Rows L2
/-! ### {"k1": v1, "k2": v2}.get(e, d) -/
end DL
set_option Elab.async false
set_option linter.all false
set_option maxRecDepth 100000
set_option maxHeartbeats 4000000
namespace DL
open PySem PySem.Spec PyProof.Rows L2
/-! ### a list that is a part of a tree, == and != [] -/
end DL
set_option Elab.async false
set_option linter.all false
set_option maxRecDepth 100000
set_option maxHeartbeats 4000000
namespace DL
open PySem PySem.Spec PyProof.Rows L2
/-! ### a comprehension whose items may raise -/
end DL
set_option Elab.async false
set_option linter.all false
set_option maxRecDepth 100000
set_option maxHeartbeats 4000000
namespace B
open PySem L2 DL
def top (i : Nat) : Stmt := PySem.Challenge.pw_boardlay_k32_waves.main.body.getD i (.Pass ⟨0, 0, 0, 0⟩)
abbrev s_is_number : Stmt := top 21
abbrev s_has : Stmt := top 23
abbrev s_need_weight : Stmt := top 26
abbrev s_by_sheet : Stmt := top 27
abbrev s_dearer : Stmt := top 28
abbrev s_heavier : Stmt := top 29
abbrev s_steps : Stmt := top 31
abbrev s_is_free : Stmt := top 32
abbrev s_need_free : Stmt := top 33
abbrev s_free_steps : Stmt := top 34
abbrev s_step_price : Stmt := top 35
abbrev s_waves : Stmt := top 36
abbrev s_law_cell_at : Stmt := top 38
abbrev s_law_state : Stmt := top 39
abbrev s_law_next : Stmt := top 40
abbrev s_law_size : Stmt := top 41
abbrev s_law_floor : Stmt := top 42
abbrev s_law_view : Stmt := top 43
abbrev s_law_some : Stmt := top 44
abbrev s_law_near_steps : Stmt := top 46
abbrev s_law_weigh : Stmt := top 47
abbrev s_law_step_price : Stmt := top 48
abbrev s_law_least : Stmt := top 49
abbrev s_law_alone : Stmt := top 50
abbrev s_law_word : Stmt := top 51
abbrev s_law_told : Stmt := top 52
abbrev s_law : Stmt := top 53
structure Top (K : PySem.W.Frag) (mg : Str → Option Value) where
  a_is_number : Addr
  fd_is_number : FuncData
  F_is_number : Fun K "is_number" "is_number" s_is_number a_is_number fd_is_number
  m_is_number : mg "is_number" = some (.ref a_is_number)
  b_is_number : Binds K fd_is_number ["thing", "least", "most"] []
  a_has : Addr
  fd_has : FuncData
  F_has : Fun K "has" "has" s_has a_has fd_has
  m_has : mg "has" = some (.ref a_has)
  b_has : Binds K fd_has ["sheet", "x", "y"] []
  a_need_weight : Addr
  fd_need_weight : FuncData
  F_need_weight : Fun K "need_weight" "need_weight" s_need_weight a_need_weight fd_need_weight
  m_need_weight : mg "need_weight" = some (.ref a_need_weight)
  b_need_weight : Binds K fd_need_weight ["thing", "least"] []
  a_by_sheet : Addr
  fd_by_sheet : FuncData
  c_by_sheet : Addr
  P_by_sheet : Addr
  F_by_sheet : FunC K "by_sheet" "by_sheet" s_by_sheet a_by_sheet fd_by_sheet c_by_sheet
  kp_by_sheet : PySem.W.keepIn K (.ref a_by_sheet) = true
  hd_by_sheet : PySem.W.codeHdIn K c_by_sheet P_by_sheet = true
  gp_by_sheet : mainGlobals ≠ P_by_sheet
  m_by_sheet : mg "by_sheet" = some (.ref a_by_sheet)
  b_by_sheet : Binds K fd_by_sheet ["front", "back"] []
  a_dearer : Addr
  fd_dearer : FuncData
  c_dearer : Addr
  P_dearer : Addr
  F_dearer : FunC K "dearer" "dearer" s_dearer a_dearer fd_dearer c_dearer
  kp_dearer : PySem.W.keepIn K (.ref a_dearer) = true
  hd_dearer : PySem.W.codeHdIn K c_dearer P_dearer = true
  gp_dearer : mainGlobals ≠ P_dearer
  m_dearer : mg "dearer" = some (.ref a_dearer)
  b_dearer : Binds K fd_dearer ["weigh", "spots", "more"] []
  a_heavier : Addr
  fd_heavier : FuncData
  c_heavier : Addr
  P_heavier : Addr
  F_heavier : FunC K "heavier" "heavier" s_heavier a_heavier fd_heavier c_heavier
  kp_heavier : PySem.W.keepIn K (.ref a_heavier) = true
  hd_heavier : PySem.W.codeHdIn K c_heavier P_heavier = true
  gp_heavier : mainGlobals ≠ P_heavier
  m_heavier : mg "heavier" = some (.ref a_heavier)
  b_heavier : Binds K fd_heavier ["one", "other"] []
  a_steps : Addr
  fd_steps : FuncData
  F_steps : Fun K "steps" "steps" s_steps a_steps fd_steps
  m_steps : mg "steps" = some (.ref a_steps)
  b_steps : Binds K fd_steps ["size", "spot"] []
  a_is_free : Addr
  fd_is_free : FuncData
  F_is_free : Fun K "is_free" "is_free" s_is_free a_is_free fd_is_free
  m_is_free : mg "is_free" = some (.ref a_is_free)
  b_is_free : Binds K fd_is_free ["view", "spot"] []
  a_need_free : Addr
  fd_need_free : FuncData
  F_need_free : Fun K "need_free" "need_free" s_need_free a_need_free fd_need_free
  m_need_free : mg "need_free" = some (.ref a_need_free)
  b_need_free : Binds K fd_need_free ["view", "spots"] []
  a_free_steps : Addr
  fd_free_steps : FuncData
  F_free_steps : Fun K "free_steps" "free_steps" s_free_steps a_free_steps fd_free_steps
  m_free_steps : mg "free_steps" = some (.ref a_free_steps)
  b_free_steps : Binds K fd_free_steps ["view", "spot"] []
  a_step_price : Addr
  fd_step_price : FuncData
  F_step_price : Fun K "step_price" "step_price" s_step_price a_step_price fd_step_price
  m_step_price : mg "step_price" = some (.ref a_step_price)
  b_step_price : Binds K fd_step_price ["spot", "ahead", "weigh", "hole"] []
  a_waves : Addr
  fd_waves : FuncData
  F_waves : Fun K "waves" "waves" s_waves a_waves fd_waves
  m_waves : mg "waves" = some (.ref a_waves)
  b_waves : Binds K fd_waves ["view", "targets", "weigh", "hole"] []
  a_law_cell_at : Addr
  fd_law_cell_at : FuncData
  F_law_cell_at : Fun K "_law_cell_at" "_law_cell_at" s_law_cell_at a_law_cell_at fd_law_cell_at
  m_law_cell_at : mg "_law_cell_at" = some (.ref a_law_cell_at)
  b_law_cell_at : Binds K fd_law_cell_at ["_law_script", "_law_k"] []
  a_law_state : Addr
  fd_law_state : FuncData
  F_law_state : Fun K "_law_state" "_law_state" s_law_state a_law_state fd_law_state
  m_law_state : mg "_law_state" = some (.ref a_law_state)
  b_law_state : Binds K fd_law_state ["_law_cell", "_law_k"] []
  a_law_next : Addr
  fd_law_next : FuncData
  F_law_next : Fun K "_law_next" "_law_next" s_law_next a_law_next fd_law_next
  m_law_next : mg "_law_next" = some (.ref a_law_next)
  b_law_next : Binds K fd_law_next ["_law_state_here", "_law_size_here"] []
  a_law_size : Addr
  fd_law_size : FuncData
  F_law_size : Fun K "_law_size" "_law_size" s_law_size a_law_size fd_law_size
  m_law_size : mg "_law_size" = some (.ref a_law_size)
  b_law_size : Binds K fd_law_size ["_law_state_here"] []
  a_law_floor : Addr
  fd_law_floor : FuncData
  F_law_floor : Fun K "_law_floor" "_law_floor" s_law_floor a_law_floor fd_law_floor
  m_law_floor : mg "_law_floor" = some (.ref a_law_floor)
  b_law_floor : Binds K fd_law_floor ["_law_size_here"] []
  a_law_view : Addr
  fd_law_view : FuncData
  F_law_view : Fun K "_law_view" "_law_view" s_law_view a_law_view fd_law_view
  m_law_view : mg "_law_view" = some (.ref a_law_view)
  b_law_view : Binds K fd_law_view ["_law_state_here", "_law_size_here"] []
  a_law_some : Addr
  fd_law_some : FuncData
  F_law_some : Fun K "_law_some" "_law_some" s_law_some a_law_some fd_law_some
  m_law_some : mg "_law_some" = some (.ref a_law_some)
  b_law_some : Binds K fd_law_some ["_law_state_here", "_law_free", "_law_most"] []
  a_law_near_steps : Addr
  fd_law_near_steps : FuncData
  F_law_near_steps : Fun K "_law_near_steps" "_law_near_steps" s_law_near_steps a_law_near_steps fd_law_near_steps
  m_law_near_steps : mg "_law_near_steps" = some (.ref a_law_near_steps)
  b_law_near_steps : Binds K fd_law_near_steps ["_law_size_here", "_law_spot"] []
  a_law_weigh : Addr
  fd_law_weigh : FuncData
  c_law_weigh : Addr
  P_law_weigh : Addr
  F_law_weigh : FunC K "_law_weigh" "_law_weigh" s_law_weigh a_law_weigh fd_law_weigh c_law_weigh
  kp_law_weigh : PySem.W.keepIn K (.ref a_law_weigh) = true
  hd_law_weigh : PySem.W.codeHdIn K c_law_weigh P_law_weigh = true
  gp_law_weigh : mainGlobals ≠ P_law_weigh
  m_law_weigh : mg "_law_weigh" = some (.ref a_law_weigh)
  b_law_weigh : Binds K fd_law_weigh ["_law_state_here", "_law_size_here"] []
  a_law_step_price : Addr
  fd_law_step_price : FuncData
  F_law_step_price : Fun K "_law_step_price" "_law_step_price" s_law_step_price a_law_step_price fd_law_step_price
  m_law_step_price : mg "_law_step_price" = some (.ref a_law_step_price)
  b_law_step_price : Binds K fd_law_step_price ["_law_due", "_law_hole", "_law_spot", "_law_ahead"] []
  a_law_least : Addr
  fd_law_least : FuncData
  F_law_least : Fun K "_law_least" "_law_least" s_law_least a_law_least fd_law_least
  m_law_least : mg "_law_least" = some (.ref a_law_least)
  b_law_least : Binds K fd_law_least ["_law_size_here", "_law_free", "_law_targets", "_law_due", "_law_hole"] []
  a_law_alone : Addr
  fd_law_alone : FuncData
  F_law_alone : Fun K "_law_alone" "_law_alone" s_law_alone a_law_alone fd_law_alone
  m_law_alone : mg "_law_alone" = some (.ref a_law_alone)
  b_law_alone : Binds K fd_law_alone ["_law_e"] []
  a_law_word : Addr
  fd_law_word : FuncData
  F_law_word : Fun K "_law_word" "_law_word" s_law_word a_law_word fd_law_word
  m_law_word : mg "_law_word" = some (.ref a_law_word)
  b_law_word : Binds K fd_law_word ["_law_view_here", "_law_targets", "_law_weigh_here", "_law_hole"] []
  a_law_told : Addr
  fd_law_told : FuncData
  F_law_told : Fun K "_law_told" "_law_told" s_law_told a_law_told fd_law_told
  m_law_told : mg "_law_told" = some (.ref a_law_told)
  b_law_told : Binds K fd_law_told ["_law_found", "_law_due"] []
  a_law : Addr
  fd_law : FuncData
  F_law : Fun K "law" "law" s_law a_law fd_law
  m_law : mg "law" = some (.ref a_law)
  b_law : Binds K fd_law ["_law_script"] []
  n_ValueError : mg "ValueError" = none
  n_bool : mg "bool" = none
  n_dict : mg "dict" = none
  n_int : mg "int" = none
  n_isinstance : mg "isinstance" = none
  n_len : mg "len" = none
  n_list : mg "list" = none
  n_max : mg "max" = none
  n_min : mg "min" = none
  n_range : mg "range" = none
  n_sorted : mg "sorted" = none
  n_sum : mg "sum" = none
  n_tuple : mg "tuple" = none
  g_GREATEST : ∃ t, mg "GREATEST" = some (.int 9 t)
  c_BoardError : Addr
  gx_BoardError : mg "BoardError" = some (.ref c_BoardError)
  c_NoBytes : Addr
  gx_NoBytes : mg "NoBytes" = some (.ref c_NoBytes)
  c_NoDeed : Addr
  gx_NoDeed : mg "NoDeed" = some (.ref c_NoDeed)
  c_NoDrawing : Addr
  gx_NoDrawing : mg "NoDrawing" = some (.ref c_NoDrawing)
  c_NoOrder : Addr
  gx_NoOrder : mg "NoOrder" = some (.ref c_NoOrder)
  c_NoPart : Addr
  gx_NoPart : mg "NoPart" = some (.ref c_NoPart)
  c_NoSize : Addr
  gx_NoSize : mg "NoSize" = some (.ref c_NoSize)
  c_NoSpot : Addr
  gx_NoSpot : mg "NoSpot" = some (.ref c_NoSpot)
  c_NoText : Addr
  gx_NoText : mg "NoText" = some (.ref c_NoText)
  c_NoTie : Addr
  gx_NoTie : mg "NoTie" = some (.ref c_NoTie)
  c_NoTurn : Addr
  gx_NoTurn : mg "NoTurn" = some (.ref c_NoTurn)
  c_NoWay : Addr
  gx_NoWay : mg "NoWay" = some (.ref c_NoWay)
  c_NoWeight : Addr
  gx_NoWeight : mg "NoWeight" = some (.ref c_NoWeight)
  c_NoWord : Addr
  gx_NoWord : mg "NoWord" = some (.ref c_NoWord)
  c_OffFloor : Addr
  gx_OffFloor : mg "OffFloor" = some (.ref c_OffFloor)
  c_OnShut : Addr
  gx_OnShut : mg "OnShut" = some (.ref c_OnShut)
  c_Overlap : Addr
  gx_Overlap : mg "Overlap" = some (.ref c_Overlap)
  c_TooMany : Addr
  gx_TooMany : mg "TooMany" = some (.ref c_TooMany)
  c_TooNear : Addr
  gx_TooNear : mg "TooNear" = some (.ref c_TooNear)
  hd_BoardError : PySem.W.hasDictIn K c_BoardError = true
  xt_BoardError : PySem.W.typeIn K (.ref c_BoardError) = some (.type "type")
  hd_NoBytes : PySem.W.hasDictIn K c_NoBytes = true
  xt_NoBytes : PySem.W.typeIn K (.ref c_NoBytes) = some (.type "type")
  hd_NoDeed : PySem.W.hasDictIn K c_NoDeed = true
  xt_NoDeed : PySem.W.typeIn K (.ref c_NoDeed) = some (.type "type")
  hd_NoDrawing : PySem.W.hasDictIn K c_NoDrawing = true
  xt_NoDrawing : PySem.W.typeIn K (.ref c_NoDrawing) = some (.type "type")
  hd_NoOrder : PySem.W.hasDictIn K c_NoOrder = true
  xt_NoOrder : PySem.W.typeIn K (.ref c_NoOrder) = some (.type "type")
  hd_NoPart : PySem.W.hasDictIn K c_NoPart = true
  xt_NoPart : PySem.W.typeIn K (.ref c_NoPart) = some (.type "type")
  hd_NoSize : PySem.W.hasDictIn K c_NoSize = true
  xt_NoSize : PySem.W.typeIn K (.ref c_NoSize) = some (.type "type")
  hd_NoSpot : PySem.W.hasDictIn K c_NoSpot = true
  xt_NoSpot : PySem.W.typeIn K (.ref c_NoSpot) = some (.type "type")
  hd_NoText : PySem.W.hasDictIn K c_NoText = true
  xt_NoText : PySem.W.typeIn K (.ref c_NoText) = some (.type "type")
  hd_NoTie : PySem.W.hasDictIn K c_NoTie = true
  xt_NoTie : PySem.W.typeIn K (.ref c_NoTie) = some (.type "type")
  hd_NoTurn : PySem.W.hasDictIn K c_NoTurn = true
  xt_NoTurn : PySem.W.typeIn K (.ref c_NoTurn) = some (.type "type")
  hd_NoWay : PySem.W.hasDictIn K c_NoWay = true
  xt_NoWay : PySem.W.typeIn K (.ref c_NoWay) = some (.type "type")
  hd_NoWeight : PySem.W.hasDictIn K c_NoWeight = true
  xt_NoWeight : PySem.W.typeIn K (.ref c_NoWeight) = some (.type "type")
  hd_NoWord : PySem.W.hasDictIn K c_NoWord = true
  xt_NoWord : PySem.W.typeIn K (.ref c_NoWord) = some (.type "type")
  hd_OffFloor : PySem.W.hasDictIn K c_OffFloor = true
  xt_OffFloor : PySem.W.typeIn K (.ref c_OffFloor) = some (.type "type")
  hd_OnShut : PySem.W.hasDictIn K c_OnShut = true
  xt_OnShut : PySem.W.typeIn K (.ref c_OnShut) = some (.type "type")
  hd_Overlap : PySem.W.hasDictIn K c_Overlap = true
  xt_Overlap : PySem.W.typeIn K (.ref c_Overlap) = some (.type "type")
  hd_TooMany : PySem.W.hasDictIn K c_TooMany = true
  xt_TooMany : PySem.W.typeIn K (.ref c_TooMany) = some (.type "type")
  hd_TooNear : PySem.W.hasDictIn K c_TooNear = true
  xt_TooNear : PySem.W.typeIn K (.ref c_TooNear) = some (.type "type")
  xb_BoardError : PySem.W.subIn K (.ref c_BoardError) (.type "BaseException") = some true
  xx_NoSpot : PySem.W.excIn K c_NoSpot [.type "ValueError", .type "Exception", .type "BaseException", .type "object"] "ValueError.__new__" = true
  xk_NoSpot : PySem.W.keepIn K (.ref c_NoSpot) = true
  xb_NoSpot : PySem.W.subIn K (.ref c_NoSpot) (.type "BaseException") = some true
  xe_NoSpot : ExcC K c_NoSpot
  sb_NoSpot_BoardError : PySem.W.subIn K (.ref c_NoSpot) (.ref c_BoardError) = some true
  ne_NoSpot_NoBytes : c_NoSpot ≠ c_NoBytes
  sb_NoSpot_NoBytes : PySem.W.subIn K (.ref c_NoSpot) (.ref c_NoBytes) = some false
  ne_NoSpot_NoDeed : c_NoSpot ≠ c_NoDeed
  sb_NoSpot_NoDeed : PySem.W.subIn K (.ref c_NoSpot) (.ref c_NoDeed) = some false
  ne_NoSpot_NoDrawing : c_NoSpot ≠ c_NoDrawing
  sb_NoSpot_NoDrawing : PySem.W.subIn K (.ref c_NoSpot) (.ref c_NoDrawing) = some false
  ne_NoSpot_NoOrder : c_NoSpot ≠ c_NoOrder
  sb_NoSpot_NoOrder : PySem.W.subIn K (.ref c_NoSpot) (.ref c_NoOrder) = some false
  ne_NoSpot_NoPart : c_NoSpot ≠ c_NoPart
  sb_NoSpot_NoPart : PySem.W.subIn K (.ref c_NoSpot) (.ref c_NoPart) = some false
  ne_NoSpot_NoSize : c_NoSpot ≠ c_NoSize
  sb_NoSpot_NoSize : PySem.W.subIn K (.ref c_NoSpot) (.ref c_NoSize) = some false
  ne_NoSpot_NoText : c_NoSpot ≠ c_NoText
  sb_NoSpot_NoText : PySem.W.subIn K (.ref c_NoSpot) (.ref c_NoText) = some false
  ne_NoSpot_NoTie : c_NoSpot ≠ c_NoTie
  sb_NoSpot_NoTie : PySem.W.subIn K (.ref c_NoSpot) (.ref c_NoTie) = some false
  ne_NoSpot_NoTurn : c_NoSpot ≠ c_NoTurn
  sb_NoSpot_NoTurn : PySem.W.subIn K (.ref c_NoSpot) (.ref c_NoTurn) = some false
  ne_NoSpot_NoWay : c_NoSpot ≠ c_NoWay
  sb_NoSpot_NoWay : PySem.W.subIn K (.ref c_NoSpot) (.ref c_NoWay) = some false
  ne_NoSpot_NoWeight : c_NoSpot ≠ c_NoWeight
  sb_NoSpot_NoWeight : PySem.W.subIn K (.ref c_NoSpot) (.ref c_NoWeight) = some false
  ne_NoSpot_NoWord : c_NoSpot ≠ c_NoWord
  sb_NoSpot_NoWord : PySem.W.subIn K (.ref c_NoSpot) (.ref c_NoWord) = some false
  ne_NoSpot_OffFloor : c_NoSpot ≠ c_OffFloor
  sb_NoSpot_OffFloor : PySem.W.subIn K (.ref c_NoSpot) (.ref c_OffFloor) = some false
  ne_NoSpot_OnShut : c_NoSpot ≠ c_OnShut
  sb_NoSpot_OnShut : PySem.W.subIn K (.ref c_NoSpot) (.ref c_OnShut) = some false
  ne_NoSpot_Overlap : c_NoSpot ≠ c_Overlap
  sb_NoSpot_Overlap : PySem.W.subIn K (.ref c_NoSpot) (.ref c_Overlap) = some false
  ne_NoSpot_TooMany : c_NoSpot ≠ c_TooMany
  sb_NoSpot_TooMany : PySem.W.subIn K (.ref c_NoSpot) (.ref c_TooMany) = some false
  ne_NoSpot_TooNear : c_NoSpot ≠ c_TooNear
  sb_NoSpot_TooNear : PySem.W.subIn K (.ref c_NoSpot) (.ref c_TooNear) = some false
  sb_NoSpot_ValueError : PySem.W.subIn K (.ref c_NoSpot) (.type "ValueError") = some true
  xx_NoWeight : PySem.W.excIn K c_NoWeight [.type "ValueError", .type "Exception", .type "BaseException", .type "object"] "ValueError.__new__" = true
  xk_NoWeight : PySem.W.keepIn K (.ref c_NoWeight) = true
  xb_NoWeight : PySem.W.subIn K (.ref c_NoWeight) (.type "BaseException") = some true
  xe_NoWeight : ExcC K c_NoWeight
  sb_NoWeight_BoardError : PySem.W.subIn K (.ref c_NoWeight) (.ref c_BoardError) = some true
  ne_NoWeight_NoBytes : c_NoWeight ≠ c_NoBytes
  sb_NoWeight_NoBytes : PySem.W.subIn K (.ref c_NoWeight) (.ref c_NoBytes) = some false
  ne_NoWeight_NoDeed : c_NoWeight ≠ c_NoDeed
  sb_NoWeight_NoDeed : PySem.W.subIn K (.ref c_NoWeight) (.ref c_NoDeed) = some false
  ne_NoWeight_NoDrawing : c_NoWeight ≠ c_NoDrawing
  sb_NoWeight_NoDrawing : PySem.W.subIn K (.ref c_NoWeight) (.ref c_NoDrawing) = some false
  ne_NoWeight_NoOrder : c_NoWeight ≠ c_NoOrder
  sb_NoWeight_NoOrder : PySem.W.subIn K (.ref c_NoWeight) (.ref c_NoOrder) = some false
  ne_NoWeight_NoPart : c_NoWeight ≠ c_NoPart
  sb_NoWeight_NoPart : PySem.W.subIn K (.ref c_NoWeight) (.ref c_NoPart) = some false
  ne_NoWeight_NoSize : c_NoWeight ≠ c_NoSize
  sb_NoWeight_NoSize : PySem.W.subIn K (.ref c_NoWeight) (.ref c_NoSize) = some false
  ne_NoWeight_NoSpot : c_NoWeight ≠ c_NoSpot
  sb_NoWeight_NoSpot : PySem.W.subIn K (.ref c_NoWeight) (.ref c_NoSpot) = some false
  ne_NoWeight_NoText : c_NoWeight ≠ c_NoText
  sb_NoWeight_NoText : PySem.W.subIn K (.ref c_NoWeight) (.ref c_NoText) = some false
  ne_NoWeight_NoTie : c_NoWeight ≠ c_NoTie
  sb_NoWeight_NoTie : PySem.W.subIn K (.ref c_NoWeight) (.ref c_NoTie) = some false
  ne_NoWeight_NoTurn : c_NoWeight ≠ c_NoTurn
  sb_NoWeight_NoTurn : PySem.W.subIn K (.ref c_NoWeight) (.ref c_NoTurn) = some false
  ne_NoWeight_NoWay : c_NoWeight ≠ c_NoWay
  sb_NoWeight_NoWay : PySem.W.subIn K (.ref c_NoWeight) (.ref c_NoWay) = some false
  ne_NoWeight_NoWord : c_NoWeight ≠ c_NoWord
  sb_NoWeight_NoWord : PySem.W.subIn K (.ref c_NoWeight) (.ref c_NoWord) = some false
  ne_NoWeight_OffFloor : c_NoWeight ≠ c_OffFloor
  sb_NoWeight_OffFloor : PySem.W.subIn K (.ref c_NoWeight) (.ref c_OffFloor) = some false
  ne_NoWeight_OnShut : c_NoWeight ≠ c_OnShut
  sb_NoWeight_OnShut : PySem.W.subIn K (.ref c_NoWeight) (.ref c_OnShut) = some false
  ne_NoWeight_Overlap : c_NoWeight ≠ c_Overlap
  sb_NoWeight_Overlap : PySem.W.subIn K (.ref c_NoWeight) (.ref c_Overlap) = some false
  ne_NoWeight_TooMany : c_NoWeight ≠ c_TooMany
  sb_NoWeight_TooMany : PySem.W.subIn K (.ref c_NoWeight) (.ref c_TooMany) = some false
  ne_NoWeight_TooNear : c_NoWeight ≠ c_TooNear
  sb_NoWeight_TooNear : PySem.W.subIn K (.ref c_NoWeight) (.ref c_TooNear) = some false
  sb_NoWeight_ValueError : PySem.W.subIn K (.ref c_NoWeight) (.type "ValueError") = some true
def tabsOf {K : PySem.W.Frag} {mg : Str → Option Value} (T : Top K mg) : List (Addr × Str) := [(T.P_by_sheet, "by_sheet.<locals>.<lambda>"), (T.P_dearer, "dearer.<locals>.told"), (T.P_heavier, "heavier.<locals>.<lambda>"), (T.P_law_weigh, "_law_weigh.<locals>.<lambda>")]
theorem sc_is_number : FnScope ["thing", "least", "most"] ["thing", "least", "most"] (defScope s_is_number) := ⟨rfl, rfl, rfl, by decide +kernel, rfl, by decide +kernel, by decide +kernel⟩
theorem sc_has : FnScope ["sheet", "x", "y"] ["sheet", "x", "y"] (defScope s_has) := ⟨rfl, rfl, rfl, by decide +kernel, rfl, by decide +kernel, by decide +kernel⟩
theorem sc_need_weight : FnScope ["thing", "least"] ["thing", "least"] (defScope s_need_weight) := ⟨rfl, rfl, rfl, by decide +kernel, rfl, by decide +kernel, by decide +kernel⟩
theorem sc_by_sheet : FnScope ["front", "back"] ["front", "back"] (defScope s_by_sheet) := ⟨rfl, rfl, rfl, by decide +kernel, rfl, by decide +kernel, by decide +kernel⟩
theorem sc_dearer : FnScope ["weigh", "spots", "more", "dear", "spot", "told"] ["weigh", "spots", "more"] (defScope s_dearer) := ⟨rfl, rfl, rfl, by decide +kernel, rfl, by decide +kernel, by decide +kernel⟩
theorem sc_heavier : FnScope ["one", "other"] ["one", "other"] (defScope s_heavier) := ⟨rfl, rfl, rfl, by decide +kernel, rfl, by decide +kernel, by decide +kernel⟩
theorem sc_steps : FnScope ["size", "spot", "sheet", "x", "y", "found", "one"] ["size", "spot"] (defScope s_steps) := ⟨rfl, rfl, rfl, by decide +kernel, rfl, by decide +kernel, by decide +kernel⟩
theorem sc_is_free : FnScope ["view", "spot"] ["view", "spot"] (defScope s_is_free) := ⟨rfl, rfl, rfl, by decide +kernel, rfl, by decide +kernel, by decide +kernel⟩
theorem sc_need_free : FnScope ["view", "spots", "spot"] ["view", "spots"] (defScope s_need_free) := ⟨rfl, rfl, rfl, by decide +kernel, rfl, by decide +kernel, by decide +kernel⟩
theorem sc_free_steps : FnScope ["view", "spot", "one"] ["view", "spot"] (defScope s_free_steps) := ⟨rfl, rfl, rfl, by decide +kernel, rfl, by decide +kernel, by decide +kernel⟩
theorem sc_step_price : FnScope ["spot", "ahead", "weigh", "hole", "price"] ["spot", "ahead", "weigh", "hole"] (defScope s_step_price) := ⟨rfl, rfl, rfl, by decide +kernel, rfl, by decide +kernel, by decide +kernel⟩
theorem sc_waves : FnScope ["view", "targets", "weigh", "hole", "found", "rings", "here", "spot", "ahead"] ["view", "targets", "weigh", "hole"] (defScope s_waves) := ⟨rfl, rfl, rfl, by decide +kernel, rfl, by decide +kernel, by decide +kernel⟩
theorem sc_law_cell_at : FnScope ["_law_script", "_law_k"] ["_law_script", "_law_k"] (defScope s_law_cell_at) := ⟨rfl, rfl, rfl, by decide +kernel, rfl, by decide +kernel, by decide +kernel⟩
theorem sc_law_state : FnScope ["_law_cell", "_law_k", "_law_drawn"] ["_law_cell", "_law_k"] (defScope s_law_state) := ⟨rfl, rfl, rfl, by decide +kernel, rfl, by decide +kernel, by decide +kernel⟩
theorem sc_law_next : FnScope ["_law_state_here", "_law_size_here", "_law_found", "_law_mixed"] ["_law_state_here", "_law_size_here"] (defScope s_law_next) := ⟨rfl, rfl, rfl, by decide +kernel, rfl, by decide +kernel, by decide +kernel⟩
theorem sc_law_size : FnScope ["_law_state_here", "_law_size_here"] ["_law_state_here"] (defScope s_law_size) := ⟨rfl, rfl, rfl, by decide +kernel, rfl, by decide +kernel, by decide +kernel⟩
theorem sc_law_floor : FnScope ["_law_size_here", "_law_found", "_law_x", "_law_y"] ["_law_size_here"] (defScope s_law_floor) := ⟨rfl, rfl, rfl, by decide +kernel, rfl, by decide +kernel, by decide +kernel⟩
theorem sc_law_view : FnScope ["_law_state_here", "_law_size_here", "_law_share", "_law_free", "_law_spot", "_law_sheets", "_law_sheet", "_law_rows", "_law_y", "_law_x"] ["_law_state_here", "_law_size_here"] (defScope s_law_view) := ⟨rfl, rfl, rfl, by decide +kernel, rfl, by decide +kernel, by decide +kernel⟩
theorem sc_law_some : FnScope ["_law_state_here", "_law_free", "_law_most", "_law_spots", "_law_k"] ["_law_state_here", "_law_free", "_law_most"] (defScope s_law_some) := ⟨rfl, rfl, rfl, by decide +kernel, rfl, by decide +kernel, by decide +kernel⟩
theorem sc_law_near_steps : FnScope ["_law_size_here", "_law_spot", "_law_found", "_law_way", "_law_one"] ["_law_size_here", "_law_spot"] (defScope s_law_near_steps) := ⟨rfl, rfl, rfl, by decide +kernel, rfl, by decide +kernel, by decide +kernel⟩
theorem sc_law_weigh : FnScope ["_law_state_here", "_law_size_here", "_law_front", "_law_back", "_law_due", "_law_spot", "_law_weigh_here", "_law_turn", "_law_spots", "_law_more", "_law_table"] ["_law_state_here", "_law_size_here"] (defScope s_law_weigh) := ⟨rfl, rfl, rfl, by decide +kernel, rfl, by decide +kernel, by decide +kernel⟩
theorem sc_law_step_price : FnScope ["_law_due", "_law_hole", "_law_spot", "_law_ahead"] ["_law_due", "_law_hole", "_law_spot", "_law_ahead"] (defScope s_law_step_price) := ⟨rfl, rfl, rfl, by decide +kernel, rfl, by decide +kernel, by decide +kernel⟩
theorem sc_law_least : FnScope ["_law_size_here", "_law_free", "_law_targets", "_law_due", "_law_hole", "_law_found", "_law_spot", "_law_fresh", "_law_later", "_law_ahead", "_law_told_here"] ["_law_size_here", "_law_free", "_law_targets", "_law_due", "_law_hole"] (defScope s_law_least) := ⟨rfl, rfl, rfl, by decide +kernel, rfl, by decide +kernel, by decide +kernel⟩
theorem sc_law_alone : FnScope ["_law_e", "_law_kinds"] ["_law_e"] (defScope s_law_alone) := ⟨rfl, rfl, rfl, by decide +kernel, rfl, by decide +kernel, by decide +kernel⟩
theorem sc_law_word : FnScope ["_law_view_here", "_law_targets", "_law_weigh_here", "_law_hole", "_law_caught", "_law_e"] ["_law_view_here", "_law_targets", "_law_weigh_here", "_law_hole"] (defScope s_law_word) := ⟨rfl, rfl, rfl, by decide +kernel, rfl, by decide +kernel, by decide +kernel⟩
theorem sc_law_told : FnScope ["_law_found", "_law_due", "_law_spot"] ["_law_found", "_law_due"] (defScope s_law_told) := ⟨rfl, rfl, rfl, by decide +kernel, rfl, by decide +kernel, by decide +kernel⟩
theorem sc_law : FnScope ["_law_script", "_law_state_here", "_law_size_here", "_law_view_here", "_law_free", "_law_targets", "_law_weigh_here", "_law_weights", "_law_hole", "_law_due", "_law_handed", "_law_found", "_law_shut", "_law_odd", "_law_at", "_law_wrong", "_law_bad", "_law_spot"] ["_law_script"] (defScope s_law) := ⟨rfl, rfl, rfl, by decide +kernel, rfl, by decide +kernel, by decide +kernel⟩
local macro_rules | `(tactic| walk_at "dx0") => `(tactic| simp (disch := first | assumption | omega) only [↓x_tVal, ↓x_dOp, startD, List.map_cons, List.map_nil, List.length_cons, List.length_nil, Nat.zero_add, Nat.reduceAdd, Nat.reduceSub, List.replicate.eq_1, List.append_nil, ↓x_dCB, ↓x_aCons, ↓x_aNil, oLt, dVar_0, ↓old_ro, ↓lnD_ro, List.length_map, dVar_1, ↓old_dat, ↓oI0_ii, ↓wB_b, ↓ix_ro, at_nn, ↓exitQ_dat, ↓tk_0, ↓x_dC, ↓x_dStl, List.replicate.eq_2, List.replicate, List.cons_append, List.nil_append, oMod, oSub, oPow, List.set_cons_succ, List.set_cons_zero, ↓mul_int, cmul_l, true_and, ↓add_int, cmul_r, ↓oI_ii, ilt_h, ↓stl_dat, ↓nN_dat, ↓x_dLst, ↓x_dFrz, ↓dVar_2, ↓dVar_1, ↓wD_dat, ↓dVar_0, cpow_h, ↓wDs_cons, ↓wDs_nil, Int.reduceToNat, nle_h, ↓exitQ_new, oGt, ↓old_loc, ↓c_ix, ↓lcR_l, List.getElem?_cons_succ, List.getElem?_cons_zero, Option.some.injEq, exists_eq_left', oDiv, ↓x_gSb, ↓c_set, cdiv_h, ↓lcK_l, ↓dVar_3])
local macro_rules | `(tactic| walk_at "one") => `(tactic| (first | refine q_setLT ?_ | refine s_setLT ?_ | refine q_par3 ?_ | refine s_par3 ?_ | refine s_lock ?_ | refine q_lock ?_ | refine s_par ?_ | refine q_aug ?_ | refine s_aug ?_ | refine q_augS ?_ | refine s_augS ?_ | refine q_next ?_ | refine q_when ?_ | refine q_if ?_ | refine q_ret ?_ | refine q_retN ?_ | refine q_set ?_ | refine q_asg ?_ | refine q_par ?_ | refine q_drop ?_ | refine q_forF ?_ | refine q_forG ?_ | refine q_wipe ?_ | refine s_next ?_ | refine s_when ?_ | refine s_if ?_ | refine s_ret ?_ | refine s_retN ?_ | refine s_set ?_ | refine s_asg ?_ | refine s_drop ?_ | refine s_forF ?_ | refine s_forG ?_ | refine s_wipe ?_ | refine s_raise ?_ | refine q_raise ?_ | refine q_tryX ?_ | refine s_tryX ?_ | refine s_raiseF ?_ | refine q_raiseF ?_))
local macro_rules | `(tactic| walk_at "ok") => `(tactic| repeat (with_reducible refine And.intro ?_ ?_; focus (first | assumption | omega | decide | trivial | (simp only [List.length_map, List.length_append, List.length_cons, List.length_nil, List.length_range, List.length_replicate]; omega))))
section
variable {P : Program} {w : World} {K : PySem.W.Frag} {mg : Str → Option Value} {base : Heap}
abbrev sp_law_cell_at := sp_cell
abbrev sp_law_state := sp_state
abbrev sp_law_next := sp_next
theorem okC_law_cell_at (T : Top K mg) : DefAt P w K mg base "_law_cell_at" 1 ["_law_script", "_law_k"] [] [] sp_law_cell_at := by
  refine def_ok sp_law_cell_at T.F_law_cell_at sc_law_cell_at T.m_law_cell_at T.b_law_cell_at (fun cdv A outer s H E hr tk pw => (dss_cons (ds_if (dt_cmp op_lt os_lt (dv 1) (de_callB call_lenA cs_lenD (by rfl) T.n_len bb_len (da_cons (dv 0) da_nil)) (nomark _)) (dss_one (ds_ret (de_ix ix_seq os_ix (dv 0) (dv 1) (fun _ _ => rfl)))) dss_nil)
    (dss_one (ds_ret de_int)))) ?_
  rintro es μ q x - ⟨ns, k, rfl, h0, h1, hl, h⟩
  refine q_whenB (decide (k < ns.length)) (fun K hK => ?_) (fun hb => ?_) (fun hb => ?_)
  · walk_at "dx0"
    simpa using hK
  · (first | (walk_at "one" <;> (try walk_at "dx0")) | skip)
    simp only [decide_eq_true_eq] at hb
    obtain ⟨j, rfl⟩ : ∃ j : Nat, k = j := ⟨k.toNat, by omega⟩
    have hj : j < ns.length := by omega
    exact ⟨.int ns[j], by simp [hj], h _⟩
  · (first | (walk_at "one" <;> (try walk_at "dx0")) | skip)
    exact h 0
theorem ok_law_cell_at (T : Top K mg) : DefAt P w K mg base "_law_cell_at" 1 ["_law_script", "_law_k"] [] [] sp_cellA := (okC_law_cell_at T).imp cell_abs
theorem okC_law_state (T : Top K mg) : DefAt P w K mg base "_law_state" 1 ["_law_cell", "_law_k"] [] [] sp_law_state := by
  refine def_ok sp_law_state T.F_law_state sc_law_state T.m_law_state T.b_law_state (fun cdv A outer s H E hr tk pw => (dss_cons (ds_set (i := 2) sc_law_state.nd rfl (by first | exact Or.inl rfl | exact Or.inr rfl) (de_stl (de_op op_mod os_mod (de_op opA_mul os_mul (de_op opA_add os_add (de_op opA_add os_add (dv 0) (de_op opA_mul os_mul de_int (dv 1))) de_int) de_int) de_int)))
    (dss_one (ds_ret (de_lst (da_cons (de_frz (de_op op_mod os_mod (de_op opA_add os_add (de_op opA_add os_add (de_op opA_mul os_mul (dv 2) (dv 2)) (de_op opA_mul os_mul de_int (dv 2))) (dv 1)) de_int)) (da_cons (de_frz (de_op op_sub os_sub (dv 0) (de_op op_pow os_pow de_int de_int))) da_nil))))))) ?_
  rintro es μ q x - ⟨c, k, rfl, h0, h1, h⟩
  (first | (walk_at "one" <;> (try walk_at "dx0")) | skip)
  have hm := Int.emod_nonneg ((c + 7919 * k + 1) * 48271) (show (2147483647 : Int) ≠ 0 by decide)
  have hm2 := Int.emod_lt_of_pos ((c + 7919 * k + 1) * 48271) (show (0 : Int) < 2147483647 by decide)
  generalize (c + 7919 * k + 1) * 48271 % 2147483647 = z at hm hm2
  (first | (walk_at "one" <;> (try walk_at "dx0")) | skip)
  exact h _ _ (by omega) (by omega)
theorem ok_law_state (T : Top K mg) : DefAt P w K mg base "_law_state" 1 ["_law_cell", "_law_k"] [] [] sp_stateA := (okC_law_state T).imp state_abs
theorem okC_law_next (T : Top K mg) : DefAt P w K mg base "_law_next" 1 ["_law_state_here", "_law_size_here"] [] [] sp_law_next := by
  refine def_ok sp_law_next T.F_law_next sc_law_next T.m_law_next T.b_law_next (fun cdv A outer s H E hr tk pw => (dss_cons (ds_if (dt_cmp op_gt os_gt (de_ix ix_seq os_ix (dv 0) de_int (fun _ _ => rfl)) de_int (nomark _)) (dss_cons (ds_set (i := 2) sc_law_next.nd rfl (by first | exact Or.inl rfl | exact Or.inr rfl) (de_stl (de_op op_mod os_mod (de_ix ix_seq os_ix (dv 0) de_int (fun _ _ => rfl)) (dv 1))))
    (dss_cons (ds_asg (de_frz (de_op op_fdiv os_div (de_ix ix_seq os_ix (dv 0) de_int (fun _ _ => rfl)) (dv 1))) (dg_sub (W := WF) (dv 0) de_int set_list ss_list))
    (dss_one (ds_ret (dv 2))))) dss_nil)
    (dss_cons (ds_asg (de_frz (de_op op_mod os_mod (de_op opA_add os_add (de_op opA_mul os_mul (de_ix ix_seq os_ix (dv 0) de_int (fun _ _ => rfl)) de_int) de_int) de_int)) (dg_sub (W := WF) (dv 0) de_int set_list ss_list))
    (dss_cons (ds_set (i := 3) sc_law_next.nd rfl (by first | exact Or.inl rfl | exact Or.inr rfl) (de_stl (de_op op_mod os_mod (de_op opA_mul os_mul (de_ix ix_seq os_ix (dv 0) de_int (fun _ _ => rfl)) (de_ix ix_seq os_ix (dv 0) de_int (fun _ _ => rfl))) de_int)))
    (dss_one (ds_ret (de_op op_mod os_mod (de_op op_fdiv os_div (dv 3) de_int) (dv 1)))))))) ?_
  rintro es μ q x - ⟨n, k, rfl, ⟨a, b, hn, ha, hb⟩, h0, h1, h⟩
  have hlt := get_lt hn
  refine q_whenB (decide (1 < b)) (fun K hK => ?_) (fun hb1 => ?_) (fun hb1 => ?_)
  · walk_at "dx0"
    simp only [hn]
    walk_at "dx0"
    exact hK
  · (first | (walk_at "one" <;> (try walk_at "dx0")) | skip)
    simp only [hn]
    walk_at "dx0"
    (walk_at "one" <;> (try walk_at "dx0"))
    simp only [hn]
    walk_at "dx0"
    simp only [hn]
    walk_at "dx0"
    refine ⟨1, rfl, ?_⟩
    (first | (walk_at "one" <;> (try walk_at "dx0")) | skip)
    have st : Stp μ n (μ.set n (.lst [.int a, .int (b / k)])) := ⟨a, _, rfl, ha, hb⟩
    rw [st.take]
    exact h _ _ (Int.emod_nonneg _ (by omega)) (Int.emod_lt_of_pos _ h0) st
  · (walk_at "one" <;> (try walk_at "dx0"))
    simp only [hn]
    walk_at "dx0"
    simp only [hn]
    walk_at "dx0"
    refine ⟨0, rfl, ?_⟩
    have hm := Int.emod_nonneg (a * 69621 + 11) (show (2147483629 : Int) ≠ 0 by decide)
    have hm2 := Int.emod_lt_of_pos (a * 69621 + 11) (show (0 : Int) < 2147483629 by decide)
    generalize (a * 69621 + 11) % 2147483629 = z at hm hm2
    have st : Stp μ n (μ.set n (.lst [.int z, .int b])) := ⟨z, _, rfl, hm, by omega⟩
    have hn2 : (μ.set n (.lst [.int z, .int b]))[n]? = some (.lst [.int z, .int b]) := List.getElem?_set_self hlt
    (walk_at "one" <;> (try walk_at "dx0"))
    simp only [hn2]
    walk_at "dx0"
    (first | (walk_at "one" <;> (try walk_at "dx0")) | skip)
    rw [st.take]
    exact h _ _ (Int.emod_nonneg _ (by omega)) (Int.emod_lt_of_pos _ h0) st
theorem ok_law_next (T : Top K mg) : DefAt P w K mg base "_law_next" 1 ["_law_state_here", "_law_size_here"] [] [] sp_nextA := (okC_law_next T).abs next_abs
local macro_rules | `(tactic| walk_at "dx1") => `(tactic| simp (disch := first | assumption | omega) only [↓x_dAndV, ↓x_dCB, ↓x_aCons, startD, List.map_cons, List.map_nil, List.length_cons, List.length_nil, Nat.zero_add, Nat.reduceAdd, Nat.reduceSub, List.replicate.eq_1, List.append_nil, ↓x_dRaw, ↓x_aNil, ↓x_dNotV, ↓wB_b, ↓x_dChain, oLe, dVar_2, ↓old_dat, ↓exitQ_dat, dVar_0, ↓nN_dat, true_and, dVar_1, ↓isi_bool, ↓isi_int, ↓tk_0, Bool.not_false, ↓oI0_ii, decide_eq_true_eq, if_true, Bool.false_eq_true, if_false, Bool.not_true])
def sp_is_number : SpD := fun es μ q x => ∃ (d : PyData) (a : Int) (b : Int), es = [.dat d, .dat (.int a), .dat (.int b)] ∧ (q (.dat (.bool (isNum d a b))) μ)
theorem e_is_number {d : PyData} {a : Int} {b : Int} {μ : Mu} {q : PQ} {x : XQ} : sp_is_number [.dat d, .dat (.int a), .dat (.int b)] μ q x = (q (.dat (.bool (isNum d a b))) μ) := by
  refine propext ⟨fun hyp0 => ?_, fun hyp0 => ⟨d, a, b, rfl, hyp0⟩⟩
  obtain ⟨d', a', b', eq0, hyp0⟩ := hyp0
  simp only [List.cons.injEq, Exn.mk.injEq, EV.at.injEq, eq_self, EV.dat.injEq, EV.loc.injEq, EV.new.injEq, EV.ro.injEq, EV.exc.injEq, EV.per.injEq, PyData.int.injEq, PyData.str.injEq, PyData.bool.injEq, PyData.list.injEq, PyData.tuple.injEq, and_true, true_and, and_assoc, map_int_inj, ] at eq0
  obtain ⟨rfl, rfl, rfl⟩ := eq0
  exact hyp0
theorem ok_is_number (T : Top K mg) : DefAt P w K mg base "is_number" 1 ["thing", "least", "most"] [] [] sp_is_number := by
  refine def_ok sp_is_number T.F_is_number sc_is_number T.m_is_number T.b_is_number (fun cdv A outer s H E hr tk pw => (dss_one (ds_ret (de_and (de_callB call_isiY cs_isi (by rfl) T.n_isinstance bb_isinstance (da_cons (dv 0) (da_cons (de_ty T.n_int bt_int) da_nil))) (de_and (de_not (de_callB call_isiY cs_isi (by rfl) T.n_isinstance bb_isinstance (da_cons (dv 0) (da_cons (de_ty T.n_bool bt_bool) da_nil)))) (de_one (de_chain op_le os_le op_le os_le (dv 1) (dv 0) (dv 2)))))))) ?_
  rintro es μ q x - ⟨d, a, b, rfl, h⟩
  refine s_ret ?_
  (try walk_at "dx1")
  cases d with
  | int i =>
    simp only [isIntD, isBoolD, isNum] at h ⊢
    (try walk_at "dx1")
    by_cases h1 : a ≤ i
    · simpa [h1] using h
    · simpa [h1] using h
  | _ =>
    simp only [isIntD, isBoolD, isNum] at h ⊢
    (try walk_at "dx1")
    exact h
local macro_rules | `(tactic| walk_at "dx2") => `(tactic| simp (disch := first | assumption | omega) only [↓x_dAndV, ↓x_dCB, ↓x_aCons, startD, List.map_cons, List.map_nil, List.length_cons, List.length_nil, Nat.zero_add, Nat.reduceAdd, Nat.reduceSub, List.replicate.eq_1, List.append_nil, ↓x_dRaw, ↓x_aNil, ↓x_dNotV, ↓wB_b, ↓x_dChain, oLe, dVar_2, ↓old_dat, ↓exitQ_dat, dVar_0, ↓nN_dat, true_and, dVar_1, ↓isi_bool, ↓isi_int, ↓tk_0, Bool.not_false, ↓oI0_ii, decide_eq_true_eq, if_true, Bool.false_eq_true, if_false, Bool.not_true])
theorem band {a b : Nat} : Builtin.bitAnd (a : Int) (b : Int) = ((a &&& b : Nat) : Int) := by
  rw [PyProof.Rows.bitAnd_pp (Int.natCast_nonneg _) (Int.natCast_nonneg _)]
  simp
/-- a row of bits -/
def rowB : Nat → (Nat → Bool) → Nat
  | 0, _ => 0
  | w + 1, f => rowB w f + (if f w then 2 ^ w else 0)
theorem rowB_lt (f : Nat → Bool) : ∀ w, rowB w f < 2 ^ w
  | 0 => by simp [rowB]
  | w + 1 => by
    have := rowB_lt f w
    unfold rowB
    rw [Nat.pow_succ]
    split <;> omega
theorem rowB_bit (f : Nat → Bool) : ∀ w x, (rowB w f).testBit x = (decide (x < w) && f x)
  | 0, x => by simp [rowB]
  | w + 1, x => by
    unfold rowB
    have ih := rowB_bit f w x
    have hl := rowB_lt f w
    by_cases hf : f w = true
    · rw [if_pos hf, Nat.add_comm]
      by_cases hx : x = w
      · subst hx
        rw [Nat.testBit_two_pow_add_eq, Nat.testBit_lt_two_pow hl]
        simp [hf]
      · by_cases hlt : x < w
        · rw [Nat.testBit_two_pow_add_gt hlt, ih]
          simp [hlt, show x < w + 1 by omega]
        · have h2 : 2 ^ w + rowB w f < 2 ^ x := by
            have : 2 ^ (w + 1) ≤ 2 ^ x := Nat.pow_le_pow_right (by decide) (by omega)
            rw [Nat.pow_succ] at this
            omega
          rw [Nat.testBit_lt_two_pow h2]
          simp [show ¬ x < w + 1 by omega]
    · rw [if_neg hf, Nat.add_zero, ih]
      by_cases hx : x = w
      · subst hx
        simp [hf]
      · by_cases hlt : x < w
        · simp [hlt, show x < w + 1 by omega]
        · simp [hlt, show ¬ x < w + 1 by omega]
/-- a sheet -/
def sheetB (w h : Nat) (c : Int → Int → Bool) : List Nat := (List.range h).map fun y : Nat => rowB w fun x : Nat => c (x : Int) (y : Int)
def shD (s : List Nat) : PyData := .tuple (s.map fun n : Nat => .int (n : Int))
theorem enc_nat : Enc (fun n : Nat => PyData.int (n : Int)) 0 := ⟨fun _ => noD_i, fun a b => by rw [eqv_int, decide_eq_true_eq]; omega, fun a => by rw [dep_int]; omega⟩
theorem enc_sh : Enc shD 1 := enc_nat.tup
theorem shD_inj {a b : List Nat} : (shD a = shD b) = (a = b) := enc_sh.eq
theorem shD_eq {s : List Nat} : EV.dat (shD s) = .dat (.tuple (s.map fun n : Nat => .int (n : Int))) := rfl
/-- whether a cell is in it -/
def bitS (s : List Nat) (x y : Int) : Bool := decide (0 ≤ x ∧ 0 ≤ y) && ((s[y.toNat]?).getD 0).testBit x.toNat
def okS (w : Nat) (s : List Nat) : Prop := ∀ r ∈ s, r < 2 ^ w
theorem sheetB_ok (w h : Nat) (c : Int → Int → Bool) : okS w (sheetB w h c) := by
  intro r hr
  obtain ⟨y, _, rfl⟩ := List.mem_map.mp hr
  exact rowB_lt _ _
theorem sheetB_len (w h : Nat) (c : Int → Int → Bool) : (sheetB w h c).length = h := by simp [sheetB]
theorem sheetB_bit (w h : Nat) (c : Int → Int → Bool) (x y : Int) : bitS (sheetB w h c) x y = (decide (0 ≤ x ∧ x < w ∧ 0 ≤ y ∧ y < h) && c x y) := by
  unfold bitS sheetB
  by_cases h0 : 0 ≤ x ∧ 0 ≤ y
  · obtain ⟨hx, hy⟩ := h0
    obtain ⟨m, rfl⟩ : ∃ m : Nat, x = m := ⟨x.toNat, by omega⟩
    obtain ⟨n, rfl⟩ : ∃ n : Nat, y = n := ⟨y.toNat, by omega⟩
    by_cases hn : n < h
    · simp [hn, rowB_bit]
    · simp [hn]
  · rw [Bool.eq_iff_iff]
    simp
    omega
def szD (w h : Nat) : PyData := .tuple [.int w, .int h]
theorem szD_eq {w h : Nat} : EV.dat (szD w h) = .dat (.tuple [.int w, .int h]) := rfl
theorem ix_sz {w h : Nat} {y : EV} {μ : Mu} {q : PQ} : oIx (.dat (szD w h)) y μ q = oIx (.dat (.tuple [.int w, .int h])) y μ q := Eq.trans rfl rfl
theorem szD_inj {a b c d : Nat} : (szD a b = szD c d) = (a = c ∧ b = d) := by
  refine propext ⟨fun e => ?_, fun ⟨e, f⟩ => by rw [e, f]⟩
  simp only [szD, PyData.tuple.injEq, List.cons.injEq, PyData.int.injEq, and_true] at e
  omega
/-- the places of a floor -/
def inF (w h : Nat) (c : Pt) : Prop := 0 ≤ c.1 ∧ c.1 < w ∧ 0 ≤ c.2 ∧ c.2 < h
instance (w h : Nat) (c : Pt) : Decidable (inF w h c) := inferInstanceAs (Decidable (_ ∧ _ ∧ _ ∧ _))
theorem bitS_in {w h : Nat} {s : List Nat} {x y : Int} (hl : s.length = h) (hs : okS w s) (hb : bitS s x y = true) : inF w h (x, y) := by
  unfold bitS at hb
  rw [Bool.and_eq_true, decide_eq_true_eq] at hb
  obtain ⟨⟨h1, h2⟩, h3⟩ := hb
  by_cases hy : y.toNat < s.length
  · rw [List.getElem?_eq_getElem hy, Option.getD_some] at h3
    by_cases hx : x.toNat < w
    · exact ⟨h1, by simp only; omega, h2, by simp only; omega⟩
    · rw [Nat.testBit_lt_two_pow (Nat.lt_of_lt_of_le (hs _ (List.getElem_mem hy)) (Nat.pow_le_pow_right (by decide) (by omega)))] at h3
      cases h3
  · rw [List.getElem?_eq_none (by omega)] at h3
    simp at h3
local macro_rules | `(tactic| walk_at "dx3") => `(tactic| simp (disch := first | assumption | omega) only [↓x_dAndV, ↓x_dCB, ↓x_aCons, startD, List.map_cons, List.map_nil, List.length_cons, List.length_nil, Nat.zero_add, Nat.reduceAdd, Nat.reduceSub, List.replicate.eq_1, List.append_nil, ↓x_dRaw, ↓x_aNil, ↓x_dNotV, ↓wB_b, ↓x_dChain, oLe, dVar_2, ↓old_dat, ↓exitQ_dat, dVar_0, ↓nN_dat, true_and, dVar_1, ↓isi_bool, ↓isi_int, ↓tk_0, Bool.not_false, ↓oI0_ii, decide_eq_true_eq, if_true, Bool.false_eq_true, if_false, Bool.not_true])
local macro_rules | `(tactic| walk_at "dx4") => `(tactic| simp (disch := first | assumption | omega) only [oLt, oLe, oAnd, oShr, ↓exitQ_dat, startD, List.map_cons, List.map_nil, List.length_cons, List.length_nil, Nat.zero_add, Nat.reduceAdd, Nat.reduceSub, List.replicate.eq_1, List.append_nil, ↓x_tOrD, ↓x_tVal, ↓x_dOp, ↓dVar_1, ↓old_dat, ↓x_dC, ↓oI0_ii, ↓wB_b, decide_eq_true_eq, if_true, ↓x_tNotD, ↓x_dChain, ↓dVar_2, ↓nN_dat, ↓x_dCB, ↓x_aCons, ↓dVar_0, ↓x_aNil, ↓lnD_tup, List.length_map, Bool.not_false, true_and, ↓tk_0, ↓ix_tupD, at_nn, ↓oI_ii, ile_h, ↓eq_dd, ↓noD_i, and_true, dep_int, nle_h, eqv_int])
theorem bit1 {r n : Nat} : decide (Builtin.bitAnd ((r : Int) / 2 ^ n) 1 = 1) = r.testBit n := by
  have e : ((r : Int) / 2 ^ n) = ((r / 2 ^ n : Nat) : Int) := by simp
  rw [e, show (1 : Int) = ((1 : Nat) : Int) from rfl, band, Nat.and_one_is_mod, Nat.testBit_eq_decide_div_mod_eq, decide_eq_decide]
  omega
def sp_has : SpD := fun es μ q x => ∃ (s : List Nat) (a : Int) (b : Int), es = [.dat (shD s), .dat (.int a), .dat (.int b)] ∧ (s.length ≤ 1000 ∧ q (.dat (.bool (bitS s a b))) μ)
theorem e_has {s : List Nat} {a : Int} {b : Int} {μ : Mu} {q : PQ} {x : XQ} : sp_has [.dat (shD s), .dat (.int a), .dat (.int b)] μ q x = (s.length ≤ 1000 ∧ q (.dat (.bool (bitS s a b))) μ) := by
  refine propext ⟨fun hyp0 => ?_, fun hyp0 => ⟨s, a, b, rfl, hyp0⟩⟩
  obtain ⟨s', a', b', eq0, hyp0⟩ := hyp0
  simp only [List.cons.injEq, Exn.mk.injEq, EV.at.injEq, eq_self, EV.dat.injEq, EV.loc.injEq, EV.new.injEq, EV.ro.injEq, EV.exc.injEq, EV.per.injEq, PyData.int.injEq, PyData.str.injEq, PyData.bool.injEq, PyData.list.injEq, PyData.tuple.injEq, and_true, true_and, and_assoc, map_int_inj, shD_inj] at eq0
  obtain ⟨rfl, rfl, rfl⟩ := eq0
  exact hyp0
theorem ok_has (T : Top K mg) : DefAt P w K mg base "has" 1 ["sheet", "x", "y"] [] [] sp_has := by
  refine def_ok sp_has T.F_has sc_has T.m_has T.b_has (fun cdv A outer s H E hr tk pw => (dss_cons (ds_if (dw_or (dt_cmp op_lt os_lt (dv 1) de_int (nomark _)) (dw_or1 (dt_not (dt_chain op_le os_le op_lt os_lt de_int (dv 2) (de_callB call_lenA cs_lenD (by rfl) T.n_len bb_len (da_cons (dv 0) da_nil)))))).dt (dss_one (ds_ret de_bl)) dss_nil)
    (dss_one (ds_ret (de_cmp (opA_eq hr.units) os_eq (de_op op_and os_and (de_op op_shr os_shr (de_ix ix_seq os_ix (dv 0) (dv 2) (fun _ _ => rfl)) (dv 1)) de_int) de_int (nomark _)))))) ?_
  rintro es μ q x - ⟨s, a, b, rfl, hl, k⟩
  simp only [shD_eq]
  ((try walk_at "dx4"); repeat (walk_at "one" <;> (try walk_at "dx4")))
  have out (h : ¬ (0 ≤ a ∧ 0 ≤ b ∧ b < s.length)) : bitS s a b = false := by
    unfold bitS
    by_cases h0 : 0 ≤ a ∧ 0 ≤ b
    · rw [List.getElem?_eq_none (by omega)]
      simp
    · rw [decide_eq_false h0, Bool.false_and]
  split
  · rw [out (by omega)] at k
    ((try walk_at "dx4"); repeat (walk_at "one" <;> (try walk_at "dx4")))
    exact k
  · split
    · split
      · rename_i h1 h2 h3
        rw [out (by simp at h3; omega)] at k
        ((try walk_at "dx4"); repeat (walk_at "one" <;> (try walk_at "dx4")))
        exact k
      · rename_i h1 h2 h3
        simp only [Bool.not_eq_true', decide_eq_false_iff_not, Decidable.not_not] at h3
        have hlt : b.toNat < s.length := by omega
        ((try walk_at "dx4"); repeat (walk_at "one" <;> (try walk_at "dx4")))
        refine ⟨.int (s[b.toNat] : Nat), ?_, ?_⟩
        · rw [List.getElem?_map, List.getElem?_eq_getElem hlt]
          rfl
        · (try walk_at "dx4")
          rw [bit1]
          have e : bitS s a b = s[b.toNat].testBit a.toNat := by
            unfold bitS
            rw [List.getElem?_eq_getElem hlt, decide_eq_true (show 0 ≤ a ∧ 0 ≤ b by omega), Bool.true_and]
            rfl
          rw [e] at k
          (try walk_at "ok")
          exact k
    · rw [out (by omega)] at k
      ((try walk_at "dx4"); repeat (walk_at "one" <;> (try walk_at "dx4")))
      exact k
local macro_rules | `(tactic| walk_at "dx5") => `(tactic| simp (disch := first | assumption | omega) only [oLt, oLe, oAnd, oShr, ↓exitQ_dat, startD, List.map_cons, List.map_nil, List.length_cons, List.length_nil, Nat.zero_add, Nat.reduceAdd, Nat.reduceSub, List.replicate.eq_1, List.append_nil, ↓x_tOrD, ↓x_tVal, ↓x_dOp, ↓dVar_1, ↓old_dat, ↓x_dC, ↓oI0_ii, ↓wB_b, decide_eq_true_eq, if_true, ↓x_tNotD, ↓x_dChain, ↓dVar_2, ↓nN_dat, ↓x_dCB, ↓x_aCons, ↓dVar_0, ↓x_aNil, ↓lnD_tup, List.length_map, Bool.not_false, true_and, ↓tk_0, ↓ix_tupD, at_nn, ↓oI_ii, ile_h, ↓eq_dd, ↓noD_i, and_true, dep_int, nle_h, eqv_int])
/-! ### spots of a floor -/
def in3 (w h : Nat) (c : Sp3) : Bool := (decide (0 ≤ c.2.1) && decide (c.2.1 < w)) && (decide (0 ≤ c.2.2) && decide (c.2.2 < h))
theorem in3_iff {w h : Nat} {c : Sp3} : in3 w h c = true ↔ 0 ≤ c.2.1 ∧ c.2.1 < w ∧ 0 ≤ c.2.2 ∧ c.2.2 < h := by
  simp only [in3, Bool.and_eq_true, decide_eq_true_eq]
  exact ⟨fun h => ⟨h.1.1, h.1.2, h.2.1, h.2.2⟩, fun h => ⟨⟨h.1, h.2.1⟩, h.2.2.1, h.2.2.2⟩⟩
/-- the sheet is one of the two -/
def on2 (c : Sp3) : Prop := c.1 = 0 ∨ c.1 = 1
def nb5 (c : Sp3) : List Sp3 := [(c.1, c.2.1 - 1, c.2.2), (c.1, c.2.1, c.2.2 - 1), (c.1, c.2.1, c.2.2 + 1), (c.1, c.2.1 + 1, c.2.2), (1 - c.1, c.2.1, c.2.2)]
theorem mem_nb5 {c p : Sp3} : p ∈ nb5 c ↔ p = (c.1, c.2.1 - 1, c.2.2) ∨ p = (c.1, c.2.1, c.2.2 - 1) ∨ p = (c.1, c.2.1, c.2.2 + 1) ∨ p = (c.1, c.2.1 + 1, c.2.2) ∨ p = (1 - c.1, c.2.1, c.2.2) := by
  simp [nb5]
theorem nb5_on {c p : Sp3} (hc : on2 c) (h : p ∈ nb5 c) : on2 p := by
  obtain ⟨a, b, d⟩ := c
  obtain ⟨x, y, z⟩ := p
  rw [mem_nb5] at h
  unfold on2 at *
  simp only [Prod.mk.injEq] at *
  omega
def stL (w h : Nat) (c : Sp3) : List Sp3 := ((nb5 c).filter (in3 w h)).mergeSort (leO ltS)
theorem mem_stL {w h : Nat} {c p : Sp3} : p ∈ stL w h c ↔ p ∈ nb5 c ∧ in3 w h p = true := by
  unfold stL
  rw [List.mem_mergeSort, List.mem_filter]
theorem len_stL (w h : Nat) (c : Sp3) : (stL w h c).length ≤ 5 := by
  unfold stL
  rw [List.length_mergeSort]
  exact Nat.le_trans (List.length_filter_le _ _) (Nat.le_refl 5)
/-! what one comes to from spots -/
inductive RchG (P : Sp3 → Prop) (ss : List Sp3) : Sp3 → Prop
  | base {s : Sp3} : s ∈ ss → P s → RchG P ss s
  | step {p q : Sp3} : RchG P ss p → q ∈ nb5 p → P q → RchG P ss q
theorem RchG.p {P : Sp3 → Prop} {ss : List Sp3} {p : Sp3} (h : RchG P ss p) : P p := by
  cases h with
  | base _ h => exact h
  | step _ _ h => exact h
theorem RchG.sub {P P' : Sp3 → Prop} {ss ss' : List Sp3} (hs : ∀ s ∈ ss, s ∈ ss') (hP : ∀ s, P s → P' s) {p : Sp3} (h : RchG P ss p) : RchG P' ss' p := by
  induction h with
  | base hs1 hp => exact .base (hs _ hs1) (hP _ hp)
  | step _ hn hp ih => exact .step ih hn (hP _ hp)
theorem RchG.congr {P P' : Sp3 → Prop} {ss ss' : List Sp3} (hs : ∀ s, s ∈ ss ↔ s ∈ ss') (hP : ∀ s, P s ↔ P' s) {p : Sp3} : RchG P ss p ↔ RchG P' ss' p :=
  ⟨RchG.sub (fun s h => (hs s).mp h) fun s h => (hP s).mp h, RchG.sub (fun s h => (hs s).mpr h) fun s h => (hP s).mpr h⟩
/-! ### walks over spots -/
theorem countP_lt {α : Type} {p q : α → Bool} {c : α} (h : ∀ x, p x = true → q x = true) (hc : q c = true) (hn : p c = false) : ∀ {l : List α}, c ∈ l → (l.filter p).length < (l.filter q).length := by
  have le : ∀ l : List α, (l.filter p).length ≤ (l.filter q).length := fun l => by
    induction l with
    | nil => simp
    | cons a l ih =>
      rw [List.filter_cons, List.filter_cons]
      cases hp : p a with
      | true => rw [h a hp, if_pos rfl, if_pos rfl]; simpa using ih
      | false =>
        cases hq : q a with
        | true => rw [if_neg (by simp), if_pos rfl, List.length_cons]; omega
        | false => rw [if_neg (by simp), if_neg (by simp)]; exact ih
  intro l
  induction l with
  | nil => intro hm; simp at hm
  | cons a l ih =>
    intro hm
    rw [List.filter_cons, List.filter_cons]
    by_cases e : a = c
    · subst e
      rw [hn, hc, if_neg (by simp), if_pos rfl, List.length_cons]
      have := le l
      omega
    · have ih := ih ((List.mem_cons.mp hm).resolve_left fun z => e z.symm)
      cases hp : p a with
      | true => rw [h a hp, if_pos rfl, if_pos rfl]; simpa using ih
      | false =>
        cases hq : q a with
        | true => rw [if_neg (by simp), if_pos rfl, List.length_cons]; omega
        | false => rw [if_neg (by simp), if_neg (by simp)]; exact ih
def remG (U gs : List Sp3) : List Sp3 := U.filter fun c => decide (c ∉ gs)
theorem rem_insG {U gs : List Sp3} {c : Sp3} (hc : c ∈ U) (hg : c ∉ gs) : (remG U (insA gs c)).length < (remG U gs).length :=
  countP_lt (c := c) (fun x hx => by
    simp only [decide_eq_true_eq] at *
    exact fun z => hx (mem_insA.mpr (.inl z))) (by simpa using hg) (by simp [mem_insA]) hc
theorem nodup_len : ∀ {gs U : List Sp3}, gs.Nodup → (∀ p ∈ gs, p ∈ U) → gs.length ≤ U.length
  | [], _, _, _ => Nat.zero_le _
  | g :: gs, U, hn, hs => by
    obtain ⟨h1, h2⟩ := List.nodup_cons.mp hn
    have hg := hs g List.mem_cons_self
    have ih := nodup_len (U := U.erase g) h2 fun p hp => (List.mem_erase_of_ne (a := p) (b := g) fun e => h1 (by rw [← e]; exact hp)).2 (hs p (List.mem_cons_of_mem _ hp))
    have e := List.length_erase_of_mem hg
    have hp := List.length_pos_of_mem hg
    rw [List.length_cons]
    omega
/-- the spots of a floor -/
def fl3u (w h : Nat) : List Sp3 := (List.range w).flatMap fun x : Nat => (List.range h).map (fun y : Nat => ((0 : Int), (x : Int), (y : Int))) ++ (List.range h).map (fun y : Nat => ((1 : Int), (x : Int), (y : Int)))
def fl3 (w h : Nat) : List Sp3 := (fl3u w h).mergeSort (leO ltS)
theorem mem_fl3u {w h : Nat} {c : Sp3} : c ∈ fl3u w h ↔ on2 c ∧ in3 w h c = true := by
  unfold fl3u on2
  rw [in3_iff, List.mem_flatMap]
  constructor
  · rintro ⟨x, hx, hc⟩
    have := List.mem_range.mp hx
    rcases List.mem_append.mp hc with hc | hc
    all_goals
      obtain ⟨y, hy, rfl⟩ := List.mem_map.mp hc
      have := List.mem_range.mp hy
      refine ⟨by simp, ?_⟩
      simp only
      omega
  · rintro ⟨h0, h1, h2, h3, h4⟩
    refine ⟨c.2.1.toNat, List.mem_range.mpr (by omega), ?_⟩
    rw [List.mem_append]
    rcases h0 with h0 | h0
    · exact .inl (List.mem_map.mpr ⟨c.2.2.toNat, List.mem_range.mpr (by omega), Prod.ext h0.symm (Prod.ext (by simp only; omega) (by simp only; omega))⟩)
    · exact .inr (List.mem_map.mpr ⟨c.2.2.toNat, List.mem_range.mpr (by omega), Prod.ext h0.symm (Prod.ext (by simp only; omega) (by simp only; omega))⟩)
theorem fl3u_succ (w h : Nat) : fl3u (w + 1) h = fl3u w h ++ ((List.range h).map (fun y : Nat => ((0 : Int), (w : Int), (y : Int))) ++ (List.range h).map (fun y : Nat => ((1 : Int), (w : Int), (y : Int)))) := by
  unfold fl3u
  rw [List.range_succ, List.flatMap_append]
  simp
theorem fl3u_len (w h : Nat) : (fl3u w h).length = w * (h + h) := by
  induction w with
  | zero => simp [fl3u]
  | succ w ih => rw [fl3u_succ, List.length_append, ih, List.length_append, List.length_map, List.length_map, List.length_range, Nat.succ_mul]
theorem fl3u_nodup (w h : Nat) : (fl3u w h).Nodup := by
  induction w with
  | zero => simp [fl3u]
  | succ w ih =>
    rw [fl3u_succ]
    have nd : ∀ s : Int, ((List.range h).map (fun y : Nat => (s, (w : Int), (y : Int)))).Nodup := fun s => List.Pairwise.map _ (fun a b hab e => hab (by simp only [Prod.mk.injEq, true_and] at e; omega)) List.nodup_range
    refine List.nodup_append.mpr ⟨ih, List.nodup_append.mpr ⟨nd 0, nd 1, fun a ha b hb e => ?_⟩, fun a ha b hb e => ?_⟩
    · obtain ⟨y, _, rfl⟩ := List.mem_map.mp ha
      obtain ⟨z, _, rfl⟩ := List.mem_map.mp hb
      simp at e
    · have h1 := (in3_iff.mp (mem_fl3u.mp ha).2).2.1
      rcases List.mem_append.mp hb with hb | hb
      all_goals
        obtain ⟨y, _, rfl⟩ := List.mem_map.mp hb
        rw [e] at h1
        simp only at h1
        omega
theorem mem_fl3 {w h : Nat} {c : Sp3} : c ∈ fl3 w h ↔ on2 c ∧ in3 w h c = true := by
  unfold fl3
  rw [List.mem_mergeSort, mem_fl3u]
theorem fl3_len (w h : Nat) : (fl3 w h).length = w * (h + h) := by
  unfold fl3
  rw [List.length_mergeSort, fl3u_len]
theorem fl3_le {w h : Nat} (hw : w ≤ 10) (hh : h ≤ 10) : (fl3 w h).length ≤ 200 := by
  rw [fl3_len]
  exact Nat.mul_le_mul hw (by omega : h + h ≤ 20)
theorem rise_fl3 (w h : Nat) : Rise ltS (fl3 w h) := rise_sort ord_sp (fl3u_nodup w h)
local macro_rules | `(tactic| walk_at "dx7") => `(tactic| simp (disch := first | assumption | omega) only [oSub, oLe, oLt, List.map_cons, List.map_nil, ↓exitQ_dat, startD, List.length_cons, List.length_nil, Nat.zero_add, Nat.reduceAdd, Nat.reduceSub, List.replicate, List.cons_append, List.nil_append, ↓x_dFrz, ↓dVar_1, ↓old_dat, ↓wD_dat, ↓x_gCn, ↓x_gNm, ↓nN_dat, ↓x_gNl0, List.set_cons_succ, List.set_cons_zero, true_and, ↓x_dStl, ↓x_dLst, ↓x_aCons, ↓x_dTup, ↓dVar_2, ↓x_dOp, ↓dVar_3, ↓x_dC, ↓oI0_ii, ↓dVar_4, ↓x_aNil, ↓wDs_cons, ↓wDs_nil, nle_h, ↓add_int, ↓stl_new, ↓x_dCB, ↓x_lc, ↓x_iSeqD, ↓dVar_5, ↓seqDK_l, ↓x_tAndD, ↓x_tVal, ↓x_dChain, wipeD, dVar_6, dVar_0, ↓ix_tupD, at_nn, Int.reduceToNat, List.getElem?_cons_succ, List.getElem?_cons_zero, Option.some.injEq, exists_eq_left', ↓wB_b, Bool.false_eq_true, if_false, decide_eq_true_eq, ↓tk_0, ↓exitQ_new, List.append_nil, ↓x_dCall, ↓dVar_0, ↓stl_dat, ↓aO_cons, ↓aO_nil, Bool.and_true, ↓e_has, dVar_2, and_true])
/-! ### the program's steps and walks -/
def vwD (w h : Nat) (s0 s1 : List Nat) : PyData := .tuple [szD w h, shD s0, shD s1]
theorem vwD_inj {w h w' h' : Nat} {s0 s1 t0 t1 : List Nat} : (vwD w h s0 s1 = vwD w' h' t0 t1) = ((w = w' ∧ h = h') ∧ s0 = t0 ∧ s1 = t1) := by
  refine propext ⟨fun e => ?_, fun ⟨⟨a, b⟩, c, d⟩ => by rw [a, b, c, d]⟩
  simp only [vwD, PyData.tuple.injEq, List.cons.injEq, and_true, szD_inj, shD_inj] at e
  exact e
theorem ix_vw {w h : Nat} {s0 s1 : List Nat} {y : EV} {μ : Mu} {q : PQ} : oIx (.dat (vwD w h s0 s1)) y μ q = oIx (.dat (.tuple [szD w h, shD s0, shD s1])) y μ q := Eq.trans rfl rfl
theorem gTp_sp {t : TDGs} {c : Sp3} {η : DEnv} {μ : Mu} {q : DEnv → Mu → Prop} : gTp 3 t (.dat (spD c)) η μ q = t [.int c.1, .int c.2.1, .int c.2.2] η μ q := by
  unfold spD
  rw [x_gTp]
  simp
theorem noDs_sp (cs : List Sp3) : noDs (cs.map spD) = true := noDs_map enc_sp.nod cs
def frB (s0 s1 : List Nat) (c : Sp3) : Bool := if c.1 = 0 then bitS s0 c.2.1 c.2.2 else bitS s1 c.2.1 c.2.2
/-- two sheets of a floor -/
structure Vw (w h : Nat) (s0 s1 : List Nat) : Prop where
  hw : w ≤ 10
  hh : h ≤ 10
  l0 : s0.length = h
  l1 : s1.length = h
  o0 : okS w s0
  o1 : okS w s1
theorem Vw.in3 {w h : Nat} {s0 s1 : List Nat} (V : Vw w h s0 s1) {c : Sp3} (hc : frB s0 s1 c = true) : in3 w h c = true := by
  unfold frB at hc
  rw [in3_iff]
  split at hc
  · have := bitS_in V.l0 V.o0 hc
    exact ⟨this.1, this.2.1, this.2.2.1, this.2.2.2⟩
  · have := bitS_in V.l1 V.o1 hc
    exact ⟨this.1, this.2.1, this.2.2.1, this.2.2.2⟩
/-- a spot that is free -/
def fre (s0 s1 : List Nat) (c : Sp3) : Prop := on2 c ∧ frB s0 s1 c = true
theorem Vw.mem {w h : Nat} {s0 s1 : List Nat} (V : Vw w h s0 s1) {c : Sp3} (hc : fre s0 s1 c) : c ∈ fl3 w h := mem_fl3.mpr ⟨hc.1, V.in3 hc.2⟩
def frL (w h : Nat) (s0 s1 : List Nat) (c : Sp3) : List Sp3 := (stL w h c).filter (frB s0 s1)
theorem mem_frL {w h : Nat} {s0 s1 : List Nat} (V : Vw w h s0 s1) {c p : Sp3} (hc : on2 c) : p ∈ frL w h s0 s1 c ↔ p ∈ nb5 c ∧ fre s0 s1 p := by
  unfold frL
  rw [List.mem_filter, mem_stL]
  exact ⟨fun z => ⟨z.1.1, nb5_on hc z.1.1, z.2⟩, fun z => ⟨⟨z.1, V.in3 z.2.2⟩, z.2.2⟩⟩
theorem len_frL (w h : Nat) (s0 s1 : List Nat) (c : Sp3) : (frL w h s0 s1 c).length ≤ 5 := Nat.le_trans (List.length_filter_le _ _) (len_stL w h c)
local macro_rules | `(tactic| walk_at "dx8") => `(tactic| simp (disch := first | assumption | omega) only [oSub, oLe, oLt, List.map_cons, List.map_nil, ↓exitQ_dat, startD, List.length_cons, List.length_nil, Nat.zero_add, Nat.reduceAdd, Nat.reduceSub, List.replicate, List.cons_append, List.nil_append, ↓x_dFrz, ↓dVar_1, ↓old_dat, ↓wD_dat, ↓gTp_sp, ↓x_gCn, ↓x_gNm, ↓nN_dat, ↓x_gNl0, List.set_cons_succ, List.set_cons_zero, true_and, ↓x_dStl, ↓x_dLst, ↓x_aCons, ↓x_dTup, ↓dVar_2, ↓x_dOp, ↓dVar_3, ↓x_dC, ↓oI0_ii, ↓dVar_4, ↓x_aNil, ↓wDs_cons, ↓wDs_nil, nle_h, ↓add_int, ↓stl_new, ↓x_dCB, ↓x_lc, ↓x_iSeqD, ↓dVar_5, ↓seqDK_l, ↓x_tAndD, ↓x_tVal, ↓x_dChain, wipeD, dVar_6, dVar_0, ↓ix_tupD, at_nn, Int.reduceToNat, List.getElem?_cons_succ, List.getElem?_cons_zero, Option.some.injEq, exists_eq_left', ↓wB_b, Bool.false_eq_true, if_false, ↓ix_sp, decide_eq_true_eq, ↓tk_0, ↓srt_spn, ↓exitQ_new, List.append_nil, ↓x_dCall, ↓dVar_0, ↓ix_vw, ↓stl_dat, ↓aO_cons, ↓aO_nil, Bool.and_true, ↓e_has, dVar_2, and_true])
def sp_steps : SpD := fun es μ q x => ∃ (w : Nat) (h : Nat) (c : Sp3), es = [.dat (szD w h), .dat (spD c)] ∧ (q (.new ((stL w h c).map spD)) μ)
theorem e_steps {w : Nat} {h : Nat} {c : Sp3} {μ : Mu} {q : PQ} {x : XQ} : sp_steps [.dat (szD w h), .dat (spD c)] μ q x = (q (.new ((stL w h c).map spD)) μ) := by
  refine propext ⟨fun hyp0 => ?_, fun hyp0 => ⟨w, h, c, rfl, hyp0⟩⟩
  obtain ⟨w', h', c', eq0, hyp0⟩ := hyp0
  simp only [List.cons.injEq, Exn.mk.injEq, EV.at.injEq, eq_self, EV.dat.injEq, EV.loc.injEq, EV.new.injEq, EV.ro.injEq, EV.exc.injEq, EV.per.injEq, PyData.int.injEq, PyData.str.injEq, PyData.bool.injEq, PyData.list.injEq, PyData.tuple.injEq, and_true, true_and, and_assoc, map_int_inj, szD_inj, spD_inj] at eq0
  obtain ⟨rfl, rfl, rfl⟩ := eq0
  exact hyp0
theorem ok_steps (T : Top K mg) : DefAt P w K mg base "steps" 1 ["size", "spot"] [] [] sp_steps := by
  refine def_ok sp_steps T.F_steps sc_steps T.m_steps T.b_steps (fun cdv A outer s H E hr tk pw => (dss_cons (ds_asg (de_frz (dv 1)) (dg_tup (n := 3) rfl (dgs_cons (dg_name (i := 2) sc_steps.nd rfl (by first | exact Or.inl rfl | exact Or.inr rfl)) (dgs_cons (dg_name (i := 3) sc_steps.nd rfl (by first | exact Or.inl rfl | exact Or.inr rfl)) (dgs_cons (dg_name (i := 4) sc_steps.nd rfl (by first | exact Or.inl rfl | exact Or.inr rfl)) dgs_nil)))))
    (dss_cons (ds_set (i := 5) sc_steps.nd rfl (by first | exact Or.inl rfl | exact Or.inr rfl) (de_stl (de_lst (da_cons (de_frz (de_tup (da_cons (de_frz (dv 2)) (da_cons (de_frz (de_op op_sub os_sub (dv 3) de_int)) (da_cons (de_frz (dv 4)) da_nil))))) (da_cons (de_frz (de_tup (da_cons (de_frz (dv 2)) (da_cons (de_frz (dv 3)) (da_cons (de_frz (de_op op_sub os_sub (dv 4) de_int)) da_nil))))) (da_cons (de_frz (de_tup (da_cons (de_frz (dv 2)) (da_cons (de_frz (dv 3)) (da_cons (de_frz (de_op opA_add os_add (dv 4) de_int)) da_nil))))) (da_cons (de_frz (de_tup (da_cons (de_frz (dv 2)) (da_cons (de_frz (de_op opA_add os_add (dv 3) de_int)) (da_cons (de_frz (dv 4)) da_nil))))) (da_cons (de_frz (de_tup (da_cons (de_frz (de_op op_sub os_sub de_int (dv 2))) (da_cons (de_frz (dv 3)) (da_cons (de_frz (dv 4)) da_nil))))) da_nil))))))))
    (dss_one (ds_ret (de_callB (call_sortA rfl hr.units) cs_sortA (by rfl) T.n_sorted bb_sorted (da_cons (de_lc (own := [("one", 6)]) rfl sc_steps.nd (di_seqD (dv 5)) (blkOk_by (N := ["size", "spot", "sheet", "x", "y", "found", "one"]) (sc := (defScope s_steps)) (by decide +kernel)) (by decide) (fun _ _ _ _ _ => (dg_name (i := 6) sc_steps.nd rfl (by first | exact Or.inl rfl | exact Or.inr rfl))) (fun _ _ _ _ _ => (dts_one (dw_and (dt_chain op_le os_le op_lt os_lt de_int (de_ix ix_seq os_ix (dv 6) de_int (fun _ _ => rfl)) (de_ix ix_seq os_ix (dv 0) de_int (fun _ _ => rfl))) (dw_and1 (dt_chain op_le os_le op_lt os_lt de_int (de_ix ix_seq os_ix (dv 6) de_int (fun _ _ => rfl)) (de_ix ix_seq os_ix (dv 0) de_int (fun _ _ => rfl))))).dt)) (fun _ _ _ _ _ => (dv 6))) da_nil))))))) ?_
  rintro es μ q x - ⟨w, h, c, rfl, k⟩
  simp only [szD_eq]
  ((try walk_at "dx8"); repeat (walk_at "one" <;> (try walk_at "dx8")))
  refine lc_filterD (as := nb5 c) (en := spD) (p := in3 w h) (f := spD) (by show 5 ≤ 100000; decide) trivial (fun a K K' ha hK => ?e) ?_
  case e =>
    (try walk_at "dx8")
    unfold in3 at hK
    by_cases h1 : 0 ≤ a.2.1
    · by_cases h2 : a.2.1 < w
      · by_cases h3 : 0 ≤ a.2.2
        · by_cases h4 : a.2.2 < h
          · simp only [h1, h2, h3, h4, decide_true, Bool.and_self, if_true] at hK ⊢
            (try walk_at "dx8")
            exact hK
          · simp only [h1, h2, h3, h4, decide_true, decide_false, Bool.and_self, Bool.and_false, Bool.false_eq_true, if_true, if_false] at hK ⊢
            (try walk_at "dx8")
            exact hK
        · simp only [h1, h2, h3, decide_true, decide_false, Bool.and_self, Bool.and_false, Bool.false_and, Bool.false_eq_true, if_true, if_false] at hK ⊢
          (try walk_at "dx8")
          exact hK
      · simp only [h1, h2, decide_true, decide_false, Bool.and_self, Bool.and_false, Bool.false_and, Bool.false_eq_true, if_true, if_false] at hK ⊢
        (try walk_at "dx8")
        exact hK
    · simp only [h1, decide_true, decide_false, Bool.and_self, Bool.and_false, Bool.false_and, Bool.false_eq_true, if_true, if_false] at hK ⊢
      (try walk_at "dx8")
      exact hK
  (try walk_at "dx8")
  exact k
def sp_is_free : SpD := fun es μ q x => ∃ (w : Nat) (h : Nat) (s0 : List Nat) (s1 : List Nat) (c : Sp3), es = [.dat (vwD w h s0 s1), .dat (spD c)] ∧ ((on2 c ∧ s0.length ≤ 1000 ∧ s1.length ≤ 1000) ∧ q (.dat (.bool (frB s0 s1 c))) μ)
theorem e_is_free {w : Nat} {h : Nat} {s0 : List Nat} {s1 : List Nat} {c : Sp3} {μ : Mu} {q : PQ} {x : XQ} : sp_is_free [.dat (vwD w h s0 s1), .dat (spD c)] μ q x = ((on2 c ∧ s0.length ≤ 1000 ∧ s1.length ≤ 1000) ∧ q (.dat (.bool (frB s0 s1 c))) μ) := by
  refine propext ⟨fun hyp0 => ?_, fun hyp0 => ⟨w, h, s0, s1, c, rfl, hyp0⟩⟩
  obtain ⟨w', h', s0', s1', c', eq0, hyp0⟩ := hyp0
  simp only [List.cons.injEq, Exn.mk.injEq, EV.at.injEq, eq_self, EV.dat.injEq, EV.loc.injEq, EV.new.injEq, EV.ro.injEq, EV.exc.injEq, EV.per.injEq, PyData.int.injEq, PyData.str.injEq, PyData.bool.injEq, PyData.list.injEq, PyData.tuple.injEq, and_true, true_and, and_assoc, map_int_inj, vwD_inj, spD_inj] at eq0
  obtain ⟨rfl, rfl, rfl, rfl, rfl⟩ := eq0
  exact hyp0
theorem ok_is_free (T : Top K mg) : DefAt P w K mg base "is_free" 2 ["view", "spot"] [] [] sp_is_free := by
  refine def_ok sp_is_free T.F_is_free sc_is_free T.m_is_free T.b_is_free (fun cdv A outer s H E hr tk pw => (dss_one (ds_ret (de_call (ok_has T) hr (by decide) (by rfl) tk (fun _ _ => .nil) (da_cons (de_stl (de_ix ix_seq os_ix (dv 0) (de_op opA_add os_add de_int (de_ix ix_seq os_ix (dv 1) de_int (fun _ _ => rfl))) (fun _ _ => rfl))) (da_cons (de_stl (de_ix ix_seq os_ix (dv 1) de_int (fun _ _ => rfl))) (da_cons (de_stl (de_ix ix_seq os_ix (dv 1) de_int (fun _ _ => rfl))) da_nil))))))) ?_
  rintro es μ q x - ⟨w, h, s0, s1, c, rfl, ⟨hc, h0, h1⟩, k⟩
  obtain ⟨a, b, d⟩ := c
  simp only [frB] at k
  have h01 : on2 (a, b, d) := hc
  simp only [on2] at h01
  rcases h01 with rfl | rfl
  · ((try walk_at "dx8"); repeat (walk_at "one" <;> (try walk_at "dx8")))
    refine ⟨_, rfl, ?_⟩
    ((try walk_at "dx8"); repeat (walk_at "one" <;> (try walk_at "dx8")))
    exact k
  · ((try walk_at "dx8"); repeat (walk_at "one" <;> (try walk_at "dx8")))
    refine ⟨_, rfl, ?_⟩
    ((try walk_at "dx8"); repeat (walk_at "one" <;> (try walk_at "dx8")))
    exact k
local macro_rules | `(tactic| walk_at "dx9") => `(tactic| simp (disch := first | assumption | omega) only [oSub, oLe, oLt, List.map_cons, List.map_nil, ↓exitQ_dat, startD, List.length_cons, List.length_nil, Nat.zero_add, Nat.reduceAdd, Nat.reduceSub, List.replicate, List.cons_append, List.nil_append, ↓x_dFrz, ↓dVar_1, ↓old_dat, ↓wD_dat, ↓gTp_sp, ↓x_gCn, ↓x_gNm, ↓nN_dat, ↓x_gNl0, List.set_cons_succ, List.set_cons_zero, true_and, ↓x_dStl, ↓x_dLst, ↓x_aCons, ↓x_dTup, ↓dVar_2, ↓x_dOp, ↓dVar_3, ↓x_dC, ↓oI0_ii, ↓dVar_4, ↓x_aNil, ↓wDs_cons, ↓wDs_nil, nle_h, ↓add_int, ↓stl_new, ↓x_dCB, ↓x_lc, ↓x_iSeqD, ↓dVar_5, ↓seqDK_l, ↓x_tAndD, ↓x_tVal, ↓x_dChain, wipeD, dVar_6, dVar_0, ↓ix_tupD, at_nn, Int.reduceToNat, List.getElem?_cons_succ, List.getElem?_cons_zero, Option.some.injEq, exists_eq_left', ↓wB_b, Bool.false_eq_true, if_false, ↓ix_sp, decide_eq_true_eq, ↓tk_0, ↓srt_spn, ↓exitQ_new, List.append_nil, ↓x_dCall, ↓dVar_0, ↓ix_vw, ↓stl_dat, ↓aO_cons, ↓aO_nil, Bool.and_true, ↓e_has, ↓e_steps, dVar_2, ↓e_is_free, and_true])
def sp_free_steps : SpD := fun es μ q x => ∃ (w : Nat) (h : Nat) (s0 : List Nat) (s1 : List Nat) (c : Sp3), es = [.dat (vwD w h s0 s1), .dat (spD c)] ∧ ((on2 c ∧ s0.length ≤ 1000 ∧ s1.length ≤ 1000) ∧ q (.new ((frL w h s0 s1 c).map spD)) μ)
theorem e_free_steps {w : Nat} {h : Nat} {s0 : List Nat} {s1 : List Nat} {c : Sp3} {μ : Mu} {q : PQ} {x : XQ} : sp_free_steps [.dat (vwD w h s0 s1), .dat (spD c)] μ q x = ((on2 c ∧ s0.length ≤ 1000 ∧ s1.length ≤ 1000) ∧ q (.new ((frL w h s0 s1 c).map spD)) μ) := by
  refine propext ⟨fun hyp0 => ?_, fun hyp0 => ⟨w, h, s0, s1, c, rfl, hyp0⟩⟩
  obtain ⟨w', h', s0', s1', c', eq0, hyp0⟩ := hyp0
  simp only [List.cons.injEq, Exn.mk.injEq, EV.at.injEq, eq_self, EV.dat.injEq, EV.loc.injEq, EV.new.injEq, EV.ro.injEq, EV.exc.injEq, EV.per.injEq, PyData.int.injEq, PyData.str.injEq, PyData.bool.injEq, PyData.list.injEq, PyData.tuple.injEq, and_true, true_and, and_assoc, map_int_inj, vwD_inj, spD_inj] at eq0
  obtain ⟨rfl, rfl, rfl, rfl, rfl⟩ := eq0
  exact hyp0
theorem ok_free_steps (T : Top K mg) : DefAt P w K mg base "free_steps" 3 ["view", "spot"] [] [] sp_free_steps := by
  refine def_ok sp_free_steps T.F_free_steps sc_free_steps T.m_free_steps T.b_free_steps (fun cdv A outer s H E hr tk pw => (dss_one (ds_ret (de_lc (own := [("one", 2)]) rfl sc_free_steps.nd (di_seqD (de_stl (de_call (ok_steps T) hr (by decide) (by rfl) tk (fun _ _ => .nil) (da_cons (de_stl (de_ix ix_seq os_ix (dv 0) de_int (fun _ _ => rfl))) (da_cons (de_stl (dv 1)) da_nil))))) (blkOk_by (N := ["view", "spot", "one"]) (sc := (defScope s_free_steps)) (by decide +kernel)) (by decide) (fun _ _ _ _ _ => (dg_name (i := 2) sc_free_steps.nd rfl (by first | exact Or.inl rfl | exact Or.inr rfl))) (fun _ _ _ _ _ => (dts_one (dt_val (de_call (ok_is_free T) hr (by decide) (by rfl) tk0 (fun _ _ => .nil) (da_cons (de_stl (dv 0)) (da_cons (de_stl (dv 2)) da_nil)))))) (fun _ _ _ _ _ => (dv 2)))))) ?_
  rintro es μ q x - ⟨w, h, s0, s1, c, rfl, ⟨hc, h0, h1⟩, k⟩
  ((try walk_at "dx9"); repeat (walk_at "one" <;> (try walk_at "dx9")))
  have hl := len_stL w h c
  refine lc_filterD (p := frB s0 s1) (f := spD) (by omega) trivial (fun a K K' ha hK => ?e) ?_
  case e =>
    have ha2 : on2 a := nb5_on hc (mem_stL.mp ha).1
    (try walk_at "dx9")
    exact ⟨ha2, hK⟩
  (try walk_at "dx9")
  exact k
local macro_rules | `(tactic| walk_at "dx10") => `(tactic| simp (disch := first | assumption | omega) only [oSub, oLe, oLt, List.map_cons, List.map_nil, ↓exitQ_dat, startD, List.length_cons, List.length_nil, Nat.zero_add, Nat.reduceAdd, Nat.reduceSub, List.replicate, List.cons_append, List.nil_append, ↓x_dFrz, ↓dVar_1, ↓old_dat, ↓wD_dat, ↓gTp_sp, ↓x_gCn, ↓x_gNm, ↓nN_dat, ↓x_gNl0, List.set_cons_succ, List.set_cons_zero, true_and, ↓x_dStl, ↓x_dLst, ↓x_aCons, ↓x_dTup, ↓dVar_2, ↓x_dOp, ↓dVar_3, ↓x_dC, ↓oI0_ii, ↓dVar_4, ↓x_aNil, ↓wDs_cons, ↓wDs_nil, nle_h, ↓add_int, ↓stl_new, ↓x_dCB, ↓x_lc, ↓x_iSeqD, ↓dVar_5, ↓seqDK_l, ↓x_tAndD, ↓x_tVal, ↓x_dChain, wipeD, dVar_6, dVar_0, ↓ix_tupD, at_nn, Int.reduceToNat, List.getElem?_cons_succ, List.getElem?_cons_zero, Option.some.injEq, exists_eq_left', ↓wB_b, Bool.false_eq_true, if_false, ↓ix_sp, decide_eq_true_eq, ↓tk_0, ↓srt_spn, ↓exitQ_new, List.append_nil, ↓x_dCall, ↓dVar_0, ↓ix_vw, ↓stl_dat, ↓aO_cons, ↓aO_nil, Bool.and_true, ↓e_has, ↓e_steps, dVar_2, ↓e_is_free, and_true])
local macro_rules | `(tactic| walk_at "dx11") => `(tactic| simp (disch := first | assumption | omega) only [List.length_cons, List.length_nil, Nat.zero_add, Nat.reduceAdd, ↓exitQ_dat, startD, List.map_cons, List.map_nil, Nat.reduceSub, List.replicate, List.append_nil, ↓x_tNotD, ↓x_tVal, ↓x_dCall, ↓x_aCons, ↓x_dStl, ↓dVar_0, ↓old_dat, ↓stl_dat, ↓dVar_1, ↓x_dC, ↓x_aNil, ↓aO_cons, ↓nN_dat, ↓aO_nil, Bool.and_true, ↓e_is_number, ↓wB_b, ↓tk_0, true_and, ↓x_dOp, ↓x_dLst, ↓x_dFrz, ↓wDs_cons, ↓wDs_nil, nle_h, ↓ix_sp, ↓ix_tupD, at_nn, Int.reduceToNat, List.getElem?_cons_zero, Option.some.injEq, exists_eq_left', ↓ix_new, dVar_2, ↓wD_dat, dVar_1, ↓x_rSeq, ↓x_rRet, ↓x_dLam, ↓x_mkK, ↓capK_cons, List.getElem?_cons_succ, ↓capK_nil, ↓x_exitC, ↓ex_per, evK_s, μTab_h, List.cons_append, List.nil_append, ↓x_dCallW, ↓callWK_d, List.set_cons_succ, List.set_cons_zero, ↓dVar_3, Bool.false_eq_true, if_false, decide_eq_true_eq, ↓x_dCB, ↓dVar_4, ↓dVar_2, ↓add_int, ↓min_ii, ↓intQ_i, ↓x_dCell, ↓x_dNewD, ↓cell_nd, ↓nN_loc, ↓x_iSeqD, ↓seqDK_l, ↓x_gNm, List.length_append, ↓fg_cons, ↓fg_nil, ↓x_gSb, ↓old_loc, ↓get_a0, cl_per, ↓cl_none, ↓cl_dat, cl_loc, ↓cl_nil, ↓set_a0, tk_a1, lcD_d, List.length_map, nlt_h, ↓x_sMkd, lockE_l, lockC_d, μTab_app, dVar_5, ↓old_per, ↓tk_a0, ↓max_ii])
theorem setD_sp {n : Nat} {s : Sp3} {d : PyData} {μ : Mu} {q : Mu → Prop} : oSetD (.loc n) (.dat (spD s)) (.dat d) μ q = lcD μ[n]? fun kvs => kvs.length < 100000 ∧ q (μ.set n (.dct (putD kvs (ky3 s) d))) := c_setD
theorem putE_sp {cs : List Sp3} {s : Sp3} : putD (cs.map spE) (ky3 s) (.bool true) = (insA cs s).map spE := put_sp
theorem all_no {cs : List Sp3} {p : Sp3 → Bool} {i : Nat} {c : Sp3} (hi : cs[i]? = some c) (h : p c = false) : cs.all p = false :=
  List.all_eq_false.mpr ⟨c, List.mem_of_getElem? hi, by simp [h]⟩
theorem all_suc {cs : List Sp3} {p : Sp3 → Bool} {i : Nat} {c : Sp3} (hi : cs[i]? = some c) (h : p c = true) (ha : (cs.take i).all p = true) : (cs.take (i + 1)).all p = true := by
  rw [List.take_add_one, hi, List.all_append, ha]
  simp [h]
local macro_rules | `(tactic| walk_at "dx12") => `(tactic| simp (disch := first | assumption | omega) only [List.length_cons, List.length_nil, Nat.zero_add, Nat.reduceAdd, ↓exitQ_dat, startD, List.map_cons, List.map_nil, Nat.reduceSub, List.replicate, List.append_nil, ↓x_tNotD, ↓x_tVal, ↓x_dCall, ↓x_aCons, ↓x_dStl, ↓dVar_0, ↓old_dat, ↓stl_dat, ↓dVar_1, ↓x_dC, ↓x_aNil, ↓aO_cons, ↓nN_dat, ↓aO_nil, Bool.and_true, ↓e_is_number, ↓wB_b, ↓tk_0, true_and, ↓x_dOp, ↓x_dLst, ↓x_dFrz, ↓wDs_cons, ↓wDs_nil, nle_h, ↓ix_sp, ↓ix_tupD, at_nn, Int.reduceToNat, List.getElem?_cons_zero, Option.some.injEq, exists_eq_left', ↓ix_new, dVar_2, ↓wD_dat, dVar_1, ↓x_rSeq, ↓x_rRet, ↓x_dLam, ↓x_mkK, ↓capK_cons, List.getElem?_cons_succ, ↓capK_nil, ↓x_exitC, ↓ex_per, evK_s, μTab_h, List.cons_append, List.nil_append, ↓x_dCallW, ↓callWK_d, List.set_cons_succ, List.set_cons_zero, ↓dVar_3, ↓memA_spD, Bool.false_eq_true, if_false, decide_eq_true_eq, ↓x_dCB, ↓dVar_4, ↓dVar_2, ↓add_int, ↓min_ii, ↓intQ_i, ↓x_dCell, ↓x_dNewD, ↓cell_nd, ↓nN_loc, ↓x_iSeqD, ↓seqDK_l, ↓x_gNm, List.length_append, ↓fg_cons, ↓fg_nil, ↓x_gSb, ↓old_loc, ↓setD_sp, ↓get_a0, cl_per, ↓cl_none, ↓cl_dat, cl_loc, ↓cl_nil, ↓set_a0, tk_a1, lcD_d, List.length_map, nlt_h, ↓putE_sp, ↓x_sMkd, lockE_l, lockC_d, μTab_app, dc3_eq, dVar_5, ↓old_per, ↓tk_a0, ↓max_ii])
/-! ### weighs -/
/-- a weigh: of a spot that p tells, f -/
def wgh (p : Sp3 → Bool) (f : Sp3 → Int) : PyData → Option Int := fun d => match d with
  | .tuple [.int a, .int b, .int c] => if p (a, b, c) = true then some (f (a, b, c)) else none
  | _ => none
theorem wgh_sp {p : Sp3 → Bool} {f : Sp3 → Int} {c : Sp3} (h : p c = true) : wgh p f (spD c) = some (f c) := by
  unfold wgh spD
  simp only
  rw [if_pos h]
theorem wgh_ex {p : Sp3 → Bool} {f : Sp3 → Int} {d : PyData} {r : Int} (h : wgh p f d = some r) : ∃ c, d = spD c ∧ p c = true ∧ r = f c := by
  unfold wgh at h
  split at h
  · rename_i a b c
    split at h
    · rename_i hp
      cases h
      exact ⟨(a, b, c), rfl, hp, rfl⟩
    · cases h
  · cases h
def on2B (c : Sp3) : Bool := decide (c.1 = 0) || decide (c.1 = 1)
theorem on2B_iff {c : Sp3} : on2B c = true ↔ on2 c := by
  unfold on2B on2
  rw [Bool.or_eq_true, decide_eq_true_eq, decide_eq_true_eq]
/-- the sheets' weights -/
def shW (a b : Int) (c : Sp3) : Int := if c.1 = 0 then a else b
def sp_need_weight (T : Top K mg) : SpD := fun es μ q x => ∃ (d : PyData) (l : Int), es = [.dat d, .dat (.int l)] ∧ (if isNum d l 9 = true then q (.dat .none) μ else x ⟨T.c_NoWeight, none⟩ μ)
theorem e_need_weight (T : Top K mg) {d : PyData} {l : Int} {μ : Mu} {q : PQ} {x : XQ} : sp_need_weight T [.dat d, .dat (.int l)] μ q x = (if isNum d l 9 = true then q (.dat .none) μ else x ⟨T.c_NoWeight, none⟩ μ) := by
  refine propext ⟨fun hyp0 => ?_, fun hyp0 => ⟨d, l, rfl, hyp0⟩⟩
  obtain ⟨d', l', eq0, hyp0⟩ := hyp0
  simp only [List.cons.injEq, Exn.mk.injEq, EV.at.injEq, eq_self, EV.dat.injEq, EV.loc.injEq, EV.new.injEq, EV.ro.injEq, EV.exc.injEq, EV.per.injEq, PyData.int.injEq, PyData.str.injEq, PyData.bool.injEq, PyData.list.injEq, PyData.tuple.injEq, and_true, true_and, and_assoc, map_int_inj, ] at eq0
  obtain ⟨rfl, rfl⟩ := eq0
  exact hyp0
theorem ok_need_weight (T : Top K mg) : DefAt P w K mg base "need_weight" 2 ["thing", "least"] [] [] (sp_need_weight T) := by
  refine def_ok (sp_need_weight T) T.F_need_weight sc_need_weight T.m_need_weight T.b_need_weight (fun cdv A outer s H E hr tk pw => (dss_one (ds_if (dt_not (dt_val (de_call (ok_is_number T) hr (by decide) (by rfl) tk (fun _ _ => .nil) (da_cons (de_stl (dv 0)) (da_cons (de_stl (dv 1)) (da_cons (de_stl (de_gint T.g_GREATEST)) da_nil)))))) (dss_one (ds_raise rfl tk PySem.F.excBase_ValueError T.xx_NoWeight T.gx_NoWeight T.xk_NoWeight (raises_own T.xb_NoWeight T.xt_NoWeight) (by rfl))) dss_nil))) ?_
  rintro es μ q x - ⟨d, l, rfl, k⟩
  cases h : isNum d l 9 with
  | true =>
    rw [h, if_pos rfl] at k
    ((try walk_at "dx12"); repeat (walk_at "one" <;> (try walk_at "dx12")))
    rw [if_neg (by simp [h])]
    ((try walk_at "dx12"); repeat (walk_at "one" <;> (try walk_at "dx12")))
    exact k
  | false =>
    rw [h, if_neg (by simp)] at k
    ((try walk_at "dx12"); repeat (walk_at "one" <;> (try walk_at "dx12")))
    rw [if_pos (by simp [h])]
    ((try walk_at "dx12"); repeat (walk_at "one" <;> (try walk_at "dx12")))
    exact k
local macro_rules | `(tactic| walk_at "dx13") => `(tactic| simp (disch := first | assumption | omega) only [List.length_cons, List.length_nil, Nat.zero_add, Nat.reduceAdd, ↓exitQ_dat, startD, List.map_cons, List.map_nil, Nat.reduceSub, List.replicate, List.append_nil, ↓x_tNotD, ↓x_tVal, ↓x_dCall, ↓x_aCons, ↓x_dStl, ↓dVar_0, ↓old_dat, ↓stl_dat, ↓dVar_1, ↓x_dC, ↓x_aNil, ↓aO_cons, ↓nN_dat, ↓aO_nil, Bool.and_true, ↓e_is_number, ↓wB_b, ↓tk_0, true_and, ↓x_dOp, ↓x_dLst, ↓x_dFrz, ↓wDs_cons, ↓wDs_nil, nle_h, ↓ix_sp, ↓ix_tupD, at_nn, Int.reduceToNat, List.getElem?_cons_zero, Option.some.injEq, exists_eq_left', ↓ix_new, dVar_2, ↓wD_dat, dVar_1, ↓x_rSeq, ↓e_need_weight, ↓x_rRet, ↓x_dLam, ↓x_mkK, ↓capK_cons, List.getElem?_cons_succ, ↓capK_nil, ↓x_exitC, ↓ex_per, evK_s, μTab_h, List.cons_append, List.nil_append, ↓x_dCallW, ↓callWK_d, List.set_cons_succ, List.set_cons_zero, ↓dVar_3, ↓memA_spD, Bool.false_eq_true, if_false, decide_eq_true_eq, ↓x_dCB, ↓dVar_4, ↓dVar_2, ↓add_int, ↓min_ii, ↓intQ_i, ↓x_dCell, ↓x_dNewD, ↓cell_nd, ↓nN_loc, ↓x_iSeqD, ↓seqDK_l, ↓x_gNm, List.length_append, ↓fg_cons, ↓fg_nil, ↓x_gSb, ↓old_loc, ↓setD_sp, ↓get_a0, cl_per, ↓cl_none, ↓cl_dat, cl_loc, ↓cl_nil, ↓set_a0, tk_a1, lcD_d, List.length_map, nlt_h, ↓putE_sp, ↓x_sMkd, lockE_l, lockC_d, μTab_app, dc3_eq, dVar_5, ↓old_per, ↓tk_a0, ↓max_ii])
def B_by_sheet (_P : Program) (_w : World) (_mg : Str → Option Value) (_base : Heap) (_k : Nat) (cs : List EV) (g : PyData → Option Int) : Prop := ∃ a b : Int, cs = [.dat (.int a), .dat (.int b)] ∧ g = wgh on2B (shW a b)
theorem bd_by_sheet (T : Top K mg) {k : Nat} {cs' : List EV} {g : PyData → Option Int} (hB : B_by_sheet P w mg base k cs' g) : ∃ td : TDE, (∀ (q : Str) (cl : List (Str × Addr)) (c' : Addr) (f : Addr) (A : Around) (outer : List Env) (s : Shared) (H : Hp) (E : XK), Room k (A.deeper (NdefX.envF ⟨"<lambda>", q, lamA (pRet (pSt 2 (defBody s_by_sheet))), [], lamS (pRet (pSt 2 (defBody s_by_sheet))), cl, c'⟩ f s.heap.objs.size)) →
    Takes (NdefX.ncx (L2.CX P w) P w K mg base ["spot", "front", "back"] ⟨"<lambda>", q, lamA (pRet (pSt 2 (defBody s_by_sheet))), [], lamS (pRet (pSt 2 (defBody s_by_sheet))), cl, c'⟩ f A outer s H E) (fun cls d _ H => E cls d H) → DE (NdefX.ncx (L2.CX P w) P w K mg base ["spot", "front", "back"] ⟨"<lambda>", q, lamA (pRet (pSt 2 (defBody s_by_sheet))), [], lamS (pRet (pSt 2 (defBody s_by_sheet))), cl, c'⟩ f A outer s H E) (fun cls d _ H => E cls d H) (lamE (pRet (pSt 2 (defBody s_by_sheet)))) td) ∧ ∀ d r, g d = some r → td (startW 3 d cs') [] (intQ r) fun _ _ => False := by
  refine ⟨_, fun q cl c2 f2 A outer s H E hr tk => (de_ix ix_seq os_ix (de_lst (da_cons (de_frz (dv 1)) (da_cons (de_frz (dv 2)) da_nil))) (de_ix ix_seq os_ix (dv 0) de_int (fun _ _ => rfl)) (fun _ _ => rfl)), ?_⟩
  obtain ⟨a, b, rfl, rfl⟩ := hB
  intro d r h
  obtain ⟨c, rfl, hc, rfl⟩ := wgh_ex h
  unfold startW
  ((try walk_at "dx13"); repeat (walk_at "one" <;> (try walk_at "dx13")))
  rcases on2B_iff.mp hc with h0 | h0
  · exact ⟨.int a, by rw [h0]; rfl, by simp [intQ, shW, h0]⟩
  · exact ⟨.int b, by rw [h0]; rfl, by simp [intQ, shW, h0]⟩
theorem isNum_ex {d : PyData} {a b : Int} (h : isNum d a b = true) : ∃ n, d = .int n ∧ a ≤ n ∧ n ≤ b := by
  cases d <;> simp [isNum] at h
  exact ⟨_, rfl, h⟩
def sp_by_sheet (P : Program) (w : World) (base : Heap) (T : Top K mg) : SpD := fun es μ q x => ∃ (d : PyData) (e : PyData), es = [.dat d, .dat e] ∧ (μTab μ T.P_by_sheet "by_sheet.<locals>.<lambda>" ∧ (if isNum d 1 9 = true ∧ isNum e 1 9 = true then ∀ a b : Int, d = .int a → e = .int b → q (.per (wP P w mg base nT 1 (wgh on2B (shW a b)))) μ else x ⟨T.c_NoWeight, none⟩ μ))
theorem e_by_sheet (P : Program) (w : World) (base : Heap) (T : Top K mg) {d : PyData} {e : PyData} {μ : Mu} {q : PQ} {x : XQ} : sp_by_sheet P w base T [.dat d, .dat e] μ q x = (μTab μ T.P_by_sheet "by_sheet.<locals>.<lambda>" ∧ (if isNum d 1 9 = true ∧ isNum e 1 9 = true then ∀ a b : Int, d = .int a → e = .int b → q (.per (wP P w mg base nT 1 (wgh on2B (shW a b)))) μ else x ⟨T.c_NoWeight, none⟩ μ)) := by
  refine propext ⟨fun hyp0 => ?_, fun hyp0 => ⟨d, e, rfl, hyp0⟩⟩
  obtain ⟨d', e', eq0, hyp0⟩ := hyp0
  simp only [List.cons.injEq, Exn.mk.injEq, EV.at.injEq, eq_self, EV.dat.injEq, EV.loc.injEq, EV.new.injEq, EV.ro.injEq, EV.exc.injEq, EV.per.injEq, PyData.int.injEq, PyData.str.injEq, PyData.bool.injEq, PyData.list.injEq, PyData.tuple.injEq, and_true, true_and, and_assoc, map_int_inj, ] at eq0
  obtain ⟨rfl, rfl⟩ := eq0
  exact hyp0
theorem ok_by_sheet (T : Top K mg) (Bt : BtB mg base) : DefAt P w K mg base "by_sheet" 3 ["front", "back"] [] [] (sp_by_sheet P w base T) := by
  refine def_okC (sp_by_sheet P w base T) T.F_by_sheet sc_by_sheet T.m_by_sheet T.b_by_sheet T.kp_by_sheet (fun cells => ⟨_, fun A outer s H E hr hce tk pw => (dsr_cons (ds_expr (de_call (ok_need_weight T) hr (by decide) (by rfl) tk (fun _ _ => .nil) (da_cons (de_stl (dv 0)) (da_cons de_int da_nil))))
    (dsr_cons (ds_expr (de_call (ok_need_weight T) hr (by decide) (by rfl) tk (fun _ _ => .nil) (da_cons (de_stl (dv 1)) (da_cons de_int da_nil))))
    (dsr_ret (de_lam (nm := "by_sheet.<locals>.<lambda>") (x := "spot") (fr := ["front", "back"]) (js := [0, 1]) (N := ["spot", "front", "back"]) (B := B_by_sheet P w mg base) (params := lamA (pRet (pSt 2 (defBody s_by_sheet)))) (body := lamE (pRet (pSt 2 (defBody s_by_sheet)))) (scope := lamS (pRet (pSt 2 (defBody s_by_sheet)))) (P := P) (w := w) (mg := mg) (base := base) ⟨rfl, rfl, rfl, rfl⟩ T.hd_by_sheet T.gp_by_sheet Bt rfl hce rfl rfl (show NdefX.ndefB (defScope s_by_sheet) (lamS (pRet (pSt 2 (defBody s_by_sheet)))) ["front", "back"] = true by decide +kernel) (NdefX.nscope_by (by decide +kernel)) rfl (fun _ _ _ _ _ _ => rfl) (fun _ _ _ h => bd_by_sheet T h))))), ?_⟩)
  rintro es μ q x - ⟨d, e, rfl, hT, k⟩
  ((try walk_at "dx13"); repeat (walk_at "one" <;> (try walk_at "dx13")))
  by_cases h1 : isNum d 1 9 = true
  · rw [if_pos h1]
    ((try walk_at "dx13"); repeat (walk_at "one" <;> (try walk_at "dx13")))
    by_cases h2 : isNum e 1 9 = true
    · rw [if_pos h2]
      rw [if_pos ⟨h1, h2⟩] at k
      ((try walk_at "dx13"); repeat (walk_at "one" <;> (try walk_at "dx13")))
      obtain ⟨a, rfl, _⟩ := isNum_ex h1
      obtain ⟨b, rfl, _⟩ := isNum_ex h2
      exact ⟨0, clo_done (capsP_d (capsP_d capsP_nil)) ⟨a, b, rfl, rfl⟩ (by decide +kernel) (.cons 0 rfl rfl (.cons 1 rfl rfl .nil)) (k a b rfl rfl)⟩
    · rw [if_neg h2]
      rw [if_neg (fun z => h2 z.2)] at k
      simpa using k
  · rw [if_neg h1]
    rw [if_neg (fun z => h1 z.1)] at k
    simpa using k
local macro_rules | `(tactic| walk_at "dx14") => `(tactic| simp (disch := first | assumption | omega) only [List.length_cons, List.length_nil, Nat.zero_add, Nat.reduceAdd, ↓exitQ_dat, startD, List.map_cons, List.map_nil, Nat.reduceSub, List.replicate, List.append_nil, ↓x_tNotD, ↓x_tVal, ↓x_dCall, ↓x_aCons, ↓x_dStl, ↓dVar_0, ↓old_dat, ↓stl_dat, ↓dVar_1, ↓x_dC, ↓x_aNil, ↓aO_cons, ↓nN_dat, ↓aO_nil, Bool.and_true, ↓e_is_number, ↓wB_b, ↓tk_0, true_and, ↓x_dOp, ↓x_dLst, ↓x_dFrz, ↓wDs_cons, ↓wDs_nil, nle_h, ↓ix_sp, ↓ix_tupD, at_nn, Int.reduceToNat, List.getElem?_cons_zero, Option.some.injEq, exists_eq_left', ↓ix_new, dVar_2, ↓wD_dat, dVar_1, ↓x_rSeq, ↓e_need_weight, ↓x_rRet, ↓x_dLam, ↓x_mkK, ↓capK_cons, List.getElem?_cons_succ, ↓capK_nil, ↓x_exitC, ↓ex_per, evK_s, μTab_h, List.cons_append, List.nil_append, ↓x_dCallW, ↓callWK_d, List.set_cons_succ, List.set_cons_zero, ↓dVar_3, ↓memA_spD, Bool.false_eq_true, if_false, decide_eq_true_eq, ↓x_dCB, ↓dVar_4, ↓dVar_2, ↓add_int, ↓min_ii, ↓intQ_i, ↓x_dCell, ↓x_dNewD, ↓cell_nd, ↓nN_loc, ↓x_iSeqD, ↓seqDK_l, ↓x_gNm, List.length_append, ↓fg_cons, ↓fg_nil, ↓x_gSb, ↓old_loc, ↓setD_sp, ↓get_a0, cl_per, ↓cl_none, ↓cl_dat, cl_loc, ↓cl_nil, ↓set_a0, tk_a1, lcD_d, List.length_map, nlt_h, ↓putE_sp, ↓x_sMkd, lockE_l, lockC_d, μTab_app, dc3_eq, dVar_5, ↓old_per, ↓tk_a0, ↓max_ii])
/-- dearer on some spots -/
def dearW (f : Sp3 → Int) (cs : List Sp3) (m : Int) (c : Sp3) : Int := if c ∈ cs then min 9 (f c + m) else f c
def B_dearer (P : Program) (w : World) (mg : Str → Option Value) (base : Heap) (k : Nat) (cs : List EV) (g : PyData → Option Int) : Prop := ∃ (p : Sp3 → Bool) (f : Sp3 → Int) (k' : Nat) (m : Int) (gs : List Sp3), k' ≤ k ∧ cs = [.per (wP P w mg base nT k' (wgh p f)), .dat (.int m), .dat (dc3 gs)] ∧ g = wgh p (dearW f gs m)
theorem bd_dearer (T : Top K mg) {k : Nat} {cs' : List EV} {g : PyData → Option Int} (hB : B_dearer P w mg base k cs' g) : ∃ td : TDS, (∀ (q : Str) (cl : List (Str × Addr)) (c' : Addr) (f : Addr) (A : Around) (outer : List Env) (s : Shared) (H : Hp) (E : XK), Room k (A.deeper (NdefX.envF ⟨"told", q, fnAr (pSt 3 (defBody s_dearer)), fnBo (pSt 3 (defBody s_dearer)), fnSc (pSt 3 (defBody s_dearer)), cl, c'⟩ f s.heap.objs.size)) →
    Takes (NdefX.ncx (L2.CX P w) P w K mg base ["spot", "weigh", "more", "dear", "number"] ⟨"told", q, fnAr (pSt 3 (defBody s_dearer)), fnBo (pSt 3 (defBody s_dearer)), fnSc (pSt 3 (defBody s_dearer)), cl, c'⟩ f A outer s H E) (fun cls d _ H => E cls d H) → PassesOwn (model P w) (A.deeper (NdefX.envF ⟨"told", q, fnAr (pSt 3 (defBody s_dearer)), fnBo (pSt 3 (defBody s_dearer)), fnSc (pSt 3 (defBody s_dearer)), cl, c'⟩ f s.heap.objs.size)) (NdefX.envF ⟨"told", q, fnAr (pSt 3 (defBody s_dearer)), fnBo (pSt 3 (defBody s_dearer)), fnSc (pSt 3 (defBody s_dearer)), cl, c'⟩ f s.heap.objs.size) (NdefX.ncx (L2.CX P w) P w K mg base ["spot", "weigh", "more", "dear", "number"] ⟨"told", q, fnAr (pSt 3 (defBody s_dearer)), fnBo (pSt 3 (defBody s_dearer)), fnSc (pSt 3 (defBody s_dearer)), cl, c'⟩ f A outer s H E).xe → DSs (NdefX.ncx (L2.CX P w) P w K mg base ["spot", "weigh", "more", "dear", "number"] ⟨"told", q, fnAr (pSt 3 (defBody s_dearer)), fnBo (pSt 3 (defBody s_dearer)), fnSc (pSt 3 (defBody s_dearer)), cl, c'⟩ f A outer s H E) (fun cls d _ H => E cls d H) (fnBo (pSt 3 (defBody s_dearer))) td) ∧ ∀ d r, g d = some r → td { nx := fun _ _ => False, rt := intQ r } (fun _ _ => False) (startW 5 d cs') [] := by
  refine ⟨_, fun q cl c2 f2 A outer s H E hr tk pw => (dss_cons (ds_set (i := 4) (show List.Nodup (["spot", "weigh", "more", "dear", "number"] : List Str) by decide) rfl (by first | exact Or.inl rfl | exact Or.inr rfl) (de_stl (de_callW (P := P) (w := w) (mg := mg) (base := base) (i := 1) ⟨rfl, rfl, rfl, rfl⟩ hr (da_cons (de_stl (dv 0)) da_nil))))
    (dss_cons (ds_if (dt_cmp (opA_in hr.units) os_memA (dv 0) (dv 3) (by rfl)) (dss_one (ds_set (i := 4) (show List.Nodup (["spot", "weigh", "more", "dear", "number"] : List Str) by decide) rfl (by first | exact Or.inl rfl | exact Or.inr rfl) (de_stl (de_callB (call_min2 rfl) cs_min2 (by rfl) T.n_min bb_min (da_cons (de_gint T.g_GREATEST) (da_cons (de_op opA_add os_add (dv 4) (dv 2)) da_nil)))))) dss_nil)
    (dss_one (ds_ret (dv 4))))), ?_⟩
  obtain ⟨p, f, k', m, gs, hk, rfl, rfl⟩ := hB
  intro d r h
  obtain ⟨c, rfl, hc, rfl⟩ := wgh_ex h
  unfold startW
  ((try walk_at "dx14"); repeat (walk_at "one" <;> (try walk_at "dx14")))
  refine fnK_w hk ⟨_, wgh_sp hc, ?_⟩
  ((try walk_at "dx14"); repeat (walk_at "one" <;> (try walk_at "dx14")))
  by_cases hg : c ∈ gs
  · rw [if_pos (by simpa using hg)]
    ((try walk_at "dx14"); repeat (walk_at "one" <;> (try walk_at "dx14")))
    unfold dearW
    rw [if_pos hg]
    split <;> omega
  · rw [if_neg (by simpa using hg)]
    ((try walk_at "dx14"); repeat (walk_at "one" <;> (try walk_at "dx14")))
    unfold dearW
    rw [if_neg hg]
theorem len_insA (gs : List Sp3) (c : Sp3) : (insA gs c).length ≤ gs.length + 1 := by
  unfold insA
  split
  · omega
  · simp
def sp_dearer (P : Program) (w : World) (base : Heap) (T : Top K mg) : SpD := fun es μ q x => ∃ (c : Per) (cs : List Sp3) (d : PyData), es = [.per c, .dat (.list (cs.map spD)), .dat d] ∧ ((μTab μ T.P_dearer "dearer.<locals>.told" ∧ cs.length ≤ 1000) ∧ ∃ (p : Sp3 → Bool) (f : Sp3 → Int) (k : Nat), c = wP P w mg base nT k (wgh p f) ∧ (if isNum d 0 9 = true then ∀ m : Int, d = .int m → q (.per (wP P w mg base nT (k + 1) (wgh p (dearW f cs m)))) μ else x ⟨T.c_NoWeight, none⟩ μ))
theorem e_dearer (P : Program) (w : World) (base : Heap) (T : Top K mg) {c : Per} {cs : List Sp3} {d : PyData} {μ : Mu} {q : PQ} {x : XQ} : sp_dearer P w base T [.per c, .dat (.list (cs.map spD)), .dat d] μ q x = ((μTab μ T.P_dearer "dearer.<locals>.told" ∧ cs.length ≤ 1000) ∧ ∃ (p : Sp3 → Bool) (f : Sp3 → Int) (k : Nat), c = wP P w mg base nT k (wgh p f) ∧ (if isNum d 0 9 = true then ∀ m : Int, d = .int m → q (.per (wP P w mg base nT (k + 1) (wgh p (dearW f cs m)))) μ else x ⟨T.c_NoWeight, none⟩ μ)) := by
  refine propext ⟨fun hyp0 => ?_, fun hyp0 => ⟨c, cs, d, rfl, hyp0⟩⟩
  obtain ⟨c', cs', d', eq0, hyp0⟩ := hyp0
  simp only [List.cons.injEq, Exn.mk.injEq, EV.at.injEq, eq_self, EV.dat.injEq, EV.loc.injEq, EV.new.injEq, EV.ro.injEq, EV.exc.injEq, EV.per.injEq, PyData.int.injEq, PyData.str.injEq, PyData.bool.injEq, PyData.list.injEq, PyData.tuple.injEq, and_true, true_and, and_assoc, map_int_inj, sps_inj] at eq0
  obtain ⟨rfl, rfl, rfl⟩ := eq0
  exact hyp0
theorem ok_dearer (T : Top K mg) (Bt : BtB mg base) : DefAt P w K mg base "dearer" 3 ["weigh", "spots", "more"] [] [] (sp_dearer P w base T) := by
  refine def_okC (sp_dearer P w base T) T.F_dearer sc_dearer T.m_dearer T.b_dearer T.kp_dearer (fun cells => ⟨_, fun A outer s H E hr hce tk pw => (dsr_cons (ds_expr (de_call (ok_need_weight T) hr (by decide) (by rfl) tk (fun _ _ => .nil) (da_cons (de_stl (dv 2)) (da_cons de_int da_nil))))
    (dsr_cons (ds_set (i := 3) sc_dearer.nd rfl (by first | exact Or.inl rfl | exact Or.inr rfl) (de_cell de_dnewT))
    (dsr_cons (ds_forF [1, 4, 5] pw rfl (di_seqD (dv 1)) (dg_name (i := 4) sc_dearer.nd rfl (by first | exact Or.inl rfl | exact Or.inr rfl)) (dss_one (ds_asg de_bl (dg_sub (W := WF) (dv 3) (dv 4) (set_dictU hr.units) ss_dict))))
    (dsr_cons (ds_lock 3 (ds_mkdef (i := 5) (nm := "dearer.<locals>.told") (x := "spot") (fr := ["weigh", "more", "dear"]) (js := [0, 2, 3]) (N := ["spot", "weigh", "more", "dear", "number"]) (B := B_dearer P w mg base) (params := fnAr (pSt 3 (defBody s_dearer))) (fbody := fnBo (pSt 3 (defBody s_dearer))) (scope := fnSc (pSt 3 (defBody s_dearer))) (P := P) (w := w) (mg := mg) (base := base) ⟨rfl, rfl, rfl, rfl⟩ T.hd_dearer T.gp_dearer Bt rfl hce rfl rfl rfl rfl sc_dearer.nd rfl (by first | exact Or.inl rfl | exact Or.inr rfl) (.inl rfl) (show NdefX.ndefB (defScope s_dearer) (fnSc (pSt 3 (defBody s_dearer))) ["weigh", "more", "dear"] = true by decide +kernel) (NdefX.nscope_by (by decide +kernel)) rfl (fun _ _ _ _ _ _ _ => rfl) (fun _ _ _ h => bd_dearer T h)))
    (dsr_ret (dv 5)))))), ?_⟩)
  rintro es μ q x - ⟨c, cs, d, rfl, ⟨hT, hl⟩, p, f, k, rfl, h⟩
  ((try walk_at "dx14"); repeat (walk_at "one" <;> (try walk_at "dx14")))
  by_cases h1 : isNum d 0 9 = true
  · rw [if_pos h1] at h ⊢
    obtain ⟨m, rfl, _⟩ := isNum_ex h1
    have h := h m rfl
    ((try walk_at "dx14"); repeat (walk_at "one" <;> (try walk_at "dx14")))
    refine for_stD (as := cs) (en := spD) (fun i (gs : List Sp3) => gs.Nodup ∧ gs.length ≤ i ∧ ∀ p, p ∈ gs ↔ p ∈ cs.take i) (fun η _ => η) (fun _ gs => μ ++ [.dct (gs.map spE)]) [] rfl rfl ⟨.nil, by simp, fun p => by simp⟩ (fun _ => trivial) ?_ ?_
    · rintro i c gs J hi ⟨hnd, hgl, hg⟩ hJ
      have hic := get_lt hi
      ((try walk_at "dx14"); repeat (walk_at "one" <;> (try walk_at "dx14")))
      (try walk_at "ok")
      (have j := hJ (insA gs c) ⟨nodup_insA hnd c, Nat.le_trans (len_insA gs c) (by omega), fun p => by rw [mem_insA, hg, List.take_add_one, hi]; simp⟩; simp only [List.range_succ, List.map_append, List.map_cons, List.map_nil, fg_cons, fg_nil, List.set_cons_succ, List.set_cons_zero] at j; exact j)
    · rintro gs ⟨hnd, hgl, hg⟩
      rw [List.take_length] at hg
      have e : dearW f cs m = dearW f gs m := by
        funext c
        unfold dearW
        simp only [hg]
      rw [e] at h
      ((try walk_at "dx14"); repeat (walk_at "one" <;> (try walk_at "dx14")))
      exact ⟨k, _, nT, _, .inl ⟨rfl, rfl, capsP_w (capsP_d (capsP_d capsP_nil))⟩, ⟨p, f, k, m, gs, Nat.le_refl _, rfl, rfl⟩, _, .fn (.all (.A (.caps (by decide +kernel) (dpP (capsP_w (capsP_d (capsP_d capsP_nil)))) (SlotsAre.all (.cons 0 rfl rfl (.cons 2 rfl rfl (.cons 3 rfl rfl .nil))))) .T)), h⟩
  · rw [if_neg h1] at h ⊢
    simpa using h
local macro_rules | `(tactic| walk_at "dx15") => `(tactic| simp (disch := first | assumption | omega) only [List.length_cons, List.length_nil, Nat.zero_add, Nat.reduceAdd, ↓exitQ_dat, startD, List.map_cons, List.map_nil, Nat.reduceSub, List.replicate, List.append_nil, ↓x_tNotD, ↓x_tVal, ↓x_dCall, ↓x_aCons, ↓x_dStl, ↓dVar_0, ↓old_dat, ↓stl_dat, ↓dVar_1, ↓x_dC, ↓x_aNil, ↓aO_cons, ↓nN_dat, ↓aO_nil, Bool.and_true, ↓e_is_number, ↓wB_b, ↓tk_0, true_and, ↓x_dOp, ↓x_dLst, ↓x_dFrz, ↓wDs_cons, ↓wDs_nil, nle_h, ↓ix_sp, ↓ix_tupD, at_nn, Int.reduceToNat, List.getElem?_cons_zero, Option.some.injEq, exists_eq_left', ↓ix_new, dVar_2, ↓wD_dat, dVar_1, ↓x_rSeq, ↓e_need_weight, ↓x_rRet, ↓x_dLam, ↓x_mkK, ↓capK_cons, List.getElem?_cons_succ, ↓capK_nil, ↓x_exitC, ↓ex_per, evK_s, μTab_h, List.cons_append, List.nil_append, ↓x_dCallW, ↓callWK_d, List.set_cons_succ, List.set_cons_zero, ↓dVar_3, ↓memA_spD, Bool.false_eq_true, if_false, decide_eq_true_eq, ↓x_dCB, ↓dVar_4, ↓dVar_2, ↓add_int, ↓min_ii, ↓intQ_i, ↓x_dCell, ↓x_dNewD, ↓cell_nd, ↓nN_loc, ↓x_iSeqD, ↓seqDK_l, ↓x_gNm, List.length_append, ↓fg_cons, ↓fg_nil, ↓x_gSb, ↓old_loc, ↓setD_sp, ↓get_a0, cl_per, ↓cl_none, ↓cl_dat, cl_loc, ↓cl_nil, ↓set_a0, tk_a1, lcD_d, List.length_map, nlt_h, ↓putE_sp, ↓x_sMkd, lockE_l, lockC_d, μTab_app, dc3_eq, dVar_5, ↓old_per, ↓tk_a0, ↓max_ii])
/-- the greater one -/
def B_heavier (P : Program) (w : World) (mg : Str → Option Value) (base : Heap) (k : Nat) (cs : List EV) (g : PyData → Option Int) : Prop := ∃ (p p2 : Sp3 → Bool) (f f2 : Sp3 → Int) (k1 k2 : Nat), k1 ≤ k ∧ k2 ≤ k ∧ cs = [.per (wP P w mg base nT k1 (wgh p f)), .per (wP P w mg base nT k2 (wgh p2 f2))] ∧ g = wgh (fun c => p c && p2 c) (fun c => max (f c) (f2 c))
theorem bd_heavier (T : Top K mg) {k : Nat} {cs' : List EV} {g : PyData → Option Int} (hB : B_heavier P w mg base k cs' g) : ∃ td : TDE, (∀ (q : Str) (cl : List (Str × Addr)) (c' : Addr) (f : Addr) (A : Around) (outer : List Env) (s : Shared) (H : Hp) (E : XK), Room k (A.deeper (NdefX.envF ⟨"<lambda>", q, lamA (pRet (pSt 0 (defBody s_heavier))), [], lamS (pRet (pSt 0 (defBody s_heavier))), cl, c'⟩ f s.heap.objs.size)) →
    Takes (NdefX.ncx (L2.CX P w) P w K mg base ["spot", "one", "other"] ⟨"<lambda>", q, lamA (pRet (pSt 0 (defBody s_heavier))), [], lamS (pRet (pSt 0 (defBody s_heavier))), cl, c'⟩ f A outer s H E) (fun cls d _ H => E cls d H) → DE (NdefX.ncx (L2.CX P w) P w K mg base ["spot", "one", "other"] ⟨"<lambda>", q, lamA (pRet (pSt 0 (defBody s_heavier))), [], lamS (pRet (pSt 0 (defBody s_heavier))), cl, c'⟩ f A outer s H E) (fun cls d _ H => E cls d H) (lamE (pRet (pSt 0 (defBody s_heavier)))) td) ∧ ∀ d r, g d = some r → td (startW 3 d cs') [] (intQ r) fun _ _ => False := by
  refine ⟨_, fun q cl c2 f2 A outer s H E hr tk => (de_callB (call_max2 rfl) cs_max2 (by rfl) T.n_max bb_max (da_cons (de_callW (P := P) (w := w) (mg := mg) (base := base) (i := 1) ⟨rfl, rfl, rfl, rfl⟩ hr (da_cons (de_stl (dv 0)) da_nil)) (da_cons (de_callW (P := P) (w := w) (mg := mg) (base := base) (i := 2) ⟨rfl, rfl, rfl, rfl⟩ hr (da_cons (de_stl (dv 0)) da_nil)) da_nil))), ?_⟩
  obtain ⟨p, p2, f, f2, k1, k2, hk1, hk2, rfl, rfl⟩ := hB
  intro d r h
  obtain ⟨c, rfl, hc, rfl⟩ := wgh_ex h
  rw [Bool.and_eq_true] at hc
  unfold startW
  ((try walk_at "dx15"); repeat (walk_at "one" <;> (try walk_at "dx15")))
  refine fnK_w hk1 ⟨_, wgh_sp hc.1, ?_⟩
  ((try walk_at "dx15"); repeat (walk_at "one" <;> (try walk_at "dx15")))
  refine fnK_w hk2 ⟨_, wgh_sp hc.2, ?_⟩
  ((try walk_at "dx15"); repeat (walk_at "one" <;> (try walk_at "dx15")))
  split <;> omega
def sp_heavier (P : Program) (w : World) (base : Heap) (T : Top K mg) : SpD := fun es μ q x => ∃ (c : Per) (c2 : Per), es = [.per c, .per c2] ∧ (μTab μ T.P_heavier "heavier.<locals>.<lambda>" ∧ ∃ (p p2 : Sp3 → Bool) (f f2 : Sp3 → Int) (k k2 : Nat) (N N2 : Need), c = wP P w mg base N k (wgh p f) ∧ c2 = wP P w mg base N2 k2 (wgh p2 f2) ∧ NStab N ∧ NStab N2 ∧ q (.per (wP P w mg base (nA N (nA N2 nT)) (max k k2 + 1) (wgh (fun c => p c && p2 c) fun c => max (f c) (f2 c)))) μ)
theorem e_heavier (P : Program) (w : World) (base : Heap) (T : Top K mg) {c : Per} {c2 : Per} {μ : Mu} {q : PQ} {x : XQ} : sp_heavier P w base T [.per c, .per c2] μ q x = (μTab μ T.P_heavier "heavier.<locals>.<lambda>" ∧ ∃ (p p2 : Sp3 → Bool) (f f2 : Sp3 → Int) (k k2 : Nat) (N N2 : Need), c = wP P w mg base N k (wgh p f) ∧ c2 = wP P w mg base N2 k2 (wgh p2 f2) ∧ NStab N ∧ NStab N2 ∧ q (.per (wP P w mg base (nA N (nA N2 nT)) (max k k2 + 1) (wgh (fun c => p c && p2 c) fun c => max (f c) (f2 c)))) μ) := by
  refine propext ⟨fun hyp0 => ?_, fun hyp0 => ⟨c, c2, rfl, hyp0⟩⟩
  obtain ⟨c', c2', eq0, hyp0⟩ := hyp0
  simp only [List.cons.injEq, Exn.mk.injEq, EV.at.injEq, eq_self, EV.dat.injEq, EV.loc.injEq, EV.new.injEq, EV.ro.injEq, EV.exc.injEq, EV.per.injEq, PyData.int.injEq, PyData.str.injEq, PyData.bool.injEq, PyData.list.injEq, PyData.tuple.injEq, and_true, true_and, and_assoc, map_int_inj, ] at eq0
  obtain ⟨rfl, rfl⟩ := eq0
  exact hyp0
theorem ok_heavier (T : Top K mg) (Bt : BtB mg base) : DefAt P w K mg base "heavier" 1 ["one", "other"] [] [] (sp_heavier P w base T) := by
  refine def_okC (sp_heavier P w base T) T.F_heavier sc_heavier T.m_heavier T.b_heavier T.kp_heavier (fun cells => ⟨_, fun A outer s H E hr hce tk pw => (dsr_ret (de_lam (nm := "heavier.<locals>.<lambda>") (x := "spot") (fr := ["one", "other"]) (js := [0, 1]) (N := ["spot", "one", "other"]) (B := B_heavier P w mg base) (params := lamA (pRet (pSt 0 (defBody s_heavier)))) (body := lamE (pRet (pSt 0 (defBody s_heavier)))) (scope := lamS (pRet (pSt 0 (defBody s_heavier)))) (P := P) (w := w) (mg := mg) (base := base) ⟨rfl, rfl, rfl, rfl⟩ T.hd_heavier T.gp_heavier Bt rfl hce rfl rfl (show NdefX.ndefB (defScope s_heavier) (lamS (pRet (pSt 0 (defBody s_heavier)))) ["one", "other"] = true by decide +kernel) (NdefX.nscope_by (by decide +kernel)) rfl (fun _ _ _ _ _ _ => rfl) (fun _ _ _ h => bd_heavier T h))), ?_⟩)
  rintro es μ q x - ⟨c, c2, rfl, hT, p, p2, f, f2, k, k2, N, N2, rfl, rfl, hN, hN2, h⟩
  ((try walk_at "dx15"); repeat (walk_at "one" <;> (try walk_at "dx15")))
  refine ⟨max k k2, _, _, _, .inr (.cons hN (.cons hN2 .nil)), ⟨p, p2, f, f2, k, k2, Nat.le_max_left _ _, Nat.le_max_right _ _, rfl, rfl⟩, _, .fn (.right (.caps (by decide +kernel) (fun e he => ?_) (SlotsAre.all (.cons 0 rfl rfl (.cons 1 rfl rfl .nil))))), h⟩
  simp only [List.mem_cons, List.not_mem_nil, or_false] at he
  rcases he with rfl | rfl <;> exact .inr ⟨_, rfl⟩
local macro_rules | `(tactic| walk_at "dx16") => `(tactic| simp (disch := first | assumption | omega) only [List.length_cons, List.length_nil, Nat.zero_add, Nat.reduceAdd, ↓exitQ_dat, startD, List.map_cons, List.map_nil, Nat.reduceSub, List.replicate, List.append_nil, ↓x_tNotD, ↓x_tVal, ↓x_dCall, ↓x_aCons, ↓x_dStl, ↓dVar_0, ↓old_dat, ↓stl_dat, ↓dVar_1, ↓x_dC, ↓x_aNil, ↓aO_cons, ↓nN_dat, ↓aO_nil, Bool.and_true, ↓e_is_number, ↓wB_b, ↓tk_0, true_and, ↓x_dOp, ↓x_dLst, ↓x_dFrz, ↓wDs_cons, ↓wDs_nil, nle_h, ↓ix_sp, ↓ix_tupD, at_nn, Int.reduceToNat, List.getElem?_cons_zero, Option.some.injEq, exists_eq_left', ↓ix_new, dVar_2, ↓wD_dat, dVar_1, ↓x_rSeq, ↓e_need_weight, ↓x_rRet, ↓x_dLam, ↓x_mkK, ↓capK_cons, List.getElem?_cons_succ, ↓capK_nil, ↓x_exitC, ↓ex_per, evK_s, μTab_h, List.cons_append, List.nil_append, ↓x_dCallW, ↓callWK_d, List.set_cons_succ, List.set_cons_zero, ↓dVar_3, ↓memA_spD, Bool.false_eq_true, if_false, decide_eq_true_eq, ↓x_dCB, ↓dVar_4, ↓dVar_2, ↓add_int, ↓min_ii, ↓intQ_i, ↓x_dCell, ↓x_dNewD, ↓cell_nd, ↓nN_loc, ↓x_iSeqD, ↓seqDK_l, ↓x_gNm, List.length_append, ↓fg_cons, ↓fg_nil, ↓x_gSb, ↓old_loc, ↓setD_sp, ↓get_a0, cl_per, ↓cl_none, ↓cl_dat, cl_loc, ↓cl_nil, ↓set_a0, tk_a1, lcD_d, List.length_map, nlt_h, ↓putE_sp, ↓x_sMkd, lockE_l, lockC_d, μTab_app, dc3_eq, dVar_5, ↓old_per, ↓tk_a0, ↓max_ii])
/-! ### costs of ways -/
section
variable (P : Sp3 → Prop) (ts : List Sp3) (stp : Sp3 → Sp3 → Int)
/-- a way from p to one of ts comes to k -/
inductive Cost : Sp3 → Int → Prop
  | base {s : Sp3} : s ∈ ts → P s → Cost s 0
  | step {q p : Sp3} {k : Int} : Cost q k → p ∈ nb5 q → P p → Cost p (k + stp q p)
def LeastC (p : Sp3) (k : Int) : Prop := Cost P ts stp p k ∧ ∀ k', Cost P ts stp p k' → k ≤ k'
/-- found, and those that wait -/
structure Wav (gs : List (Sp3 × Int)) (E : Int → Sp3 → Prop) : Prop where
  le : ∀ p c, (p, c) ∈ gs → LeastC P ts stp p c
  en : ∀ k p, E k p → Cost P ts stp p k
  st : ∀ t ∈ ts, P t → (∃ d, (t, d) ∈ gs) ∨ E 0 t
  cl : ∀ q c, (q, c) ∈ gs → ∀ p ∈ nb5 q, P p → (∃ d, (p, d) ∈ gs) ∨ E (c + stp q p) p
  nd : (gs.map Prod.fst).Nodup
end
section
variable {P : Sp3 → Prop} {ts : List Sp3} {stp : Sp3 → Sp3 → Int}
theorem Cost.p {p : Sp3} {k : Int} (h : Cost P ts stp p k) : P p := by
  cases h with
  | base _ h => exact h
  | step _ _ h => exact h
theorem Cost.nonneg (hs : ∀ q p, P q → 0 ≤ stp q p) {p : Sp3} {k : Int} (h : Cost P ts stp p k) : 0 ≤ k := by
  induction h with
  | base _ _ => exact Int.le_refl _
  | step hc _ _ ih => have := hs _ ‹Sp3› hc.p; rename_i q p k _ _; have := hs q p hc.p; omega
theorem Wav.pend (hs : ∀ q p, P q → 0 ≤ stp q p) {gs : List (Sp3 × Int)} {E : Int → Sp3 → Prop} (W : Wav P ts stp gs E) {p : Sp3} {k : Int} (h : Cost P ts stp p k) : (∃ d, (p, d) ∈ gs) ∨ ∃ k' x, E k' x ∧ k' ≤ k := by
  induction h with
  | base hs hp => exact (W.st _ hs hp).elim .inl fun z => .inr ⟨_, _, z, Int.le_refl _⟩
  | @step q p k hc hn hp ih =>
    have h0 := hs q p hc.p
    rcases ih with ⟨d, hd⟩ | ⟨k', x, he, hk⟩
    · have hdk := (W.le _ _ hd).2 _ hc
      rcases W.cl _ _ hd _ hn hp with z | z
      · exact .inl z
      · exact .inr ⟨_, _, z, by omega⟩
    · exact .inr ⟨k', x, he, by omega⟩
theorem Wav.drop {gs : List (Sp3 × Int)} {E E' : Int → Sp3 → Prop} (W : Wav P ts stp gs E) (h1 : ∀ k p, E k p → E' k p ∨ ∃ d, (p, d) ∈ gs) (h2 : ∀ k p, E' k p → E k p) : Wav P ts stp gs E' where
  le := W.le
  en := fun k p h => W.en k p (h2 k p h)
  st := fun t ht hp => (W.st t ht hp).elim .inl fun z => (h1 _ _ z).elim .inr .inl
  cl := fun q c hq p hn hp => (W.cl q c hq p hn hp).elim .inl fun z => (h1 _ _ z).elim .inr .inl
  nd := W.nd
theorem Wav.find (hs : ∀ q p, P q → 0 ≤ stp q p) {gs : List (Sp3 × Int)} {E E' : Int → Sp3 → Prop} {here : Int} {c : Sp3} (W : Wav P ts stp gs E) (lo : ∀ k p, E k p → here ≤ k) (hc : E here c) (hg : c ∉ gs.map Prod.fst)
    (h1 : ∀ k p, E k p → E' k p ∨ p = c) (h2 : ∀ p ∈ nb5 c, P p → E' (here + stp c p) p) (h3 : ∀ k p, E' k p → E k p ∨ (p ∈ nb5 c ∧ P p ∧ k = here + stp c p)) : Wav P ts stp (gs ++ [(c, here)]) E' where
  le := fun p d hp => by
    rcases List.mem_append.mp hp with hp | hp
    · exact W.le p d hp
    · have e := List.mem_singleton.mp hp
      cases e
      refine ⟨W.en _ _ hc, fun k' hk' => ?_⟩
      rcases W.pend hs hk' with ⟨d, hd⟩ | ⟨k2, x, he, hk⟩
      · exact absurd (List.mem_map.mpr ⟨_, hd, rfl⟩) hg
      · have := lo _ _ he; omega
  en := fun k p h => (h3 k p h).elim (W.en k p) fun ⟨z1, z2, z3⟩ => by rw [z3]; exact .step (W.en _ _ hc) z1 z2
  st := fun t ht hp => (W.st t ht hp).elim (fun ⟨d, z⟩ => .inl ⟨d, List.mem_append_left _ z⟩) fun z => (h1 _ _ z).elim .inr fun e => .inl ⟨here, by rw [e]; simp⟩
  cl := fun q d hq p hn hp => by
    rcases List.mem_append.mp hq with hq | hq
    · exact (W.cl q d hq p hn hp).elim (fun ⟨d, z⟩ => .inl ⟨d, List.mem_append_left _ z⟩) fun z => (h1 _ _ z).elim .inr fun e => .inl ⟨here, by rw [e]; simp⟩
    · have e := List.mem_singleton.mp hq
      cases e
      exact .inr (h2 p hn hp)
  nd := by
    rw [List.map_append]
    exact List.nodup_append.mpr ⟨W.nd, by simp, fun a ha b hb => by simp at hb; rw [hb]; exact fun e => hg (e ▸ ha)⟩
theorem wav_0 (h : ∀ t ∈ ts, P t) : Wav P ts stp [] fun k p => k = 0 ∧ p ∈ ts :=
  ⟨fun p c h => by simp at h, fun k p ⟨e, hp⟩ => by rw [e]; exact .base hp (h p hp), fun t ht _ => .inr ⟨rfl, ht⟩, fun q c h => by simp at h, by simp⟩
/-- what waves tells -/
structure Told (P : Sp3 → Prop) (ts : List Sp3) (stp : Sp3 → Sp3 → Int) (gs : List (Sp3 × Int)) : Prop where
  nd : (gs.map Prod.fst).Nodup
  le : ∀ p c, (p, c) ∈ gs ↔ LeastC P ts stp p c
theorem LeastC.uniq {p : Sp3} {a b : Int} (h : LeastC P ts stp p a) (h' : LeastC P ts stp p b) : a = b := by
  have := h.2 _ h'.1
  have := h'.2 _ h.1
  omega
theorem Wav.told (hs : ∀ q p, P q → 0 ≤ stp q p) {gs : List (Sp3 × Int)} {E : Int → Sp3 → Prop} (W : Wav P ts stp gs E) (h : ∀ k p, ¬ E k p) : Told P ts stp gs :=
  ⟨W.nd, fun p c => ⟨W.le p c, fun hl => (W.pend hs hl.1).elim (fun ⟨d, hd⟩ => by rw [hl.uniq (W.le _ _ hd)]; exact hd) fun ⟨k, x, he, _⟩ => absurd he (h k x)⟩⟩
end
/-! rings: the spots that wait, by their prices -/
abbrev Rg := List (Int × Addr × List Sp3)
def rgE (rs : Rg) (k : Int) (p : Sp3) : Prop := ∃ a l, (k, a, l) ∈ rs ∧ p ∈ l
def rgK (rs : Rg) : List Key := rs.map fun r => .inl r.1
def rgT (rs : Rg) : List DL.Tree := rs.map fun r => .nod .lst r.2.1 ((r.2.2.map spD).map .dat)
def rgIx : Rg → Int → Option Nat
  | [], _ => none
  | r :: rs, k => if r.1 = k then some 0 else (rgIx rs k).map (· + 1)
theorem findIx_rg {rs : Rg} {k : Int} : findIx (rgK rs) (.inl k) = rgIx rs k := by
  induction rs with
  | nil => rfl
  | cons r rs ih =>
    show (if (Sum.inl r.1 : Key) = .inl k then some 0 else (findIx (rgK rs) (.inl k)).map (· + 1)) = _
    unfold rgIx
    rw [ih]
    by_cases h : r.1 = k
    · rw [if_pos (by rw [h]), if_pos h]
    · rw [if_neg (fun z => h (Sum.inl.inj z)), if_neg h]
theorem rgIx_none {rs : Rg} {k : Int} (h : rgIx rs k = none) : ∀ r ∈ rs, r.1 ≠ k := by
  induction rs with
  | nil => intro r hr; simp at hr
  | cons c rs ih =>
    unfold rgIx at h
    split at h
    · cases h
    · rename_i hc
      rw [Option.map_eq_none_iff] at h
      intro r hr
      rcases List.mem_cons.mp hr with rfl | hr
      · exact hc
      · exact ih h r hr
theorem rgIx_some {rs : Rg} {k : Int} {i : Nat} (h : rgIx rs k = some i) : ∃ a l, rs[i]? = some (k, a, l) := by
  induction rs generalizing i with
  | nil => cases h
  | cons c rs ih =>
    unfold rgIx at h
    split at h
    · rename_i hc
      cases h
      exact ⟨c.2.1, c.2.2, by rw [← hc]; rfl⟩
    · cases hi : rgIx rs k with
      | none => rw [hi] at h; cases h
      | some j =>
        rw [hi] at h
        cases h
        exact ih hi
/-- p put in the ring of k (a new one at a) -/
def rgAdd : Rg → Int → Sp3 → Addr → Rg
  | [], k, p, a => [(k, a, [p])]
  | r :: rs, k, p, a => if r.1 = k then (r.1, r.2.1, r.2.2 ++ [p]) :: rs else r :: rgAdd rs k p a
theorem rgAdd_none {rs : Rg} {k : Int} {p : Sp3} {a : Addr} (h : rgIx rs k = none) : rgAdd rs k p a = rs ++ [(k, a, [p])] := by
  induction rs with
  | nil => rfl
  | cons c rs ih =>
    unfold rgIx at h
    split at h
    · cases h
    · rename_i hc
      rw [Option.map_eq_none_iff] at h
      unfold rgAdd
      rw [if_neg hc, ih h]
      rfl
theorem rgAdd_some {rs : Rg} {k : Int} {p : Sp3} {a b : Addr} {l : List Sp3} {i : Nat} (h : rgIx rs k = some i) (hi : rs[i]? = some (k, b, l)) : rgAdd rs k p a = rs.set i (k, b, l ++ [p]) := by
  induction rs generalizing i with
  | nil => cases h
  | cons c rs ih =>
    unfold rgIx at h
    unfold rgAdd
    split at h
    · rename_i hc
      cases h
      simp only [List.getElem?_cons_zero, Option.some.injEq] at hi
      subst hi
      rw [if_pos rfl]
      rfl
    · rename_i hc
      rw [if_neg hc]
      cases hj : rgIx rs k with
      | none => rw [hj] at h; cases h
      | some j =>
        rw [hj] at h
        cases h
        rw [ih hj (by simpa using hi)]
        rfl
theorem rgAdd_keys {rs : Rg} {k : Int} {p : Sp3} {a : Addr} {r : Int × Addr × List Sp3} (h : r ∈ rgAdd rs k p a) : r.1 = k ∨ ∃ r' ∈ rs, r'.1 = r.1 := by
  induction rs with
  | nil => simp [rgAdd] at h; exact .inl (by rw [h])
  | cons c rs ih =>
    unfold rgAdd at h
    split at h
    · rename_i hc
      rcases List.mem_cons.mp h with rfl | h
      · exact .inl hc
      · exact .inr ⟨r, List.mem_cons_of_mem _ h, rfl⟩
    · rcases List.mem_cons.mp h with rfl | h
      · exact .inr ⟨r, List.mem_cons_self, rfl⟩
      · exact (ih h).elim .inl fun ⟨r', h1, h2⟩ => .inr ⟨r', List.mem_cons_of_mem _ h1, h2⟩
theorem rgE_add {rs : Rg} {k : Int} {p : Sp3} {a : Addr} {k' : Int} {x : Sp3} : rgE (rgAdd rs k p a) k' x ↔ rgE rs k' x ∨ (k' = k ∧ x = p) := by
  induction rs with
  | nil =>
    constructor
    · rintro ⟨a', l, h, hx⟩
      cases List.mem_singleton.mp h
      exact .inr ⟨rfl, List.mem_singleton.mp hx⟩
    · rintro (⟨_, _, h, _⟩ | ⟨rfl, rfl⟩)
      · exact absurd h (by simp)
      · exact ⟨a, [x], List.mem_singleton.mpr rfl, List.mem_singleton.mpr rfl⟩
  | cons c rs ih =>
    have cons : ∀ (c : Int × Addr × List Sp3) (rs : Rg), rgE (c :: rs) k' x ↔ (c.1 = k' ∧ x ∈ c.2.2) ∨ rgE rs k' x := fun c rs => by
      constructor
      · rintro ⟨a, l, h, hx⟩
        rcases List.mem_cons.mp h with h | h
        · rw [← h]; exact .inl ⟨rfl, hx⟩
        · exact .inr ⟨a, l, h, hx⟩
      · rintro (⟨rfl, h2⟩ | ⟨a, l, h, hx⟩)
        · exact ⟨c.2.1, c.2.2, List.mem_cons_self, h2⟩
        · exact ⟨a, l, List.mem_cons_of_mem _ h, hx⟩
    unfold rgAdd
    split
    · rename_i hc
      rw [cons, cons]
      simp only [List.mem_append, List.mem_singleton]
      constructor
      · rintro (⟨h1, h2 | h2⟩ | h)
        · exact .inl (.inl ⟨h1, h2⟩)
        · exact .inr ⟨h1 ▸ hc, h2⟩
        · exact .inl (.inr h)
      · rintro ((⟨h1, h2⟩ | h) | ⟨h1, h2⟩)
        · exact .inl ⟨h1, .inl h2⟩
        · exact .inr h
        · exact .inl ⟨hc.trans h1.symm, .inr h2⟩
    · rw [cons, cons, ih, or_assoc]
/-- the keys are of their own -/
def rgN (rs : Rg) : Prop := (rs.map Prod.fst).Nodup
theorem rgN_add {rs : Rg} (h : rgN rs) (k : Int) (p : Sp3) (a : Addr) : rgN (rgAdd rs k p a) := by
  unfold rgN at *
  induction rs with
  | nil => simp [rgAdd]
  | cons c rs ih =>
    rw [List.map_cons, List.nodup_cons] at h
    unfold rgAdd
    split
    · simp only [List.map_cons]
      exact List.nodup_cons.mpr h
    · rename_i hc
      rw [List.map_cons, List.nodup_cons]
      refine ⟨fun z => ?_, ih h.2⟩
      obtain ⟨r, hr, e⟩ := List.mem_map.mp z
      rcases rgAdd_keys hr with h1 | ⟨r', h1, h2⟩
      · exact hc (e ▸ h1)
      · exact h.1 (List.mem_map.mpr ⟨r', h1, h2.trans e⟩)
/-- the ring of k taken out -/
theorem rg_out {rs : Rg} (hn : rgN rs) {k : Int} {i : Nat} {a : Addr} {l : List Sp3} (hi : rs[i]? = some (k, a, l)) : rgN (rs.eraseIdx i) ∧ (∀ r ∈ rs.eraseIdx i, r.1 ≠ k ∧ r ∈ rs) ∧ ∀ k' x, rgE rs k' x ↔ rgE (rs.eraseIdx i) k' x ∨ (k' = k ∧ x ∈ l) := by
  induction rs generalizing i with
  | nil => simp at hi
  | cons c rs ih =>
    unfold rgN at hn
    rw [List.map_cons, List.nodup_cons] at hn
    cases i with
    | zero =>
      simp only [List.getElem?_cons_zero, Option.some.injEq] at hi
      subst hi
      refine ⟨hn.2, fun r hr => ⟨fun e => hn.1 (List.mem_map.mpr ⟨r, hr, e⟩), List.mem_cons_of_mem _ hr⟩, fun k' x => ?_⟩
      rw [List.eraseIdx_cons_zero]
      constructor
      · rintro ⟨a', l', h, hx⟩
        rcases List.mem_cons.mp h with h | h
        · cases h; exact .inr ⟨rfl, hx⟩
        · exact .inl ⟨a', l', h, hx⟩
      · rintro (⟨a', l', h, hx⟩ | ⟨rfl, hx⟩)
        · exact ⟨a', l', List.mem_cons_of_mem _ h, hx⟩
        · exact ⟨a, l, List.mem_cons_self, hx⟩
    | succ i =>
      obtain ⟨i1, i2, i3⟩ := ih hn.2 (by simpa using hi)
      have hm : (k, a, l) ∈ rs := List.mem_of_getElem? (by simpa using hi)
      have hck : c.1 ≠ k := fun e => hn.1 (List.mem_map.mpr ⟨_, hm, e.symm⟩)
      rw [List.eraseIdx_cons_succ]
      refine ⟨?_, fun r hr => ?_, fun k' x => ?_⟩
      · unfold rgN
        rw [List.map_cons, List.nodup_cons]
        exact ⟨fun z => (List.mem_map.mp z).elim fun r hr => hn.1 (List.mem_map.mpr ⟨r, (i2 r hr.1).2, hr.2⟩), i1⟩
      · rcases List.mem_cons.mp hr with rfl | hr
        · exact ⟨hck, List.mem_cons_self⟩
        · exact ⟨(i2 r hr).1, List.mem_cons_of_mem _ (i2 r hr).2⟩
      · constructor
        · rintro ⟨a', l', h, hx⟩
          rcases List.mem_cons.mp h with h | h
          · exact .inl ⟨a', l', by rw [h]; exact List.mem_cons_self, hx⟩
          · exact ((i3 k' x).mp ⟨a', l', h, hx⟩).elim (fun ⟨a2, l2, z, z2⟩ => .inl ⟨a2, l2, List.mem_cons_of_mem _ z, z2⟩) .inr
        · rintro (⟨a', l', h, hx⟩ | h)
          · rcases List.mem_cons.mp h with h | h
            · exact ⟨a', l', by rw [h]; exact List.mem_cons_self, hx⟩
            · exact ((i3 k' x).mpr (.inl ⟨a', l', h, hx⟩)).elim fun a2 ⟨l2, z, z2⟩ => ⟨a2, l2, List.mem_cons_of_mem _ z, z2⟩
          · exact ((i3 k' x).mpr (.inr h)).elim fun a2 ⟨l2, z, z2⟩ => ⟨a2, l2, List.mem_cons_of_mem _ z, z2⟩
theorem map_erase {α β : Type} (f : α → β) : ∀ (l : List α) (i : Nat), (l.map f).eraseIdx i = (l.eraseIdx i).map f
  | [], _ => by simp
  | _ :: _, 0 => by simp
  | a :: l, i + 1 => by simp [map_erase f l i]
theorem rgK_e (rs : Rg) (i : Nat) : (rgK rs).eraseIdx i = rgK (rs.eraseIdx i) := map_erase _ _ _
theorem rgT_e (rs : Rg) (i : Nat) : (rgT rs).eraseIdx i = rgT (rs.eraseIdx i) := map_erase _ _ _
/-! ### dicts from spots to numbers -/
abbrev Sv := List (Sp3 × Int)
def spV (p : Sp3 × Int) : List Key × PyData := (ky3 p.1, .int p.2)
def dcV (gs : Sv) : PyData := .dict (gs.map fun p => (spD p.1, .int p.2))
def vls (gs : Sv) : List (Sp3 × PyData) := gs.map fun p => (p.1, .int p.2)
def kyV (gs : Sv) : List Sp3 := gs.map Prod.fst
theorem spV_e (gs : Sv) : gs.map spV = (vls gs).map (entK ky3) := by
  unfold vls
  rw [List.map_map]
  rfl
theorem dcV_d (gs : Sv) : dcV gs = .dict ((vls gs).map (datK spD)) := by
  unfold dcV vls
  rw [List.map_map]
  rfl
theorem vls_keys (gs : Sv) : (vls gs).map (·.1) = kyV gs := by
  unfold vls kyV
  rw [List.map_map]
  rfl
theorem dcV_eq (gs : Sv) : PyData.dict (kvT (gs.map spV)) = dcV gs := by
  rw [spV_e, ek3.kvT, dcV_d]
def valsSp (d : PyData) : List (PyData × PyData) := match d with
  | .dict l => l
  | _ => []
theorem dcV_inj {a b : Sv} : (dcV a = dcV b) = (a = b) := by
  refine propext ⟨fun e => ?_, fun e => by rw [e]⟩
  have h := congrArg valsSp e
  simp only [dcV, valsSp] at h
  have inj : ∀ p q : Sp3 × Int, (fun p : Sp3 × Int => (spD p.1, PyData.int p.2)) p = (fun p : Sp3 × Int => (spD p.1, PyData.int p.2)) q → p = q := fun p q h => by
    simp only [Prod.mk.injEq, PyData.int.injEq, spD_inj] at h
    exact Prod.ext h.1 h.2
  exact List.map_inj_right (fun p q h => inj p q h) |>.mp h
/-- .. put -/
def insV (gs : Sv) (c : Sp3) (v : Int) : Sv := if c ∈ kyV gs then gs.map (fun p => if p.1 = c then (p.1, v) else p) else gs ++ [(c, v)]
theorem insV_new {gs : Sv} {c : Sp3} (v : Int) (h : c ∉ kyV gs) : insV gs c v = gs ++ [(c, v)] := by unfold insV; rw [if_neg h]
theorem any_ky {gs : Sv} {c : Sp3} : ((vls gs).any fun kv => decide (kv.1 = c)) = decide (c ∈ kyV gs) := by
  unfold vls kyV
  rw [List.any_map, Bool.eq_iff_iff, List.any_eq_true, decide_eq_true_eq, List.mem_map]
  constructor
  · rintro ⟨p, hp, h⟩
    exact ⟨p, hp, of_decide_eq_true h⟩
  · rintro ⟨p, hp, h⟩
    exact ⟨p, hp, decide_eq_true h⟩
theorem put_vls (gs : Sv) (c : Sp3) (v : Int) : putD (vls gs) c (.int v) = vls (insV gs c v) := by
  unfold putD insV
  rw [any_ky]
  by_cases h : c ∈ kyV gs
  · rw [if_pos (decide_eq_true h), if_pos h]
    unfold vls
    rw [List.map_map, List.map_map]
    refine List.map_congr_left fun p _ => ?_
    simp only [Function.comp]
    split <;> rfl
  · rw [if_neg (by simpa using h), if_neg h]
    unfold vls
    rw [List.map_append]
    rfl
theorem putV {gs : Sv} {c : Sp3} {v : Int} : putD (gs.map spV) (ky3 c) (.int v) = (insV gs c v).map spV := by
  rw [spV_e, spV_e, ← put_vls]
  exact ek3.put (vls gs) c (.int v)
theorem get_ky {gs : Sv} {c : Sp3} {v : PyData} (h : DL.getD (vls gs) c = some v) : ∃ i : Int, v = .int i ∧ (c, i) ∈ gs := by
  unfold DL.getD at h
  obtain ⟨p, hp, e⟩ := Option.map_eq_some_iff.mp h
  have h1 := List.find?_some hp
  have h2 := List.mem_of_find?_eq_some hp
  obtain ⟨g, hg, e2⟩ := List.mem_map.mp h2
  subst e2
  simp only [decide_eq_true_eq] at h1
  exact ⟨g.2, e.symm, by rw [← h1]; exact hg⟩
theorem get_some {gs : Sv} {c : Sp3} (h : c ∈ kyV gs) : ∃ i : Int, DL.getD (gs.map spV) (ky3 c) = some (.int i) ∧ (c, i) ∈ gs := by
  rw [spV_e, ek3.get]
  cases e : DL.getD (vls gs) c with
  | some v =>
    obtain ⟨i, rfl, hi⟩ := get_ky e
    exact ⟨i, rfl, hi⟩
  | none =>
    unfold DL.getD at e
    rw [Option.map_eq_none_iff] at e
    have e := List.find?_eq_none.mp e
    obtain ⟨g, hg, rfl⟩ := List.mem_map.mp h
    exact absurd (decide_eq_true rfl) (e (g.1, .int g.2) (List.mem_map.mpr ⟨g, hg, rfl⟩))
/-- the keys are of their own -/
theorem val_one {gs : Sv} (hn : (kyV gs).Nodup) {c : Sp3} {a b : Int} (ha : (c, a) ∈ gs) (hb : (c, b) ∈ gs) : a = b := by
  unfold kyV at hn
  induction gs with
  | nil => simp at ha
  | cons g gs ih =>
    rw [List.map_cons, List.nodup_cons] at hn
    have kin : ∀ {v : Int}, (c, v) ∈ gs → c ∈ gs.map Prod.fst := fun {v} h => List.mem_map.mpr ⟨(c, v), h, rfl⟩
    rcases List.mem_cons.mp ha with h | h
    · rcases List.mem_cons.mp hb with h2 | h2
      · rw [← h] at h2
        cases h2
        rfl
      · rw [← h] at hn
        exact absurd (kin h2) hn.1
    · rcases List.mem_cons.mp hb with h2 | h2
      · rw [← h2] at hn
        exact absurd (kin h) hn.1
      · exact ih hn.2 h h2
theorem getV {gs : Sv} (hn : (kyV gs).Nodup) {c : Sp3} {v : Int} (h : (c, v) ∈ gs) : DL.getD (gs.map spV) (ky3 c) = some (.int v) := by
  obtain ⟨i, h1, h2⟩ := get_some (List.mem_map.mpr ⟨_, h, rfl⟩)
  rw [h1, val_one hn h h2]
section
variable {gs : Sv} {s : Sp3} {μ : Mu} {q : PQ} {neg : Bool}
theorem hasV : hasKs (kvT (gs.map spV)) (spD s) = decide (s ∈ kyV gs) := by
  rw [spV_e, ek3.kvT]
  have h := ek3.has (vls gs) s
  rw [vls_keys] at h
  exact h.trans (decide_eq_decide.mpr Iff.rfl)
theorem memC_V {n : Nat} : memC neg (spD s) n μ q (some (.dct (gs.map spV))) = q (.dat (.bool (if neg then !decide (s ∈ kyV gs) else decide (s ∈ kyV gs)))) μ := by
  have e : spD s = .tuple [.int s.1, .int s.2.1, .int s.2.2] := rfl
  have h := hasV (gs := gs) (s := s)
  rw [e] at h ⊢
  rw [memC_d, h]
  simp [keysP_i, keysP_nil]
theorem len_dcV : oLenD [.dat (dcV gs)] μ q = q (.dat (.int gs.length)) μ := by
  unfold dcV
  rw [lnD_d, List.length_map]
theorem srtC_V : srtC q μ (some (.dct (gs.map spV))) = q (.new (((kyV gs).mergeSort (leO ltS)).map spD)) μ := by
  rw [srtC_d]
  have e : ((gs.map spV).map fun p => PyData.tuple (p.1.map keyD)) = (kyV gs).map spD := by unfold kyV; rw [List.map_map, List.map_map]; rfl
  rw [e, ord_sp.sort]
  exact propext ⟨fun h => h.2, fun h => ⟨ord_sp.alikeD srt_sp _, h⟩⟩
theorem iD_V {r : RI} : seqDK r (.dat (dcV gs)) μ = r (((kyV gs).map spD).map .dat) (fun _ => True) μ := by
  unfold dcV
  rw [seqDK_d]
  unfold kyV
  simp only [List.map_map]
  rfl
theorem dgetV_loc {n : Nat} : oDGet (.loc n) (.dat (spD s)) μ q = lcD μ[n]? fun kvs => ∃ v, DL.getD kvs (ky3 s) = some v ∧ q (.dat v) μ := dget_loc
theorem dgetV_dat (hn : (kyV gs).Nodup) {v : Int} (h : (s, v) ∈ gs) (hq : q (.dat (.int v)) μ) : oDGet (.dat (dcV gs)) (.dat (spD s)) μ q := by
  have e : spD s = .tuple [.int s.1, .int s.2.1, .int s.2.2] := rfl
  rw [← dcV_eq, e, dget_dat]
  exact ⟨_, rfl, show ∃ v, DL.getD (gs.map spV) (ky3 s) = some v ∧ q (.dat v) μ from ⟨_, getV hn h, hq⟩⟩
end
local macro_rules | `(tactic| walk_at "dx19") => `(tactic| simp (disch := first | assumption | omega) only [List.length_cons, List.length_nil, Nat.zero_add, Nat.reduceAdd, ↓exitQ_dat, startD, List.map_cons, List.map_nil, Nat.reduceSub, List.replicate, List.cons_append, List.nil_append, ↓x_iSeqD, ↓dVar_1, ↓old_dat, ↓seqDK_l, ↓x_gNm, ↓nN_dat, ↓fg_cons, ↓fg_nil, List.set_cons_succ, List.set_cons_zero, true_and, ↓x_tNotD, ↓x_tVal, ↓x_dCall, ↓x_aCons, ↓x_dStl, ↓dVar_0, ↓stl_dat, ↓dVar_2, ↓x_aNil, ↓aO_cons, ↓aO_nil, Bool.and_true, List.append_nil, cl_dat, ↓cl_none, ↓cl_nil, ↓e_is_free, nle_h, and_true, ↓wB_b, ↓tk_0, ↓x_dCallW, List.getElem?_cons_succ, List.getElem?_cons_zero, ↓callWK_d, ↓x_dOp, ↓x_dC, ↓ix_sp, ↓ix_tupD, at_nn, Int.reduceToNat, Option.some.injEq, ↓ne_dd, exists_eq_left', ↓noD_i, dep_int, eqv_int, ↓dVar_4, ↓dVar_3, augK_s, ↓iadd_ii])
def sp_need_free (T : Top K mg) : SpD := fun es μ q x => ∃ (w : Nat) (h : Nat) (s0 : List Nat) (s1 : List Nat) (cs : List Sp3), es = [.dat (vwD w h s0 s1), .dat (.list (cs.map spD))] ∧ (((∀ c ∈ cs, on2 c) ∧ s0.length ≤ 1000 ∧ s1.length ≤ 1000) ∧ (if cs.all (frB s0 s1) = true then q (.dat .none) μ else x ⟨T.c_NoSpot, none⟩ μ))
theorem e_need_free (T : Top K mg) {w : Nat} {h : Nat} {s0 : List Nat} {s1 : List Nat} {cs : List Sp3} {μ : Mu} {q : PQ} {x : XQ} : sp_need_free T [.dat (vwD w h s0 s1), .dat (.list (cs.map spD))] μ q x = (((∀ c ∈ cs, on2 c) ∧ s0.length ≤ 1000 ∧ s1.length ≤ 1000) ∧ (if cs.all (frB s0 s1) = true then q (.dat .none) μ else x ⟨T.c_NoSpot, none⟩ μ)) := by
  refine propext ⟨fun hyp0 => ?_, fun hyp0 => ⟨w, h, s0, s1, cs, rfl, hyp0⟩⟩
  obtain ⟨w', h', s0', s1', cs', eq0, hyp0⟩ := hyp0
  simp only [List.cons.injEq, Exn.mk.injEq, EV.at.injEq, eq_self, EV.dat.injEq, EV.loc.injEq, EV.new.injEq, EV.ro.injEq, EV.exc.injEq, EV.per.injEq, PyData.int.injEq, PyData.str.injEq, PyData.bool.injEq, PyData.list.injEq, PyData.tuple.injEq, and_true, true_and, and_assoc, map_int_inj, vwD_inj, sps_inj] at eq0
  obtain ⟨rfl, rfl, rfl, rfl, rfl⟩ := eq0
  exact hyp0
theorem ok_need_free (T : Top K mg) : DefAt P w K mg base "need_free" 3 ["view", "spots"] [] [] (sp_need_free T) := by
  refine def_ok (sp_need_free T) T.F_need_free sc_need_free T.m_need_free T.b_need_free (fun cdv A outer s H E hr tk pw => (dss_one (ds_forF [1, 2] pw rfl (di_seqD (dv 1)) (dg_name (i := 2) sc_need_free.nd rfl (by first | exact Or.inl rfl | exact Or.inr rfl)) (dss_one (ds_if (dt_not (dt_val (de_call (ok_is_free T) hr (by decide) (by rfl) tk (fun _ _ => .nil) (da_cons (de_stl (dv 0)) (da_cons (de_stl (dv 2)) da_nil))))) (dss_one (ds_raise rfl tk PySem.F.excBase_ValueError T.xx_NoSpot T.gx_NoSpot T.xk_NoSpot (raises_own T.xb_NoSpot T.xt_NoSpot) (by rfl))) dss_nil))))) ?_
  rintro es μ q x - ⟨w, h, s0, s1, cs, rfl, ⟨hc, h0, h1⟩, k⟩
  ((try walk_at "dx19"); repeat (walk_at "one" <;> (try walk_at "dx19")))
  refine for_stD (fun i (_ : Unit) => (cs.take i).all (frB s0 s1) = true) (fun η _ => η) (fun μ _ => μ) () rfl rfl rfl (fun _ => trivial) ?_ ?_
  · rintro i c ⟨⟩ J hi hall hJ
    have hc' := hc c (List.mem_of_getElem? hi)
    ((try walk_at "dx19"); repeat (walk_at "one" <;> (try walk_at "dx19")))
    refine ⟨hc', ?_⟩
    cases hf : frB s0 s1 c with
    | false =>
      rw [all_no hi hf] at k
      rw [if_pos (by rfl)]
      ((try walk_at "dx19"); repeat (walk_at "one" <;> (try walk_at "dx19")))
      exact k
    | true =>
      rw [if_neg (by simp)]
      (have j := hJ () (all_suc hi hf hall); simp only [List.range_succ, List.map_append, List.map_cons, List.map_nil, fg_cons, fg_nil, List.set_cons_succ, List.set_cons_zero] at j; exact j)
  · rintro ⟨⟩ hall
    rw [List.take_length] at hall
    rw [hall, if_pos rfl] at k
    ((try walk_at "dx19"); repeat (walk_at "one" <;> (try walk_at "dx19")))
    exact k
local macro_rules | `(tactic| walk_at "dx20") => `(tactic| simp (disch := first | assumption | omega) only [List.length_cons, List.length_nil, Nat.zero_add, Nat.reduceAdd, ↓exitQ_dat, startD, List.map_cons, List.map_nil, Nat.reduceSub, List.replicate, List.cons_append, List.nil_append, ↓x_iSeqD, ↓dVar_1, ↓old_dat, ↓seqDK_l, ↓x_gNm, ↓nN_dat, ↓fg_cons, ↓fg_nil, List.set_cons_succ, List.set_cons_zero, true_and, ↓x_tNotD, ↓x_tVal, ↓x_dCall, ↓x_aCons, ↓x_dStl, ↓dVar_0, ↓stl_dat, ↓dVar_2, ↓x_aNil, ↓aO_cons, ↓aO_nil, Bool.and_true, List.append_nil, cl_dat, ↓cl_none, ↓cl_nil, ↓e_is_free, nle_h, and_true, ↓wB_b, ↓tk_0, ↓x_dCallW, List.getElem?_cons_succ, List.getElem?_cons_zero, ↓callWK_d, ↓x_dOp, ↓x_dC, ↓ix_sp, ↓ix_tupD, at_nn, Int.reduceToNat, Option.some.injEq, ↓ne_dd, exists_eq_left', ↓noD_i, dep_int, eqv_int, ↓dVar_4, ↓dVar_3, augK_s, ↓iadd_ii])
/-! ### the price of a step -/
def stpW (f : Sp3 → Int) (hole : Int) (q p : Sp3) : Int := if q.1 = p.1 then f q else f q + hole
def sp_step_price (P : Program) (w : World) (base : Heap) (T : Top K mg) : SpD := fun es μ q x => ∃ (c : Per) (s : Sp3) (t : Sp3) (hole : Int), es = [.dat (spD s), .dat (spD t), .per c, .dat (.int hole)] ∧ (∃ (p : Sp3 → Bool) (f : Sp3 → Int) (k : Nat), c = wP P w mg base nT k (wgh p f) ∧ k ≤ 13 ∧ p s = true ∧ q (.dat (.int (stpW f hole s t))) μ)
theorem e_step_price (P : Program) (w : World) (base : Heap) (T : Top K mg) {c : Per} {s : Sp3} {t : Sp3} {hole : Int} {μ : Mu} {q : PQ} {x : XQ} : sp_step_price P w base T [.dat (spD s), .dat (spD t), .per c, .dat (.int hole)] μ q x = (∃ (p : Sp3 → Bool) (f : Sp3 → Int) (k : Nat), c = wP P w mg base nT k (wgh p f) ∧ k ≤ 13 ∧ p s = true ∧ q (.dat (.int (stpW f hole s t))) μ) := by
  refine propext ⟨fun hyp0 => ?_, fun hyp0 => ⟨c, s, t, hole, rfl, hyp0⟩⟩
  obtain ⟨c', s', t', hole', eq0, hyp0⟩ := hyp0
  simp only [List.cons.injEq, Exn.mk.injEq, EV.at.injEq, eq_self, EV.dat.injEq, EV.loc.injEq, EV.new.injEq, EV.ro.injEq, EV.exc.injEq, EV.per.injEq, PyData.int.injEq, PyData.str.injEq, PyData.bool.injEq, PyData.list.injEq, PyData.tuple.injEq, and_true, true_and, and_assoc, map_int_inj, spD_inj] at eq0
  obtain ⟨rfl, rfl, rfl, rfl⟩ := eq0
  exact hyp0
theorem ok_step_price (T : Top K mg) : DefAt P w K mg base "step_price" 14 ["spot", "ahead", "weigh", "hole"] [] [] (sp_step_price P w base T) := by
  refine def_ok (sp_step_price P w base T) T.F_step_price sc_step_price T.m_step_price T.b_step_price (fun cdv A outer s H E hr tk pw => (dss_cons (ds_set (i := 4) sc_step_price.nd rfl (by first | exact Or.inl rfl | exact Or.inr rfl) (de_stl (de_callW (P := P) (w := w) (mg := mg) (base := base) (i := 2) ⟨rfl, rfl, rfl, rfl⟩ hr (da_cons (de_stl (dv 0)) da_nil))))
    (dss_cons (ds_if (dt_cmp (opA_ne hr.units) os_ne (de_ix ix_seq os_ix (dv 0) de_int (fun _ _ => rfl)) (de_ix ix_seq os_ix (dv 1) de_int (fun _ _ => rfl)) (nomark _)) (dss_one (ds_aug (i := 4) sc_step_price.nd rfl (by first | exact Or.inl rfl | exact Or.inr rfl) (dv 3) ip_addA os_iadd)) dss_nil)
    (dss_one (ds_ret (dv 4)))))) ?_
  rintro es μ q x - ⟨c, s, t, hole, rfl, p, f, k, rfl, hk, hp, h⟩
  ((try walk_at "dx20"); repeat (walk_at "one" <;> (try walk_at "dx20")))
  refine fnK_w hk ⟨_, wgh_sp hp, ?_⟩
  ((try walk_at "dx20"); repeat (walk_at "one" <;> (try walk_at "dx20")))
  unfold stpW at h
  by_cases he : s.1 = t.1
  · rw [if_pos he] at h
    rw [if_neg (by simpa using he)]
    ((try walk_at "dx20"); repeat (walk_at "one" <;> (try walk_at "dx20")))
    exact h
  · rw [if_neg he] at h
    rw [if_pos (by simpa using he)]
    ((try walk_at "dx20"); repeat (walk_at "one" <;> (try walk_at "dx20")))
    exact h
local macro_rules | `(tactic| walk_at "dx21") => `(tactic| simp (disch := first | assumption | omega) only [List.length_cons, List.length_nil, Nat.zero_add, Nat.reduceAdd, ↓exitQ_dat, startD, List.map_cons, List.map_nil, Nat.reduceSub, List.replicate, List.cons_append, List.nil_append, ↓x_iSeqD, ↓dVar_1, ↓old_dat, ↓seqDK_l, ↓x_gNm, ↓nN_dat, ↓fg_cons, ↓fg_nil, List.set_cons_succ, List.set_cons_zero, true_and, ↓x_tNotD, ↓x_tVal, ↓x_dCall, ↓x_aCons, ↓x_dStl, ↓dVar_0, ↓stl_dat, ↓dVar_2, ↓x_aNil, ↓aO_cons, ↓aO_nil, Bool.and_true, List.append_nil, cl_dat, ↓cl_none, ↓cl_nil, ↓e_is_free, nle_h, and_true, ↓wB_b, ↓tk_0, ↓x_dCallW, List.getElem?_cons_succ, List.getElem?_cons_zero, ↓callWK_d, ↓x_dOp, ↓x_dC, ↓ix_sp, ↓ix_tupD, at_nn, Int.reduceToNat, Option.some.injEq, ↓ne_dd, exists_eq_left', ↓noD_i, dep_int, eqv_int, ↓dVar_4, ↓dVar_3, augK_s, ↓iadd_ii])
local macro_rules | `(tactic| walk_at "dx22") => `(tactic| simp (disch := first | assumption | omega) only [List.length_cons, List.length_nil, Nat.zero_add, Nat.reduceAdd, ↓exitQ_dat, startD, List.map_cons, List.map_nil, Nat.reduceSub, List.replicate, List.cons_append, List.nil_append, ↓x_dCall, ↓x_aCons, ↓x_dStl, ↓dVar_3, ↓old_dat, ↓stl_dat, ↓x_dC, ↓x_aNil, ↓aO_cons, ↓nN_dat, ↓aO_nil, Bool.and_true, List.append_nil, ↓e_need_weight, ↓tk_0, true_and, ↓dVar_0, ↓dVar_1, ↓e_need_free, nle_h, and_true, ↓x_dCell, ↓x_dNewD, ↓cell_nd, ↓nN_loc, List.set_cons_succ, List.set_cons_zero, ↓x_dOwn, ↓x_dDisp1, ↓x_dCB, ↓lsA_l, ↓disp1K_i, ↓treeK_new, ↓ownK_newo, List.length_append, List.append_assoc, ↓x_tVal, ↓x_dOp, ↓fg_cons, ↓fg_nil, ↓x_dNewKk, dVar_5, ↓old_at, ↓neE_at, ↓c_nodK, ↓get_a1, ↓wB_b, nodC_own, ↓get_nil, treC_n, ↓dckK_k, ↓dVar_4, ↓old_loc, exitQ_ge, ↓get_a0, exC_d, ↓tk_a0, ↓x_iSeqD, ↓x_dPop2, ↓dVar_5, ↓isDctA_at, ↓dctKd_k, ↓dVar_6, ↓x_dLst, ↓wDs_nil, ↓pop2_at, ↓seqDK_l, ↓set_a1, ↓x_gNm, ↓dVar_7, ↓c_memA, ↓memC_V, Bool.false_eq_true, if_false, decide_eq_true_eq, cl_dat, ↓cl_none, ↓cl_per, cl_loc, ↓cl_at, ↓cl_nil, ↓tk_a2, ↓x_dFrz, ↓wD_dat, ↓x_gSb, ↓setD_sp, ↓set_a0, lcD_d, List.length_map, nlt_h, ↓putV, ↓e_free_steps, ↓stl_new, ↓dVar_8, if_true, ↓x_dBM, ↓dVar_2, ↓old_per, ↓stl_per, ↓nN_per, ↓e_step_price, ↓add_int, ↓setd_at, tk_a2, List.getElem?_cons_succ, List.getElem?_cons_zero, augK_s, ↓iadd_ii])
/-! ### waves -/
/-- the rings' keys -/
structure RgOk (rs : Rg) (lo hi : Int) : Prop where
  n : rgN rs
  k : ∀ r ∈ rs, lo ≤ r.1 ∧ r.1 ≤ hi
  b : hi ≤ lo + 18
  z : 0 ≤ lo
theorem int_nodup : ∀ (n : Nat) (l : List Int) (a : Int), l.Nodup → (∀ x ∈ l, a ≤ x ∧ x < a + n) → l.length ≤ n
  | 0, l, a, _, h => by
    cases l with
    | nil => simp
    | cons x l => have := h x List.mem_cons_self; omega
  | n + 1, l, a, hn, h => by
    by_cases ha : a ∈ l
    · have e := List.length_erase_of_mem ha
      have := int_nodup n (l.erase a) (a + 1) (hn.erase a) fun x hx => by
        have h1 := h x (List.mem_of_mem_erase hx)
        have : x ≠ a := fun z => by subst z; exact hn.not_mem_erase hx
        omega
      omega
    · have := int_nodup n l (a + 1) hn fun x hx => by
        have h1 := h x hx
        have : x ≠ a := fun z => ha (z ▸ hx)
        omega
      omega
theorem RgOk.len {rs : Rg} {lo hi : Int} (R : RgOk rs lo hi) : rs.length ≤ 19 := by
  have := int_nodup 19 (rs.map Prod.fst) lo R.n fun x hx => by
    obtain ⟨r, hr, rfl⟩ := List.mem_map.mp hx
    have := R.k r hr
    have := R.b
    omega
  simpa using this
theorem rgOk0 {a : Addr} {ss : List Sp3} : RgOk [(0, a, ss)] 0 18 := ⟨by simp [rgN], fun r hr => by simp at hr; subst hr; exact ⟨Int.le_refl _, by show (0 : Int) ≤ 18; decide⟩, by omega, by omega⟩
theorem wv0 {P : Sp3 → Prop} {ts : List Sp3} {stp : Sp3 → Sp3 → Int} {a : Addr} (h : ∀ t ∈ ts, P t) : Wav P ts stp [] (rgE [(0, a, ts)]) :=
  (wav_0 h).drop (fun k p ⟨e, hp⟩ => .inl ⟨a, ts, by rw [e]; simp, hp⟩) fun k p ⟨a', l, h1, h2⟩ => by simp at h1; obtain ⟨rfl, rfl, rfl⟩ := h1; exact ⟨rfl, h2⟩
theorem set_same {α : Type} {l : List α} {n : Nat} {c : α} (h : l[n]? = some c) : l.set n c = l := by
  apply List.ext_getElem?
  intro i
  rw [List.getElem?_set]
  split
  · rename_i e
    subst e
    rw [h, if_pos (List.getElem?_eq_some_iff.mp h).1]
  · rfl
theorem pop_rg {rs : Rg} (hn : rgN rs) {q : PQ} {μ : Mu} {n : Nat} {b : Addr} {k : Int} (hμ : μ[n]? = some (.own (.nod (.dck (rgK rs)) b (rgT rs)))) (h : ∀ (xs : List Sp3) (rs' : Rg), rgN rs' → (∀ r ∈ rs', r.1 ≠ k ∧ r ∈ rs) → (∀ k' x, rgE rs k' x ↔ rgE rs' k' x ∨ (k' = k ∧ x ∈ xs)) → q (.dat (.list (xs.map spD))) (μ.set n (.own (.nod (.dck (rgK rs')) b (rgT rs'))))) : popK2 (stlK q) (.new []) μ n b (rgK rs) (rgT rs) (findIx (rgK rs) (.inl k)) := by
  rw [findIx_rg]
  cases e : rgIx rs k with
  | none =>
    have g := h [] rs hn (fun r hr => ⟨rgIx_none e r hr, hr⟩) fun k' x => by simp
    rw [set_same hμ] at g
    exact g
  | some i =>
    obtain ⟨a, l, hi⟩ := rgIx_some e
    obtain ⟨h1, h2, h3⟩ := rg_out hn hi
    refine ⟨l.map spD, a, ?_, ?_⟩
    · unfold rgT
      rw [List.getElem?_map, hi]
      rfl
    · rw [rgK_e, rgT_e]
      exact h l _ h1 h2 h3
theorem drop_at {α : Type} {l : List α} {i : Nat} {c : α} (h : l[i]? = some c) : l.drop i = c :: l.drop (i + 1) := by
  obtain ⟨h1, h2⟩ := List.getElem?_eq_some_iff.mp h
  rw [List.drop_eq_getElem_cons h1, h2]
theorem x_sCont {d : DEnds} {E : XQ} {η : DEnv} {μ : Mu} : sCont d E η μ = d.ct η μ := Eq.trans rfl rfl
def rgL (rs : Rg) (m : Nat) : Prop := ∀ r ∈ rs, r.2.2.length ≤ m
theorem rgL_add {rs : Rg} {m : Nat} (h : rgL rs m) (k : Int) (p : Sp3) (a : Addr) : rgL (rgAdd rs k p a) (m + 1) := by
  induction rs with
  | nil => intro r hr; simp [rgAdd] at hr; subst hr; simp
  | cons c rs ih =>
    have h1 := h c List.mem_cons_self
    have h2 : rgL rs m := fun r hr => h r (List.mem_cons_of_mem _ hr)
    unfold rgAdd
    split
    · intro r hr
      rcases List.mem_cons.mp hr with rfl | hr
      · simp; exact h1
      · have := h2 r hr; omega
    · intro r hr
      rcases List.mem_cons.mp hr with rfl | hr
      · omega
      · exact ih h2 r hr
def wE (rs : Rg) (here : Int) (xs : List Sp3) (k : Int) (p : Sp3) : Prop := rgE rs k p ∨ (k = here ∧ p ∈ xs)
def wE2 (rs : Rg) (here : Int) (xs : List Sp3) (stp : Sp3 → Int) (ys : List Sp3) (k : Int) (p : Sp3) : Prop := rgE rs k p ∨ (k = here ∧ p ∈ xs) ∨ (p ∈ ys ∧ k = here + stp p)
theorem nodeAt_kid {μ : Mu} {n i : Nat} {kd : Knd} {b : Addr} {ts : List DL.Tree} {c : DL.Tree} (h : μ[n]? = some (.own (.nod kd b ts))) (hi : ts[i]? = some c) : nodeAt μ n [i] = some c := by
  unfold nodeAt
  rw [h]
  unfold Tree.get
  simp only [Tree.kid, hi]
  unfold Tree.get
  rfl
theorem putAt_kid {μ : Mu} {n i : Nat} {kd : Knd} {b : Addr} {ts : List DL.Tree} {c u : DL.Tree} (h : μ[n]? = some (.own (.nod kd b ts))) (hi : ts[i]? = some c) : putAt μ n [i] u = μ.set n (.own (.nod kd b (ts.set i u))) := by
  rw [c_putAt, h, putM_own, put_cons, hi, putC_some, put_nil]
theorem app_kid {μ : Mu} {n i : Nat} {kd : Knd} {b a : Addr} {ts : List DL.Tree} {xs : List DL.Tree} {d : PyData} {κ : Mu → Prop} (h : μ[n]? = some (.own (.nod kd b ts))) (hi : ts[i]? = some (.nod .lst a xs)) (hl : xs.length < 100000) (hk : κ (μ.set n (.own (.nod kd b (ts.set i (.nod .lst a (xs ++ [.dat d]))))))) : isLstA (.at n [i] a) μ ∧ oAppA (.at n [i] a) [.dat d] μ fun _ μ1 => κ μ1 := by
  have e := nodeAt_kid h hi
  rw [isLstA_at, appA_at, nodK_at e, nodK_at e, treeK_dat, putAt_kid h hi]
  exact ⟨rfl, rfl, hl, hk⟩
theorem setd_app {rs : Rg} {μ : Mu} {b : Addr} {k : Int} {d : Sp3} {n : Nat} {κ : Mu → Prop} (hμ : μ[n]? = some (.own (.nod (.dck (rgK rs)) b (rgT rs)))) (hr : rs.length ≤ 19) (hl : rgL rs 9000) (h : ∀ a, κ (μ.set n (.own (.nod (.dck (rgK (rgAdd rs k d a))) b (rgT (rgAdd rs k d a)))))) : (rgT rs).length < 100000 ∧ setdK μ n [] b (.dck (rgK rs)) (rgT rs) (.int k) (.new []) fun x μ1 => isLstA x μ1 ∧ oAppA x [.dat (spD d)] μ1 fun _ μ1 => κ μ1 := by
  have hlt := (List.getElem?_eq_some_iff.mp hμ).1
  refine ⟨by unfold rgT; rw [List.length_map]; omega, ?_⟩
  unfold setdK
  rw [show posD (.dck (rgK rs)) (.int k) = some (findIx (rgK rs) (.inl k)) from rfl, findIx_rg]
  cases e : rgIx rs k with
  | none =>
    show treeK _ _
    rw [treeK_new]
    intro a
    have h := h a
    rw [rgAdd_none e] at h
    have eK : rgK (rs ++ [(k, a, [d])]) = rgK rs ++ [.inl k] := by unfold rgK; rw [List.map_append]; rfl
    have eT : rgT (rs ++ [(k, a, [d])]) = rgT rs ++ [.nod .lst a [.dat (spD d)]] := by unfold rgT; rw [List.map_append]; rfl
    rw [eK, eT] at h
    rw [kid_nod, c_putAt, hμ, putM_own, put_nil]
    have hi : (rgT rs ++ [DL.Tree.nod .lst a []])[(rgT rs).length]? = some (.nod .lst a []) := by simp
    refine app_kid (μ := μ.set n (.own (.nod (.dck (rgK rs ++ [.inl k])) b (rgT rs ++ [.nod .lst a []])))) (List.getElem?_set_self hlt) hi (by decide) ?_
    rw [List.set_set]
    have es : (rgT rs ++ [DL.Tree.nod .lst a []]).set (rgT rs).length (.nod .lst a ([] ++ [.dat (spD d)])) = rgT rs ++ [.nod .lst a [.dat (spD d)]] := by simp
    rw [es]
    exact h
  | some i =>
    obtain ⟨a, l, hi⟩ := rgIx_some e
    have h := h 0
    rw [rgAdd_some e hi] at h
    have hT : (rgT rs)[i]? = some (.nod .lst a ((l.map spD).map .dat)) := by unfold rgT; rw [List.getElem?_map, hi]; rfl
    show atK _ _ _
    rw [atK_i hT, kid_nod]
    have hll := hl _ (List.mem_of_getElem? hi)
    refine app_kid hμ hT (by simp only [List.length_map]; simp only at hll; omega) ?_
    have eK : rgK (rs.set i (k, a, l ++ [d])) = rgK rs := by
      unfold rgK
      rw [List.map_set]
      refine set_same ?_
      rw [List.getElem?_map, hi]
      rfl
    have eT : rgT (rs.set i (k, a, l ++ [d])) = (rgT rs).set i (.nod .lst a ((l.map spD).map .dat ++ [.dat (spD d)])) := by
      unfold rgT
      rw [List.map_set]
      simp
    rw [eK, eT] at h
    exact h
def sp_waves (P : Program) (w : World) (base : Heap) (T : Top K mg) : SpD := fun es μ q x => ∃ (a : Nat) (b : Nat) (s0 : List Nat) (s1 : List Nat) (cs : List Sp3) (c : Per) (d : PyData), es = [.dat (vwD a b s0 s1), .dat (.list (cs.map spD)), .per c, .dat d] ∧ ((Vw a b s0 s1 ∧ (∀ c ∈ cs, on2 c) ∧ cs.length ≤ 1000) ∧ ∃ (p : Sp3 → Bool) (f : Sp3 → Int) (k : Nat), c = wP P w mg base nT k (wgh p f) ∧ k ≤ 13 ∧ (∀ s, fre s0 s1 s → p s = true ∧ 1 ≤ f s ∧ f s ≤ 9) ∧ (if isNum d 0 9 = true then (if cs.all (frB s0 s1) = true then ∀ hole, d = .int hole → ∀ gs : Sv, gs.length ≤ 200 → Told (fre s0 s1) cs (stpW f hole) gs → q (.newd (gs.map spV)) μ else x ⟨T.c_NoSpot, none⟩ μ) else x ⟨T.c_NoWeight, none⟩ μ))
theorem e_waves (P : Program) (w : World) (base : Heap) (T : Top K mg) {a : Nat} {b : Nat} {s0 : List Nat} {s1 : List Nat} {cs : List Sp3} {c : Per} {d : PyData} {μ : Mu} {q : PQ} {x : XQ} : sp_waves P w base T [.dat (vwD a b s0 s1), .dat (.list (cs.map spD)), .per c, .dat d] μ q x = ((Vw a b s0 s1 ∧ (∀ c ∈ cs, on2 c) ∧ cs.length ≤ 1000) ∧ ∃ (p : Sp3 → Bool) (f : Sp3 → Int) (k : Nat), c = wP P w mg base nT k (wgh p f) ∧ k ≤ 13 ∧ (∀ s, fre s0 s1 s → p s = true ∧ 1 ≤ f s ∧ f s ≤ 9) ∧ (if isNum d 0 9 = true then (if cs.all (frB s0 s1) = true then ∀ hole, d = .int hole → ∀ gs : Sv, gs.length ≤ 200 → Told (fre s0 s1) cs (stpW f hole) gs → q (.newd (gs.map spV)) μ else x ⟨T.c_NoSpot, none⟩ μ) else x ⟨T.c_NoWeight, none⟩ μ)) := by
  refine propext ⟨fun hyp0 => ?_, fun hyp0 => ⟨a, b, s0, s1, cs, c, d, rfl, hyp0⟩⟩
  obtain ⟨a', b', s0', s1', cs', c', d', eq0, hyp0⟩ := hyp0
  simp only [List.cons.injEq, Exn.mk.injEq, EV.at.injEq, eq_self, EV.dat.injEq, EV.loc.injEq, EV.new.injEq, EV.ro.injEq, EV.exc.injEq, EV.per.injEq, PyData.int.injEq, PyData.str.injEq, PyData.bool.injEq, PyData.list.injEq, PyData.tuple.injEq, and_true, true_and, and_assoc, map_int_inj, vwD_inj, sps_inj] at eq0
  obtain ⟨rfl, rfl, rfl, rfl, rfl, rfl, rfl⟩ := eq0
  exact hyp0
theorem ok_waves (T : Top K mg) : DefAt P w K mg base "waves" 15 ["view", "targets", "weigh", "hole"] [] [] (sp_waves P w base T) := by
  refine def_ok (sp_waves P w base T) T.F_waves sc_waves T.m_waves T.b_waves (fun cdv A outer s H E hr tk pw => (dss_cons (ds_expr (de_call (ok_need_weight T) hr (by decide) (by rfl) tk (fun _ _ => .nil) (da_cons (de_stl (dv 3)) (da_cons de_int da_nil))))
    (dss_cons (ds_expr (de_call (ok_need_free T) hr (by decide) (by rfl) tk (fun _ _ => .nil) (da_cons (de_stl (dv 0)) (da_cons (de_stl (dv 1)) da_nil))))
    (dss_cons (ds_set (i := 4) sc_waves.nd rfl (by first | exact Or.inl rfl | exact Or.inr rfl) (de_cell de_dnewT))
    (dss_cons (ds_set (i := 5) sc_waves.nd rfl (by first | exact Or.inl rfl | exact Or.inr rfl) (de_own (de_disp1 de_int (de_callTy (call_listA rfl) cs_listA (by rfl) T.n_list bt_list (da_cons (dv 1) da_nil)))))
    (dss_cons (ds_set (i := 6) sc_waves.nd rfl (by first | exact Or.inl rfl | exact Or.inr rfl) de_int)
    (dss_cons (ds_whileF [1, 7, 8] pw (dt_cmp (op_neE hr.units) os_neE (dv 5) de_dnewK (nomark _)) (dss_cons (ds_forF [1, 7, 8] pw rfl (di_seqD (de_stl (de_pop2 (dv 5) (dv 6) (de_lst da_nil) ⟨rfl, rfl, rfl, rfl⟩))) (dg_name (i := 7) sc_waves.nd rfl (by first | exact Or.inl rfl | exact Or.inr rfl)) (dss_cons (ds_if (dt_cmp (opA_in hr.units) os_memA (dv 7) (dv 4) (by rfl)) (dss_one ds_continue) dss_nil)
    (dss_cons (ds_asg (de_frz (dv 6)) (dg_sub (W := WF) (dv 4) (dv 7) (set_dictU hr.units) ss_dict))
    (dss_one (ds_forF [1, 8] pw rfl (di_seqD (de_stl (de_call (ok_free_steps T) hr (by decide) (by rfl) tk (fun _ _ => .nil) (da_cons (de_stl (dv 0)) (da_cons (de_stl (dv 7)) da_nil))))) (dg_name (i := 8) sc_waves.nd rfl (by first | exact Or.inl rfl | exact Or.inr rfl)) (dss_one (ds_if (dt_cmp (opA_notIn hr.units) os_memA (dv 8) (dv 4) (by rfl)) (dss_one (ds_expr (de_bm PySem.F.plainAttrs_list PySem.F.slot_list_append PySem.F.type_list_append mt_append rc_lstA ms_appA (de_bm PySem.F.plainAttrs_dict PySem.F.slot_dict_setdefault PySem.F.type_dict_setdefault (mt_setd hr.units) rc_dctA ms_setd (dv 5) (da_cons (de_op opA_add os_add (dv 6) (de_call (ok_step_price (P := P) (w := w) (base := base) T) hr (by decide) (by rfl) tk (fun _ _ => .nil) (da_cons (de_stl (dv 7)) (da_cons (de_stl (dv 8)) (da_cons (de_stl (dv 2)) (da_cons (de_stl (dv 3)) da_nil)))))) (da_cons (de_lst da_nil) da_nil))) (da_cons (dv 8) da_nil)))) dss_nil)))))))
    (dss_one (ds_aug (i := 6) sc_waves.nd rfl (by first | exact Or.inl rfl | exact Or.inr rfl) de_int ip_addA os_iadd))))
    (dss_one (ds_ret (dv 4)))))))))) ?_
  rintro es μ q x - ⟨a, b, s0, s1, ss, c, d, rfl, ⟨V, hc, hl⟩, p, f, k, rfl, hk, hf, h⟩
  have h0 : s0.length ≤ 1000 := by have := V.l0; have := V.hh; omega
  have h1 : s1.length ≤ 1000 := by have := V.l1; have := V.hh; omega
  ((try walk_at "dx22"); repeat (walk_at "one" <;> (try walk_at "dx22")))
  by_cases hn : isNum d 0 9 = true
  · rw [if_pos hn] at h ⊢
    obtain ⟨hole, rfl, hl0, hl9⟩ := isNum_ex hn
    ((try walk_at "dx22"); repeat (walk_at "one" <;> (try walk_at "dx22")))
    refine ⟨hc, ?_⟩
    cases hall : ss.all (frB s0 s1) with
    | false =>
      rw [hall] at h
      rw [if_neg (by simp)] at h ⊢
      exact h
    | true =>
      rw [hall, if_pos rfl] at h
      rw [if_pos rfl]
      have h := h hole rfl
      have hss : ∀ s ∈ ss, fre s0 s1 s := fun s hs => ⟨hc s hs, List.all_eq_true.mp hall s hs⟩
      ((try walk_at "dx22"); repeat (walk_at "one" <;> (try walk_at "dx22")))
      intro a1 b1
      refine ⟨rfl, ?_⟩
      ((try walk_at "dx22"); repeat (walk_at "one" <;> (try walk_at "dx22")))
      refine q_whileF (σ := Sv × Rg × Int × Int) (fun st => Wav (fre s0 s1) ss (stpW f hole) st.1 (rgE st.2.1) ∧ RgOk st.2.1 st.2.2.1 st.2.2.2 ∧ rgL st.2.1 (1000 + 5 * st.1.length))
        (fun st => 20 * (remG (fl3 a b) (kyV st.1)).length + (st.2.2.2 - st.2.2.1 + 1).toNat) (fun η st => η.set 6 (some (.dat (.int st.2.2.1)))) (fun st => μ ++ [.dct (st.1.map spV), .own (.nod (.dck (rgK st.2.1)) b1 (rgT st.2.1))]) ([], [(0, a1, ss)], 0, 18) rfl rfl ⟨wv0 hss, rgOk0, fun r hr => by simp at hr; subst hr; exact hl⟩ ?_
      rintro ⟨gs, rs, here, B⟩ J ⟨W, R, hL⟩ hJ
      simp only at W R hL hJ ⊢
      (try walk_at "dx22")
      rcases rs with _ | ⟨r, rs⟩
      · have hs0 : ∀ q p, fre s0 s1 q → 0 ≤ stpW f hole q p := fun q p hq => by
          have := hf q hq
          unfold stpW
          split <;> omega
        have hgl : gs.length ≤ 200 := by
          have := nodup_len (gs := kyV gs) (U := fl3 a b) W.nd fun p hp => by
            obtain ⟨g, hg1, rfl⟩ := List.mem_map.mp hp
            exact V.mem (W.le g.1 g.2 hg1).1.p
          have h2 := fl3_le V.hw V.hh
          unfold kyV at this
          rw [List.length_map] at this
          omega
        rw [if_neg (by simp [rgT])]
        ((try walk_at "dx22"); repeat (walk_at "one" <;> (try walk_at "dx22")))
        exact h gs hgl (W.told hs0 fun k p ⟨_, _, z, _⟩ => by simp at z)
      · rw [if_pos (by rfl)]
        generalize hrs : r :: rs = rg at *
        ((try walk_at "dx22"); repeat (walk_at "one" <;> (try walk_at "dx22")))
        refine pop_rg R.n (by simp) fun xs rs' hn' hk' hE => ?_
        have hBh : here ≤ B := by
          have := R.k r (hrs ▸ List.mem_cons_self)
          omega
        have hB := R.b
        have hz := R.z
        ((try walk_at "dx22"); repeat (walk_at "one" <;> (try walk_at "dx22")))
        refine for_stD (as := xs) (en := spD) (fun i (st : Sv × Rg × Int) => Wav (fre s0 s1) ss (stpW f hole) st.1 (wE st.2.1 here (xs.drop i)) ∧ RgOk st.2.1 (here + 1) st.2.2 ∧ rgL st.2.1 (1000 + 5 * st.1.length) ∧ (here ≤ st.2.2 ∧ st.2.2 ≤ here + 18) ∧ 20 * (remG (fl3 a b) (kyV st.1)).length + (st.2.2 - here).toNat < 20 * (remG (fl3 a b) (kyV gs)).length + (B - here + 1).toNat)
          (fun η _ => η) (fun _ st => μ ++ [.dct (st.1.map spV), .own (.nod (.dck (rgK st.2.1)) b1 (rgT st.2.1))]) (gs, rs', B) rfl (by simp) ⟨W.drop (fun k p h => .inl ((hE k p).mp h)) fun k p h => (hE k p).mpr h, ⟨hn', fun r hr => ?_, by simp only; omega, by omega⟩, fun r hr => hL r (hk' r hr).2, ⟨hBh, hB⟩, by simp only; omega⟩ (fun _ => trivial) ?_ ?_
        · have h1 := R.k r (hk' r hr).2
          have h2 := (hk' r hr).1
          simp only
          omega
        · rintro i c ⟨gs2, rs2, B2⟩ J2 hi ⟨W2, R2, L2, hB2, hm⟩ hJ2
          simp only at W2 R2 L2 hB2 hm hJ2 ⊢
          ((try walk_at "dx22"); repeat (walk_at "one" <;> (try walk_at "dx22")))
          have hdr := drop_at hi
          have hfc := (W2.en here c (.inr ⟨rfl, by rw [hdr]; exact List.mem_cons_self⟩)).p
          by_cases hg : c ∈ kyV gs2
          · rw [if_pos (by simpa using hg)]
            have go := hJ2 (gs2, rs2, B2) ⟨W2.drop (fun k p h => ?_) fun k p h => ?_, R2, L2, hB2, hm⟩
            · clear hJ2 hJ
              rw [x_sCont]
              (try walk_at "dx22")
              (have j := go; simp only [List.range_succ, List.map_append, List.map_cons, List.map_nil, fg_cons, fg_nil, List.set_cons_succ, List.set_cons_zero] at j; exact j)
            · rcases h with h | ⟨h, h'⟩
              · exact .inl (.inl h)
              · rw [hdr] at h'
                rcases List.mem_cons.mp h' with rfl | h'
                · obtain ⟨g, hg1, hg2⟩ := List.mem_map.mp hg
                  exact .inr ⟨g.2, by rw [← hg2]; exact hg1⟩
                · exact .inl (.inr ⟨h, h'⟩)
            · exact h.elim .inl fun ⟨h, h'⟩ => .inr ⟨h, by rw [hdr]; exact List.mem_cons_of_mem _ h'⟩
          · rw [if_neg (by simpa using hg)]
            have hfl := len_frL a b s0 s1 c
            have hr2 : (remG (fl3 a b) (kyV (gs2 ++ [(c, here)]))).length < (remG (fl3 a b) (kyV gs2)).length := by
              have := rem_insG (V.mem hfc) hg
              unfold insA at this
              rw [if_neg hg] at this
              unfold kyV at this ⊢
              rw [List.map_append]
              exact this
            have hgl : gs2.length ≤ 200 := by
              have := nodup_len (gs := kyV gs2) (U := fl3 a b) W2.nd fun p hp => by
                obtain ⟨g, hg1, rfl⟩ := List.mem_map.mp hp
                exact V.mem (W2.le g.1 g.2 hg1).1.p
              have h2 := fl3_le V.hw V.hh
              unfold kyV at this
              rw [List.length_map] at this
              omega
            ((try walk_at "dx22"); repeat (walk_at "one" <;> (try walk_at "dx22")))
            rw [insV_new _ hg]
            generalize hg3 : gs2 ++ [(c, here)] = gs3 at *
            have hl3 : gs3.length = gs2.length + 1 := by rw [← hg3]; simp
            ((try walk_at "dx22"); repeat (walk_at "one" <;> (try walk_at "dx22")))
            refine ⟨hfc.1, ?_⟩
            have hfb := hf c hfc
            have hstp : ∀ p, 1 ≤ stpW f hole c p ∧ stpW f hole c p ≤ 18 := fun p => by
              unfold stpW
              split <;> omega
            have hs0 : ∀ q p, fre s0 s1 q → 0 ≤ stpW f hole q p := fun q p hq => by
              have := hf q hq
              unfold stpW
              split <;> omega
            refine for_stD (as := frL a b s0 s1 c) (en := spD) (fun j (rs3 : Rg) => Wav (fre s0 s1) ss (stpW f hole) gs3 (wE2 rs3 here (xs.drop (i + 1)) (stpW f hole c) ((frL a b s0 s1 c).drop j)) ∧ RgOk rs3 (here + 1) (here + 18) ∧ rgL rs3 (1000 + 5 * gs2.length + j))
              (fun η _ => η) (fun _ rs3 => μ ++ [.dct (gs3.map spV), .own (.nod (.dck (rgK rs3)) b1 (rgT rs3))]) rs2 rfl (by simp) ⟨?_, ⟨R2.n, fun r hr => ?_, by omega, by omega⟩, L2⟩ (fun _ => trivial) ?_ ?_
            · rw [← hg3]
              refine W2.find hs0 (fun k p h => ?_) (.inr ⟨rfl, by rw [hdr]; exact List.mem_cons_self⟩) hg (fun k p h => ?_) (fun p hp hP => ?_) fun k p h => ?_
              · rcases h with ⟨a', l, h1, _⟩ | ⟨h1, _⟩
                · have := R2.k _ h1
                  simp only at this
                  omega
                · omega
              · rcases h with h | ⟨h, h'⟩
                · exact .inl (.inl h)
                · rw [hdr] at h'
                  exact (List.mem_cons.mp h').elim .inr fun h' => .inl (.inr (.inl ⟨h, h'⟩))
              · exact .inr (.inr ⟨(mem_frL V hfc.1).mpr ⟨hp, hP⟩, rfl⟩)
              · rcases h with h | ⟨h, h'⟩ | ⟨h, h'⟩
                · exact .inl (.inl h)
                · exact .inl (.inr ⟨h, by rw [hdr]; exact List.mem_cons_of_mem _ h'⟩)
                · have := (mem_frL V hfc.1).mp h
                  exact .inr ⟨this.1, this.2, h'⟩
            · have := R2.k r hr
              omega
            · rintro j d rs3 J3 hj ⟨W3, R3, L3⟩ hJ3
              simp only at W3 R3 L3 hJ3 ⊢
              have hdj := drop_at hj
              have hjl := get_lt hj
              ((try walk_at "dx22"); repeat (walk_at "one" <;> (try walk_at "dx22")))
              by_cases hd3 : d ∈ kyV gs3
              · rw [if_neg (by simp [hd3])]
                have go := hJ3 rs3 ⟨W3.drop (fun k p h => ?_) fun k p h => ?_, R3, fun r hr => by have := L3 r hr; omega⟩
                · clear hJ3 hJ2 hJ
                  (have j := go; simp only [List.range_succ, List.map_append, List.map_cons, List.map_nil, fg_cons, fg_nil, List.set_cons_succ, List.set_cons_zero] at j; exact j)
                · rw [hdj] at h
                  rcases h with h | h | ⟨h, h'⟩
                  · exact .inl (.inl h)
                  · exact .inl (.inr (.inl h))
                  · rcases List.mem_cons.mp h with rfl | h
                    · obtain ⟨g, hg1, hg2⟩ := List.mem_map.mp hd3
                      exact .inr ⟨g.2, by rw [← hg2]; exact hg1⟩
                    · exact .inl (.inr (.inr ⟨h, h'⟩))
                · rw [hdj]
                  exact h.elim .inl fun h => h.elim (fun h => .inr (.inl h)) fun h => .inr (.inr ⟨List.mem_cons_of_mem _ h.1, h.2⟩)
              · rw [if_pos (by simp [hd3])]
                have hsd := hstp d
                ((try walk_at "dx22"); repeat (walk_at "one" <;> (try walk_at "dx22")))
                refine ⟨p, f, k, rfl, hk, hfb.1, ?_⟩
                ((try walk_at "dx22"); repeat (walk_at "one" <;> (try walk_at "dx22")))
                have hrl := R3.len
                refine setd_app (κ := fun μ1 => J3 _ (List.take (μ.length + 2) μ1)) (by simp) hrl (fun r hr => by have := L3 r hr; omega) fun a2 => ?_
                have go := hJ3 (rgAdd rs3 (here + stpW f hole c d) d a2) ⟨W3.drop (fun k p h => ?_) fun k p h => ?_, ⟨rgN_add R3.n _ _ _, fun r hr => ?_, by omega, by omega⟩, fun r hr => by have := rgL_add L3 (here + stpW f hole c d) d a2 r hr; omega⟩
                · clear hJ3 hJ2 hJ
                  (try walk_at "dx22")
                  (have j := go; simp only [List.range_succ, List.map_append, List.map_cons, List.map_nil, fg_cons, fg_nil, List.set_cons_succ, List.set_cons_zero] at j; exact j)
                · rw [hdj] at h
                  rcases h with h | h | ⟨h, h'⟩
                  · exact .inl (.inl (rgE_add.mpr (.inl h)))
                  · exact .inl (.inr (.inl h))
                  · rcases List.mem_cons.mp h with rfl | h
                    · exact .inl (.inl (rgE_add.mpr (.inr ⟨h', rfl⟩)))
                    · exact .inl (.inr (.inr ⟨h, h'⟩))
                · rw [hdj]
                  rcases h with h | h | ⟨h, h'⟩
                  · rcases rgE_add.mp h with h | ⟨h, h'⟩
                    · exact .inl h
                    · exact .inr (.inr ⟨by rw [h']; exact List.mem_cons_self, by rw [h', h]⟩)
                  · exact .inr (.inl h)
                  · exact .inr (.inr ⟨List.mem_cons_of_mem _ h, h'⟩)
                · rcases rgAdd_keys hr with h | ⟨r', h1, h2⟩
                  · omega
                  · have := R3.k r' h1
                    omega
            · rintro rs3 ⟨W3, R3, L3⟩
              rw [List.drop_length] at W3
              have go := hJ2 (gs3, rs3, here + 18) ⟨W3.drop (fun k p h => ?_) fun k p h => ?_, R3, fun r hr => ?_, ⟨by simp only; omega, by simp only; omega⟩, ?_⟩
              · clear hJ2 hJ
                (try walk_at "dx22")
                (have j := go; simp only [List.range_succ, List.map_append, List.map_cons, List.map_nil, fg_cons, fg_nil, List.set_cons_succ, List.set_cons_zero] at j; exact j)
              · exact h.elim (fun h => .inl (.inl h)) fun h => h.elim (fun h => .inl (.inr h)) fun h => by simp at h
              · exact h.elim .inl fun h => .inr (.inl h)
              · have := L3 r hr
                simp only
                omega
              · simp only
                omega
        · rintro ⟨gs2, rs2, B2⟩ ⟨W2, R2, L2, hB2, hm⟩
          simp only at W2 R2 L2 hB2 hm ⊢
          rw [List.drop_length] at W2
          have go := hJ (gs2, rs2, here + 1, B2) ⟨W2.drop (fun k p h => ?_) fun k p h => .inl h, R2, L2⟩ (by simp only; omega)
          · clear hJ
            ((try walk_at "dx22"); repeat (walk_at "one" <;> (try walk_at "dx22")))
            (have j := go; simp only [List.range_succ, List.map_append, List.map_cons, List.map_nil, fg_cons, fg_nil, List.set_cons_succ, List.set_cons_zero] at j; exact j)
          · exact h.elim .inl fun h => by simp at h
  · rw [if_neg hn] at h ⊢
    simpa using h
local macro_rules | `(tactic| walk_at "dx23") => `(tactic| simp (disch := first | assumption | omega) only [List.length_cons, List.length_nil, Nat.zero_add, Nat.reduceAdd, ↓exitQ_dat, startD, List.map_cons, List.map_nil, Nat.reduceSub, List.replicate, List.cons_append, List.nil_append, ↓x_dCall, ↓x_aCons, ↓x_dStl, ↓dVar_3, ↓old_dat, ↓stl_dat, ↓x_dC, ↓x_aNil, ↓aO_cons, ↓nN_dat, ↓aO_nil, Bool.and_true, List.append_nil, ↓e_need_weight, ↓tk_0, true_and, ↓dVar_0, ↓dVar_1, ↓e_need_free, nle_h, and_true, ↓x_dCell, ↓x_dNewD, ↓cell_nd, ↓nN_loc, List.set_cons_succ, List.set_cons_zero, ↓x_dOwn, ↓x_dDisp1, ↓x_dCB, ↓lsA_l, ↓disp1K_i, ↓treeK_new, ↓ownK_newo, List.length_append, List.append_assoc, ↓x_tVal, ↓x_dOp, ↓fg_cons, ↓fg_nil, ↓x_dNewKk, dVar_5, ↓old_at, ↓neE_at, ↓c_nodK, ↓get_a1, ↓wB_b, nodC_own, ↓get_nil, treC_n, ↓dckK_k, ↓dVar_4, ↓old_loc, exitQ_ge, ↓get_a0, exC_d, ↓tk_a0, ↓x_iSeqD, ↓x_dPop2, ↓dVar_5, ↓isDctA_at, ↓dctKd_k, ↓dVar_6, ↓x_dLst, ↓wDs_nil, ↓pop2_at, ↓seqDK_l, ↓set_a1, ↓x_gNm, ↓dVar_7, ↓c_memA, ↓memC_V, Bool.false_eq_true, if_false, decide_eq_true_eq, cl_dat, ↓cl_none, ↓cl_per, cl_loc, ↓cl_at, ↓cl_nil, ↓tk_a2, ↓x_dFrz, ↓wD_dat, ↓x_gSb, ↓setD_sp, ↓set_a0, lcD_d, List.length_map, nlt_h, ↓putV, ↓e_free_steps, ↓stl_new, ↓dVar_8, if_true, ↓x_dBM, ↓dVar_2, ↓old_per, ↓stl_per, ↓nN_per, ↓e_step_price, ↓add_int, ↓setd_at, tk_a2, List.getElem?_cons_succ, List.getElem?_cons_zero, augK_s, ↓iadd_ii])
local macro_rules | `(tactic| walk_at "dx24") => `(tactic| simp (disch := first | assumption | omega) only [List.length_cons, List.length_nil, Nat.zero_add, Nat.reduceAdd, ↓exitQ_dat, startD, List.map_cons, List.map_nil, Nat.reduceSub, List.replicate, List.cons_append, List.nil_append, ↓x_dStl, ↓x_dTup, ↓x_aCons, ↓x_dFrz, ↓x_dOp, ↓x_dC, ↓x_dCall, ↓x_dCell, ↓dVar_0, ↓old_loc, ↓cel_loc, ↓x_aNil, ↓aO_cons, ↓nN_loc, ↓nN_dat, ↓aO_nil, Bool.and_true, List.append_nil, ↓wDs_cons, ↓wDs_nil, nle_h, ↓stl_dat, List.set_cons_succ, List.set_cons_zero, true_and, nextA_eq, ilt_h, ↓add_int, ↓wD_dat, isR_h, ↓x_tVal, ↓eq_dd, ↓noD_i, and_true, dep_int, ↓wB_b, eqv_int, decide_eq_true_eq, ↓dVar_1, ↓old_dat, ↓tk_0, ↓x_dLst, ↓stl_new, ↓x_iRange1, ↓ix_tupD, at_nn, Int.reduceToNat, List.getElem?_cons_zero, Option.some.injEq, exists_eq_left', ↓rng1_i, ile_h, Int.toNat_natCast, ↓x_gNm, ↓fg_cons, ↓fg_nil, ↓x_lc, List.getElem?_cons_succ, cl_dat, wipeD, dVar_3, dVar_2, ↓add_ln, List.length_map, ↓add_nn, List.length_append, ↓cl_dat, List.append_assoc, ↓cl_none, ↓cl_nil, ↓x_dCB, ↓srt_spl, ↓exitQ_new, oGt, oShlA, ↓ix_new, ↓x_dNewD, ↓cell_nd, ↓x_iSeqD, ↓seqDK_l, ↓dVar_2, cl_loc, isR_app, ↓oI0_ii, ↓tk_a1, ↓x_gSb, ↓dVar_3, ↓dVar_4, ↓setD_sp, ↓get_a0, ↓set_a0, tk_a1, lcD_d, nlt_h, ↓putE_sp, ↓cel_new, ↓seqDK_t, ↓ix_sz, ↓x_oSum, dVar_1, dVar_9, ↓oI_ii, csh_h, ↓c_memA, dVar_8, dVar_6, memC_d, ↓keysP_i, ↓keysP_nil, Bool.false_eq_true, hasKs_sp, if_false, ↓tk_a2, ↓lstK_new, ↓ints_k, ↓wD_new, ↓x_dBM, ↓dVar_5, ↓c_isL, ↓get_a1, lcR_l, ↓dVar_7, ↓x_oTuple, ↓sqK_lst, ↓c_app, cl_none, ↓set_a1, tk_a2, lcK_l, ↓c_ix, ↓x_dFzd, ↓c_fzd, fzdC_d, dc3_eq, tk_a0])
theorem sum_bits (f : Nat → Bool) : ∀ w : Nat, (((List.range w).filter f).map fun x : Nat => (2 : Int) ^ x).sum = ((rowB w f : Nat) : Int)
  | 0 => rfl
  | w + 1 => by
    rw [List.range_succ, List.filter_append, List.map_append, List.sum_append, sum_bits f w]
    show _ = ((rowB w f + (if f w then 2 ^ w else 0) : Nat) : Int)
    by_cases hf : f w = true
    · simp [hf]
    · simp [hf]
/-- a sheet of free spots -/
def s3 (w h : Nat) (k : Int) (cs : List Sp3) : List Nat := sheetB w h fun x y => decide ((k, x, y) ∈ cs)
theorem vw_s3 {w h : Nat} (hw : w ≤ 10) (hh : h ≤ 10) (cs : List Sp3) : Vw w h (s3 w h 0 cs) (s3 w h 1 cs) := ⟨hw, hh, sheetB_len _ _ _, sheetB_len _ _ _, sheetB_ok _ _ _, sheetB_ok _ _ _⟩
theorem fr_s3 {w h : Nat} {cs : List Sp3} (hin : ∀ c ∈ cs, c ∈ fl3 w h) {c : Sp3} (hc : on2 c) : frB (s3 w h 0 cs) (s3 w h 1 cs) c = true ↔ c ∈ cs := by
  obtain ⟨k, x, y⟩ := c
  unfold frB s3
  have z : ∀ k, (k, x, y) ∈ cs → 0 ≤ x ∧ x < w ∧ 0 ≤ y ∧ y < h := fun k hm => in3_iff.mp (mem_fl3.mp (hin _ hm)).2
  rcases hc with hk | hk
  · simp only at hk
    subst hk
    rw [if_pos rfl, sheetB_bit, Bool.and_eq_true, decide_eq_true_eq, decide_eq_true_eq]
    exact ⟨fun a => a.2, fun a => ⟨z _ a, a⟩⟩
  · simp only at hk
    subst hk
    rw [if_neg (by simp), sheetB_bit, Bool.and_eq_true, decide_eq_true_eq, decide_eq_true_eq]
    exact ⟨fun a => a.2, fun a => ⟨z _ a, a⟩⟩
theorem fre_s3 {w h : Nat} {cs : List Sp3} (hin : ∀ c ∈ cs, c ∈ fl3 w h) (c : Sp3) : fre (s3 w h 0 cs) (s3 w h 1 cs) c ↔ c ∈ cs :=
  ⟨fun z => (fr_s3 hin z.1).mp z.2, fun z => have o := (mem_fl3.mp (hin _ z)).1; ⟨o, (fr_s3 hin o).mpr z⟩⟩
def sp_law_size : SpD := fun es μ q x => ∃ (n : Nat), es = [.loc n] ∧ (isR μ n ∧ ∀ w h : Nat, 3 ≤ w → w ≤ 10 → 3 ≤ h → h ≤ 10 → q (.dat (szD w h)) μ)
theorem e_law_size {n : Nat} {μ : Mu} {q : PQ} {x : XQ} : sp_law_size [.loc n] μ q x = (isR μ n ∧ ∀ w h : Nat, 3 ≤ w → w ≤ 10 → 3 ≤ h → h ≤ 10 → q (.dat (szD w h)) μ) := by
  refine propext ⟨fun hyp0 => ?_, fun hyp0 => ⟨n, rfl, hyp0⟩⟩
  obtain ⟨n', eq0, hyp0⟩ := hyp0
  simp only [List.cons.injEq, Exn.mk.injEq, EV.at.injEq, eq_self, EV.dat.injEq, EV.loc.injEq, EV.new.injEq, EV.ro.injEq, EV.exc.injEq, EV.per.injEq, PyData.int.injEq, PyData.str.injEq, PyData.bool.injEq, PyData.list.injEq, PyData.tuple.injEq, and_true, true_and, and_assoc, map_int_inj, ] at eq0
  subst eq0
  exact hyp0
theorem ok_law_size (T : Top K mg) : DefAt P w K mg base "_law_size" 2 ["_law_state_here"] [] [] sp_law_size := by
  refine def_ok sp_law_size T.F_law_size sc_law_size T.m_law_size T.b_law_size (fun cdv A outer s H E hr tk pw => (dss_cons (ds_set (i := 1) sc_law_size.nd rfl (by first | exact Or.inl rfl | exact Or.inr rfl) (de_stl (de_tup (da_cons (de_frz (de_op opA_add os_add de_int (de_call (ok_law_next T) hr (by decide) (by rfl) tk (fun _ _ => .nil) (da_cons (de_cell (dv 0)) (da_cons de_int da_nil))))) (da_cons (de_frz (de_op opA_add os_add de_int (de_call (ok_law_next T) hr (by decide) (by rfl) tk (fun _ _ => .nil) (da_cons (de_cell (dv 0)) (da_cons de_int da_nil))))) da_nil)))))
    (dss_cons (ds_if (dt_cmp (opA_eq hr.units) os_eq (de_call (ok_law_next T) hr (by decide) (by rfl) tk (fun _ _ => .nil) (da_cons (de_cell (dv 0)) (da_cons de_int da_nil))) de_int (nomark _)) (dss_one (ds_set (i := 1) sc_law_size.nd rfl (by first | exact Or.inl rfl | exact Or.inr rfl) (de_stl (de_tup (da_cons (de_frz (de_op opA_add os_add de_int (de_call (ok_law_next T) hr (by decide) (by rfl) tk (fun _ _ => .nil) (da_cons (de_cell (dv 0)) (da_cons de_int da_nil))))) (da_cons (de_frz (de_op opA_add os_add de_int (de_call (ok_law_next T) hr (by decide) (by rfl) tk (fun _ _ => .nil) (da_cons (de_cell (dv 0)) (da_cons de_int da_nil))))) da_nil)))))) dss_nil)
    (dss_one (ds_ret (dv 1)))))) ?_
  rintro es μ q x - ⟨n, rfl, hs, k⟩
  have hn := hs.lt
  have kk : ∀ a b : Int, 0 ≤ a → a < 8 → 0 ≤ b → b < 8 → q (.dat (.tuple [.int (3 + a), .int (3 + b)])) μ := fun a b a0 a1 b0 b1 => by
    have := k (3 + a).toNat (3 + b).toNat (by omega) (by omega) (by omega) (by omega)
    unfold szD at this
    rwa [Int.toNat_of_nonneg (by omega), Int.toNat_of_nonneg (by omega)] at this
  ((try walk_at "dx24"); repeat (walk_at "one" <;> (try walk_at "dx24")))
  intro a a0 a1 b b0 b1
  ((try walk_at "dx24"); repeat (walk_at "one" <;> (try walk_at "dx24")))
  intro c c0 c1
  split
  · ((try walk_at "dx24"); repeat (walk_at "one" <;> (try walk_at "dx24")))
    intro a a0 a1 b b0 b1
    ((try walk_at "dx24"); repeat (walk_at "one" <;> (try walk_at "dx24")))
    exact kk a b (by omega) (by omega) (by omega) (by omega)
  · ((try walk_at "dx24"); repeat (walk_at "one" <;> (try walk_at "dx24")))
    exact kk a b (by omega) (by omega) (by omega) (by omega)
def sp_law_floor : SpD := fun es μ q x => ∃ (w : Nat) (h : Nat), es = [.dat (szD w h)] ∧ ((w ≤ 10 ∧ h ≤ 10) ∧ q (.new ((fl3 w h).map spD)) μ)
theorem e_law_floor {w : Nat} {h : Nat} {μ : Mu} {q : PQ} {x : XQ} : sp_law_floor [.dat (szD w h)] μ q x = ((w ≤ 10 ∧ h ≤ 10) ∧ q (.new ((fl3 w h).map spD)) μ) := by
  refine propext ⟨fun hyp0 => ?_, fun hyp0 => ⟨w, h, rfl, hyp0⟩⟩
  obtain ⟨w', h', eq0, hyp0⟩ := hyp0
  simp only [List.cons.injEq, Exn.mk.injEq, EV.at.injEq, eq_self, EV.dat.injEq, EV.loc.injEq, EV.new.injEq, EV.ro.injEq, EV.exc.injEq, EV.per.injEq, PyData.int.injEq, PyData.str.injEq, PyData.bool.injEq, PyData.list.injEq, PyData.tuple.injEq, and_true, true_and, and_assoc, map_int_inj, szD_inj] at eq0
  obtain ⟨rfl, rfl⟩ := eq0
  exact hyp0
theorem ok_law_floor (T : Top K mg) : DefAt P w K mg base "_law_floor" 1 ["_law_size_here"] [] [] sp_law_floor := by
  refine def_ok sp_law_floor T.F_law_floor sc_law_floor T.m_law_floor T.b_law_floor (fun cdv A outer s H E hr tk pw => (dss_cons (ds_set (i := 1) sc_law_floor.nd rfl (by first | exact Or.inl rfl | exact Or.inr rfl) (de_stl (de_lst da_nil)))
    (dss_cons (ds_forF [2] pw rfl (di_range1 (by rfl) T.n_range (da_cons (de_ix ix_seq os_ix (dv 0) de_int (fun _ _ => rfl)) da_nil)) (dg_name (i := 2) sc_law_floor.nd rfl (by first | exact Or.inl rfl | exact Or.inr rfl)) (dss_one (ds_set (i := 1) sc_law_floor.nd rfl (by first | exact Or.inl rfl | exact Or.inr rfl) (de_stl (de_op opA_add os_add (de_op opA_add os_add (dv 1) (de_lc (own := [("_law_y", 3)]) rfl sc_law_floor.nd (di_range1 (by rfl) T.n_range (da_cons (de_ix ix_seq os_ix (dv 0) de_int (fun _ _ => rfl)) da_nil)) (blkOk_by (N := ["_law_size_here", "_law_found", "_law_x", "_law_y"]) (sc := (defScope s_law_floor)) (by decide +kernel)) (by decide) (fun _ _ _ _ _ => (dg_name (i := 3) sc_law_floor.nd rfl (by first | exact Or.inl rfl | exact Or.inr rfl))) (fun _ _ _ _ _ => dts_nil) (fun _ _ _ _ _ => (de_tup (da_cons de_int (da_cons (de_frz (dv 2)) (da_cons (de_frz (dv 3)) da_nil))))))) (de_lc (own := [("_law_y", 3)]) rfl sc_law_floor.nd (di_range1 (by rfl) T.n_range (da_cons (de_ix ix_seq os_ix (dv 0) de_int (fun _ _ => rfl)) da_nil)) (blkOk_by (N := ["_law_size_here", "_law_found", "_law_x", "_law_y"]) (sc := (defScope s_law_floor)) (by decide +kernel)) (by decide) (fun _ _ _ _ _ => (dg_name (i := 3) sc_law_floor.nd rfl (by first | exact Or.inl rfl | exact Or.inr rfl))) (fun _ _ _ _ _ => dts_nil) (fun _ _ _ _ _ => (de_tup (da_cons de_int (da_cons (de_frz (dv 2)) (da_cons (de_frz (dv 3)) da_nil)))))))))))
    (dss_one (ds_ret (de_callB (call_sortA rfl hr.units) cs_sortA (by rfl) T.n_sorted bb_sorted (da_cons (dv 1) da_nil))))))) ?_
  rintro es μ q x - ⟨w, h, rfl, ⟨hw, hh⟩, k⟩
  simp only [szD_eq]
  ((try walk_at "dx24"); repeat (walk_at "one" <;> (try walk_at "dx24")))
  refine for_stR (fun i (t : List Sp3) => t = fl3u i h) (fun η t => η.set 1 (some (.dat (.list (t.map spD))))) (fun μ _ => μ) [] rfl rfl rfl (fun _ => trivial) ?_ ?_
  · rintro i t J hi rfl hJ
    have hl : (fl3u i h).length ≤ 200 := by
      rw [fl3u_len]
      exact Nat.mul_le_mul (by omega : i ≤ 10) (by omega : h + h ≤ 20)
    ((try walk_at "dx24"); repeat (walk_at "one" <;> (try walk_at "dx24")))
    refine lc_rng (f := ?f) (n := h) (by omega) trivial (fun a K ha hK => ?e) ?_
    case e => (try walk_at "dx24"); exact hK
    (try walk_at "dx24")
    refine ⟨by rw [List.length_range]; omega, ?_⟩
    refine lc_rng (f := ?f2) (n := h) (by omega) trivial (fun a K ha hK => ?e2) ?_
    case e2 => (try walk_at "dx24"); exact hK
    (try walk_at "dx24")
    (try walk_at "ok")
    refine Eq.mp ?_ (hJ _ rfl)
    rw [fl3u_succ, List.map_append, List.map_append, List.map_map, List.map_map]
    simp only [fg_cons, fg_nil, List.set_cons_succ, List.set_cons_zero, spD, Int.zero_add, Function.comp_def, List.append_assoc]
    (try walk_at "dx24")
  · rintro t rfl
    ((try walk_at "dx24"); repeat (walk_at "one" <;> (try walk_at "dx24")))
    exact k
local macro_rules | `(tactic| walk_at "dx25") => `(tactic| simp (disch := first | assumption | omega) only [List.length_cons, List.length_nil, Nat.zero_add, Nat.reduceAdd, ↓exitQ_dat, startD, List.map_cons, List.map_nil, Nat.reduceSub, List.replicate, List.cons_append, List.nil_append, ↓x_dStl, ↓x_dTup, ↓x_aCons, ↓x_dFrz, ↓x_dOp, ↓x_dC, ↓x_dCall, ↓x_dCell, ↓dVar_0, ↓old_loc, ↓cel_loc, ↓x_aNil, ↓aO_cons, ↓nN_loc, ↓nN_dat, ↓aO_nil, Bool.and_true, List.append_nil, ↓wDs_cons, ↓wDs_nil, nle_h, ↓stl_dat, List.set_cons_succ, List.set_cons_zero, true_and, nextA_eq, ilt_h, ↓add_int, ↓wD_dat, isR_h, ↓x_tVal, ↓eq_dd, ↓noD_i, and_true, dep_int, ↓wB_b, eqv_int, decide_eq_true_eq, ↓dVar_1, ↓old_dat, ↓tk_0, ↓x_dLst, ↓stl_new, ↓x_iRange1, ↓ix_tupD, at_nn, Int.reduceToNat, List.getElem?_cons_zero, Option.some.injEq, exists_eq_left', ↓rng1_i, ile_h, Int.toNat_natCast, ↓x_gNm, ↓fg_cons, ↓fg_nil, ↓x_lc, List.getElem?_cons_succ, cl_dat, wipeD, dVar_3, dVar_2, ↓add_ln, List.length_map, ↓add_nn, List.length_append, ↓cl_dat, List.append_assoc, ↓cl_none, ↓cl_nil, ↓x_dCB, ↓srt_spl, ↓exitQ_new, oGt, oShlA, ↓ix_new, ↓x_dNewD, ↓cell_nd, ↓x_iSeqD, ↓e_law_floor, ↓seqDK_l, ↓dVar_2, cl_loc, isR_app, ↓oI0_ii, ↓tk_a1, ↓x_gSb, ↓dVar_3, ↓dVar_4, ↓setD_sp, ↓get_a0, ↓set_a0, tk_a1, lcD_d, nlt_h, ↓putE_sp, ↓cel_new, ↓seqDK_t, ↓ix_sz, ↓x_oSum, dVar_1, dVar_9, ↓oI_ii, csh_h, ↓c_memA, dVar_8, dVar_6, memC_d, ↓keysP_i, ↓keysP_nil, Bool.false_eq_true, hasKs_sp, if_false, ↓tk_a2, ↓lstK_new, ↓ints_k, ↓wD_new, ↓x_dBM, ↓dVar_5, ↓c_isL, ↓get_a1, lcR_l, ↓dVar_7, ↓x_oTuple, ↓sqK_lst, ↓c_app, cl_none, ↓set_a1, tk_a2, lcK_l, ↓c_ix, ↓x_dFzd, ↓c_fzd, fzdC_d, dc3_eq, tk_a0])
def sp_law_view : SpD := fun es μ q x => ∃ (n : Nat) (w : Nat) (h : Nat), es = [.loc n, .dat (szD w h)] ∧ (isR μ n ∧ (w ≤ 10 ∧ h ≤ 10) ∧ ∀ cs : List Sp3, cs.Nodup → (∀ c ∈ cs, c ∈ fl3 w h) → q (.new [vwD w h (s3 w h 0 cs) (s3 w h 1 cs), dc3 cs]) μ)
theorem e_law_view {n : Nat} {w : Nat} {h : Nat} {μ : Mu} {q : PQ} {x : XQ} : sp_law_view [.loc n, .dat (szD w h)] μ q x = (isR μ n ∧ (w ≤ 10 ∧ h ≤ 10) ∧ ∀ cs : List Sp3, cs.Nodup → (∀ c ∈ cs, c ∈ fl3 w h) → q (.new [vwD w h (s3 w h 0 cs) (s3 w h 1 cs), dc3 cs]) μ) := by
  refine propext ⟨fun hyp0 => ?_, fun hyp0 => ⟨n, w, h, rfl, hyp0⟩⟩
  obtain ⟨n', w', h', eq0, hyp0⟩ := hyp0
  simp only [List.cons.injEq, Exn.mk.injEq, EV.at.injEq, eq_self, EV.dat.injEq, EV.loc.injEq, EV.new.injEq, EV.ro.injEq, EV.exc.injEq, EV.per.injEq, PyData.int.injEq, PyData.str.injEq, PyData.bool.injEq, PyData.list.injEq, PyData.tuple.injEq, and_true, true_and, and_assoc, map_int_inj, szD_inj] at eq0
  obtain ⟨rfl, rfl, rfl⟩ := eq0
  exact hyp0
theorem ok_law_view (T : Top K mg) : DefAt P w K mg base "_law_view" 2 ["_law_state_here", "_law_size_here"] [] [] sp_law_view := by
  refine def_ok sp_law_view T.F_law_view sc_law_view T.m_law_view T.b_law_view (fun cdv A outer s H E hr tk pw => (dss_cons (ds_set (i := 2) sc_law_view.nd rfl (by first | exact Or.inl rfl | exact Or.inr rfl) (de_stl (de_ix ix_seq os_ix (de_lst (da_cons de_int (da_cons de_int (da_cons de_int (da_cons de_int (da_cons de_int da_nil)))))) (de_call (ok_law_next T) hr (by decide) (by rfl) tk (fun _ _ => .nil) (da_cons (de_cell (dv 0)) (da_cons de_int da_nil))) (fun _ _ => rfl))))
    (dss_cons (ds_set (i := 3) sc_law_view.nd rfl (by first | exact Or.inl rfl | exact Or.inr rfl) (de_cell de_dnewT))
    (dss_cons (ds_forF [4, 5, 6, 7] pw rfl (di_seqD (de_stl (de_call (ok_law_floor T) hr (by decide) (by rfl) tk (fun _ _ => .nil) (da_cons (de_stl (dv 1)) da_nil)))) (dg_name (i := 4) sc_law_view.nd rfl (by first | exact Or.inl rfl | exact Or.inr rfl)) (dss_one (ds_if (dt_cmp op_gt os_gt (de_call (ok_law_next T) hr (by decide) (by rfl) tk (fun _ _ => .nil) (da_cons (de_cell (dv 0)) (da_cons (de_stl (dv 2)) da_nil))) de_int (nomark _)) (dss_one (ds_asg de_bl (dg_sub (W := WF) (dv 3) (dv 4) (set_dictU hr.units) ss_dict))) dss_nil)))
    (dss_cons (ds_set (i := 5) sc_law_view.nd rfl (by first | exact Or.inl rfl | exact Or.inr rfl) (de_cell (de_lst da_nil)))
    (dss_cons (ds_forF [0, 2, 4, 6, 7] pw rfl (di_seqD (de_tup (da_cons de_int (da_cons de_int da_nil)))) (dg_name (i := 6) sc_law_view.nd rfl (by first | exact Or.inl rfl | exact Or.inr rfl)) (dss_cons (ds_setLc (i := 7) (k := dFrz) (own := [("_law_y", 8)]) rfl sc_law_view.nd rfl rfl (sw_true rfl rfl rfl (by decide +kernel)) (.inl rfl) (di_range1 (by rfl) T.n_range (da_cons (de_ix ix_seq os_ix (dv 1) de_int (fun _ _ => rfl)) da_nil)) (blkOk_by (N := ["_law_state_here", "_law_size_here", "_law_share", "_law_free", "_law_spot", "_law_sheets", "_law_sheet", "_law_rows", "_law_y", "_law_x"]) (sc := (defScope s_law_view)) (by decide +kernel)) (by decide) (fun _ _ _ _ _ => (dg_name (i := 8) sc_law_view.nd rfl (by first | exact Or.inl rfl | exact Or.inr rfl))) (fun _ _ _ _ _ => dts_nil) (fun _ _ _ _ _ => (de_callB (cr_sum rfl) cs_sum (by rfl) T.n_sum bb_sum (da_cons (de_lc (own := [("_law_x", 9)]) rfl sc_law_view.nd (di_range1 (by rfl) T.n_range (da_cons (de_ix ix_seq os_ix (dv 1) de_int (fun _ _ => rfl)) da_nil)) (blkOk_by (N := ["_law_state_here", "_law_size_here", "_law_share", "_law_free", "_law_spot", "_law_sheets", "_law_sheet", "_law_rows", "_law_y", "_law_x"]) (sc := (relS _ (defScope s_law_view))) (by decide +kernel)) (by decide) (fun _ _ _ _ _ => (dg_name (i := 9) sc_law_view.nd rfl (by first | exact Or.inl rfl | exact Or.inr rfl))) (fun _ _ _ _ _ => (dts_one (dt_cmp (opA_in hr.units) os_memA (de_tup (da_cons (de_frz (dv 6)) (da_cons (de_frz (dv 9)) (da_cons (de_frz (dv 8)) da_nil)))) (dv 3) (by rfl)))) (fun _ _ _ _ _ => (de_op opA_shl os_shlA de_int (dv 9)))) da_nil))))
    (dss_one (ds_expr (de_bm PySem.F.plainAttrs_list PySem.F.slot_list_append PySem.F.type_list_append mt_append rc_lst ms_append (dv 5) (da_cons (de_frz (de_callTy call_tuple_of cs_tuple (by rfl) T.n_tuple bt_tuple (da_cons (dv 7) da_nil))) da_nil))))))
    (dss_one (ds_ret (de_lst (da_cons (de_frz (de_tup (da_cons (de_frz (dv 1)) (da_cons (de_frz (de_ix ix_seq os_ix (dv 5) de_int (fun _ _ => rfl))) (da_cons (de_frz (de_ix ix_seq os_ix (dv 5) de_int (fun _ _ => rfl))) da_nil))))) (da_cons (de_frz (de_fzd (dv 3))) da_nil))))))))))) ?_
  rintro es μ q x - ⟨n, w, h, rfl, hs, ⟨hw, hh⟩, k⟩
  have hn := hs.lt
  have hfl := fl3_le hw hh
  ((try walk_at "dx25"); repeat (walk_at "one" <;> (try walk_at "dx25")))
  intro r r0 r1
  ((try walk_at "dx25"); repeat (walk_at "one" <;> (try walk_at "dx25")))
  refine pick_at r0 (by simpa using r1) ?_
  intro d hd
  obtain ⟨m, rfl, m0, m5⟩ : ∃ m : Int, d = .int m ∧ 1 ≤ m ∧ m ≤ 9 := by
    simp only [List.mem_cons, List.not_mem_nil, or_false] at hd
    rcases hd with rfl | rfl | rfl | rfl | rfl
    all_goals exact ⟨_, rfl, by omega, by omega⟩
  ((try walk_at "dx25"); repeat (walk_at "one" <;> (try walk_at "dx25")))
  refine for_stD (as := fl3 w h) (en := spD) (fun i (cs : List Sp3) => cs.length ≤ i ∧ (∀ c ∈ cs, c ∈ fl3 w h) ∧ cs.Nodup) (fun η _ => η) (fun _ cs => μ ++ [.dct (cs.map spE)]) [] rfl rfl ⟨Nat.le_refl _, by simp, .nil⟩ (fun _ => trivial) ?_ ?_
  · rintro i c cs J hi ⟨hl, hin, hnd⟩ hJ
    have hc := List.mem_of_getElem? hi
    have hi' := get_lt hi
    ((try walk_at "dx25"); repeat (walk_at "one" <;> (try walk_at "dx25")))
    intro r2 a0 a1
    split
    · have yes := hJ (insA cs c) ⟨by have : (insA cs c).length ≤ cs.length + 1 := (by unfold insA; split <;> simp); omega, fun x hx => (mem_insA.mp hx).elim (hin x) fun e => e ▸ hc, nodup_insA hnd _⟩
      ((try walk_at "dx25"); repeat (walk_at "one" <;> (try walk_at "dx25")))
      (try walk_at "ok")
      (have j := yes; simp only [List.range_succ, List.map_append, List.map_cons, List.map_nil, fg_cons, fg_nil, List.set_cons_succ, List.set_cons_zero] at j; exact j)
    · (have j := hJ cs ⟨by omega, hin, hnd⟩; simp only [List.range_succ, List.map_append, List.map_cons, List.map_nil, fg_cons, fg_nil, List.set_cons_succ, List.set_cons_zero] at j; exact j)
  · rintro cs ⟨hl, hin, hnd⟩
    have hk := k cs hnd hin
    ((try walk_at "dx25"); repeat (walk_at "one" <;> (try walk_at "dx25")))
    refine for_st (as := [(0 : Int), 1]) (h := fun k : Int => EV.dat (.int k)) (fun i (n : Nat) => n = i) (fun η _ => η) (fun _ n => μ ++ [.dct (cs.map spE), .lst ((List.range n).map fun k : Nat => shD (s3 w h (k : Int) cs))]) 0 rfl rfl rfl (fun _ => trivial) ?_ ?_
    · rintro i a n J hi rfl hJ
      obtain ⟨rfl, hn2⟩ : a = (n : Int) ∧ n < 2 := by
        match n, hi with
        | 0, hi => exact ⟨by simpa using hi.symm, by omega⟩
        | 1, hi => exact ⟨by simpa using hi.symm, by omega⟩
        | n + 2, hi => simp at hi
      ((try walk_at "dx25"); repeat (walk_at "one" <;> (try walk_at "dx25")))
      refine lc_rng (f := fun y : Nat => .int ((rowB w fun x : Nat => decide (((n : Int), (x : Int), (y : Int)) ∈ cs) : Nat) : Int)) (n := h) (by omega) trivial (fun y K hy hK => ?e) ?_
      case e =>
        (try walk_at "dx25")
        refine lc_rngF (n := w) (p := fun x : Nat => decide (((n : Int), (x : Int), (y : Int)) ∈ cs)) (f := fun x : Nat => .int (1 * 2 ^ (0 + (x : Int)).toNat)) (by omega) trivial (fun x K K' hx hK => ?e2) ?_
        case e2 =>
          (try walk_at "dx25")
          simp only [Int.zero_add, decide_eq_true_eq] at hK ⊢
          exact hK
        have e : ((List.range w).filter fun x : Nat => decide (((n : Int), (x : Int), (y : Int)) ∈ cs)).map (fun x : Nat => PyData.int (1 * 2 ^ (0 + (x : Int)).toNat)) = (((List.range w).filter fun x : Nat => decide (((n : Int), (x : Int), (y : Int)) ∈ cs)).map fun x : Nat => (2 : Int) ^ x).map .int := by
          rw [List.map_map]
          refine List.map_congr_left fun x _ => ?_
          simp
        rw [e]
        (try walk_at "dx25")
        rw [sum_bits]
        (try walk_at "dx25")
        exact hK
      have e : (List.range h).map (fun y : Nat => PyData.int ((rowB w fun x : Nat => decide (((n : Int), (x : Int), (y : Int)) ∈ cs) : Nat) : Int)) = (s3 w h n cs).map fun n : Nat => .int (n : Int) := by
        unfold s3 sheetB
        rw [List.map_map]
        rfl
      rw [e]
      ((try walk_at "dx25"); repeat (walk_at "one" <;> (try walk_at "dx25")))
      have go := hJ (n + 1) rfl
      (try walk_at "ok")
      (have j := go; simp only [List.range_succ, List.map_append, List.map_cons, List.map_nil, fg_cons, fg_nil, List.set_cons_succ, List.set_cons_zero] at j; exact j)
    · rintro n rfl
      ((try walk_at "dx25"); repeat (walk_at "one" <;> (try walk_at "dx25")))
      exact ⟨_, rfl, _, rfl, hk⟩
local macro_rules | `(tactic| walk_at "dx26") => `(tactic| simp (disch := first | assumption | omega) only [List.length_cons, List.length_nil, Nat.zero_add, Nat.reduceAdd, ↓exitQ_dat, startD, List.map_cons, List.map_nil, Nat.reduceSub, List.replicate, List.cons_append, List.nil_append, ↓x_dStl, ↓x_dTup, ↓x_aCons, ↓x_dFrz, ↓x_dOp, ↓x_dC, ↓x_dCall, ↓x_dCell, ↓dVar_0, ↓old_loc, ↓cel_loc, ↓x_aNil, ↓aO_cons, ↓nN_loc, ↓nN_dat, ↓aO_nil, Bool.and_true, List.append_nil, ↓wDs_cons, ↓wDs_nil, nle_h, ↓stl_dat, List.set_cons_succ, List.set_cons_zero, true_and, nextA_eq, ilt_h, ↓add_int, ↓wD_dat, isR_h, ↓x_tVal, ↓eq_dd, ↓noD_i, and_true, dep_int, ↓wB_b, eqv_int, decide_eq_true_eq, ↓dVar_1, ↓old_dat, ↓tk_0, ↓x_dLst, ↓stl_new, ↓x_iRange1, ↓ix_tupD, at_nn, Int.reduceToNat, List.getElem?_cons_zero, Option.some.injEq, exists_eq_left', ↓rng1_i, ile_h, Int.toNat_natCast, ↓x_gNm, ↓fg_cons, ↓fg_nil, ↓x_lc, List.getElem?_cons_succ, cl_dat, wipeD, dVar_3, dVar_2, ↓add_ln, List.length_map, ↓add_nn, List.length_append, ↓cl_dat, List.append_assoc, ↓cl_none, ↓cl_nil, ↓x_dCB, ↓srt_spl, ↓exitQ_new, oGt, oShlA, ↓ix_new, ↓x_dNewD, ↓cell_nd, ↓x_iSeqD, ↓e_law_floor, ↓seqDK_l, ↓dVar_2, cl_loc, isR_app, ↓oI0_ii, ↓tk_a1, ↓x_gSb, ↓dVar_3, ↓dVar_4, ↓setD_sp, ↓get_a0, ↓set_a0, tk_a1, lcD_d, nlt_h, ↓putE_sp, ↓cel_new, ↓seqDK_t, ↓ix_sz, ↓x_oSum, dVar_1, dVar_9, ↓oI_ii, csh_h, ↓c_memA, dVar_8, dVar_6, memC_d, ↓keysP_i, ↓keysP_nil, Bool.false_eq_true, hasKs_sp, if_false, ↓tk_a2, ↓lstK_new, ↓ints_k, ↓wD_new, ↓x_dBM, ↓dVar_5, ↓c_isL, ↓get_a1, lcR_l, ↓dVar_7, ↓x_oTuple, ↓sqK_lst, ↓c_app, cl_none, ↓set_a1, tk_a2, lcK_l, ↓c_ix, ↓x_dFzd, ↓c_fzd, fzdC_d, dc3_eq, tk_a0])
local macro_rules | `(tactic| walk_at "dx27") => `(tactic| simp (disch := first | assumption | omega) only [oLe, oLt, oSub, ↓exitQ_dat, startD, List.map_cons, List.map_nil, List.length_cons, List.length_nil, Nat.zero_add, Nat.reduceAdd, Nat.reduceSub, List.replicate, List.cons_append, List.nil_append, ↓x_dCell, ↓x_dLst, ↓x_aNil, ↓wDs_nil, nle_h, ↓cel_new, ↓nN_loc, List.set_cons_succ, List.set_cons_zero, true_and, ↓x_iSeqD, ↓x_aCons, ↓x_dFrz, ↓x_dTup, ↓x_dC, ↓x_dUn, ↓neg_i, ↓wD_dat, ↓wDs_cons, ↓seqDK_n, ↓x_gNm, ↓nN_dat, List.length_append, ↓fg_cons, ↓fg_nil, ↓x_dStl, ↓x_dOp, ↓dVar_1, ↓old_dat, ↓ix_sp, ↓ix_tupD, at_nn, Int.reduceToNat, List.getElem?_cons_zero, Option.some.injEq, List.getElem?_cons_succ, ↓dVar_3, ↓stl_dat, exists_eq_left', ↓add_int, ↓x_tAndD, ↓x_tVal, ↓dVar_4, ↓dVar_0, cl_dat, cl_loc, ↓cl_none, ↓cl_nil, ↓oI0_ii, ↓wB_b, decide_eq_true_eq, Bool.false_eq_true, if_false, ↓tk_a1, ↓x_dBM, ↓dVar_2, ↓old_loc, ↓c_isL, ↓get_a0, lcR_l, ↓c_app, ↓set_a0, tk_a1, lcK_l, List.length_map, nlt_h, List.take_length, ↓c_addn, Nat.reduceLeDiff, ↓exitQ_new, ↓tk_a0, ↓x_dCB, ↓srt_dc3, ↓stl_new, ↓eq_dn, ↓noD_l, noDs_sp, ↓noDs_nil, and_true, dep_lst, depA_nil, eqv_lst, ↓tk_0, ↓x_lc, ↓x_iRange1, ↓x_dCall, ↓cel_loc, ↓aO_cons, ↓aO_nil, Bool.and_true, List.append_nil, nextA_eq, isR_h, ilt_h, ↓rng1_i, ile_h, wipeD, dVar_3, ↓lnD_lst, dVar_0, ↓nextA_eq, ↓ix_lstD])
/-! ### the law's own steps -/
def wys : List Sp3 := [(0, -1, 0), (0, 0, -1), (0, 0, 1), (0, 1, 0)]
def mvS (c a : Sp3) : Sp3 := (c.1, c.2.1 + a.2.1, c.2.2 + a.2.2)
def nsL (w h : Nat) (c : Sp3) : List Sp3 := (wys.map (mvS c)).filter (in3 w h) ++ [(1 - c.1, c.2.1, c.2.2)]
theorem wys_nb (c : Sp3) : wys.map (mvS c) = [(c.1, c.2.1 + -1, c.2.2 + 0), (c.1, c.2.1 + 0, c.2.2 + -1), (c.1, c.2.1 + 0, c.2.2 + 1), (c.1, c.2.1 + 1, c.2.2 + 0)] := rfl
theorem mem_nsL {w h : Nat} {c p : Sp3} (hc : in3 w h c = true) : p ∈ nsL w h c ↔ p ∈ nb5 c ∧ in3 w h p = true := by
  unfold nsL
  rw [List.mem_append, List.mem_filter, List.mem_singleton, wys_nb, mem_nb5]
  simp only [List.mem_cons, List.not_mem_nil, or_false, Int.add_zero, ← Int.sub_eq_add_neg]
  have hx : in3 w h (1 - c.1, c.2.1, c.2.2) = true := hc
  constructor
  · rintro (⟨a | a | a | a, b⟩ | a)
    · exact ⟨.inl a, b⟩
    · exact ⟨.inr (.inl a), b⟩
    · exact ⟨.inr (.inr (.inl a)), b⟩
    · exact ⟨.inr (.inr (.inr (.inl a))), b⟩
    · exact ⟨.inr (.inr (.inr (.inr a))), by rw [a]; exact hx⟩
  · rintro ⟨a | a | a | a | a, b⟩
    · exact .inl ⟨.inl a, b⟩
    · exact .inl ⟨.inr (.inl a), b⟩
    · exact .inl ⟨.inr (.inr (.inl a)), b⟩
    · exact .inl ⟨.inr (.inr (.inr a)), b⟩
    · exact .inr a
theorem len_nsL (w h : Nat) (c : Sp3) : (nsL w h c).length ≤ 5 := by
  unfold nsL
  rw [List.length_append]
  have := List.length_filter_le (in3 w h) (wys.map (mvS c))
  simp only [List.length_singleton, List.length_map, wys, List.length_cons, List.length_nil] at *
  omega
def sp_law_near_steps : SpD := fun es μ q x => ∃ (w : Nat) (h : Nat) (c : Sp3), es = [.dat (szD w h), .dat (spD c)] ∧ (q (.new ((nsL w h c).map spD)) μ)
theorem e_law_near_steps {w : Nat} {h : Nat} {c : Sp3} {μ : Mu} {q : PQ} {x : XQ} : sp_law_near_steps [.dat (szD w h), .dat (spD c)] μ q x = (q (.new ((nsL w h c).map spD)) μ) := by
  refine propext ⟨fun hyp0 => ?_, fun hyp0 => ⟨w, h, c, rfl, hyp0⟩⟩
  obtain ⟨w', h', c', eq0, hyp0⟩ := hyp0
  simp only [List.cons.injEq, Exn.mk.injEq, EV.at.injEq, eq_self, EV.dat.injEq, EV.loc.injEq, EV.new.injEq, EV.ro.injEq, EV.exc.injEq, EV.per.injEq, PyData.int.injEq, PyData.str.injEq, PyData.bool.injEq, PyData.list.injEq, PyData.tuple.injEq, and_true, true_and, and_assoc, map_int_inj, szD_inj, spD_inj] at eq0
  obtain ⟨rfl, rfl, rfl⟩ := eq0
  exact hyp0
theorem ok_law_near_steps (T : Top K mg) : DefAt P w K mg base "_law_near_steps" 1 ["_law_size_here", "_law_spot"] [] [] sp_law_near_steps := by
  refine def_ok sp_law_near_steps T.F_law_near_steps sc_law_near_steps T.m_law_near_steps T.b_law_near_steps (fun cdv A outer s H E hr tk pw => (dss_cons (ds_set (i := 2) sc_law_near_steps.nd rfl (by first | exact Or.inl rfl | exact Or.inr rfl) (de_cell (de_lst da_nil)))
    (dss_cons (ds_forF [3, 4] pw rfl (di_seqD (de_lst (da_cons (de_frz (de_tup (da_cons de_int (da_cons (de_frz (de_un un_neg us_neg de_int)) (da_cons de_int da_nil))))) (da_cons (de_frz (de_tup (da_cons de_int (da_cons de_int (da_cons (de_frz (de_un un_neg us_neg de_int)) da_nil))))) (da_cons (de_frz (de_tup (da_cons de_int (da_cons de_int (da_cons de_int da_nil))))) (da_cons (de_frz (de_tup (da_cons de_int (da_cons de_int (da_cons de_int da_nil))))) da_nil)))))) (dg_name (i := 3) sc_law_near_steps.nd rfl (by first | exact Or.inl rfl | exact Or.inr rfl)) (dss_cons (ds_set (i := 4) sc_law_near_steps.nd rfl (by first | exact Or.inl rfl | exact Or.inr rfl) (de_stl (de_tup (da_cons (de_frz (de_ix ix_seq os_ix (dv 1) de_int (fun _ _ => rfl))) (da_cons (de_frz (de_op opA_add os_add (de_ix ix_seq os_ix (dv 1) de_int (fun _ _ => rfl)) (de_ix ix_seq os_ix (dv 3) de_int (fun _ _ => rfl)))) (da_cons (de_frz (de_op opA_add os_add (de_ix ix_seq os_ix (dv 1) de_int (fun _ _ => rfl)) (de_ix ix_seq os_ix (dv 3) de_int (fun _ _ => rfl)))) da_nil))))))
    (dss_one (ds_if (dw_and (dt_cmp op_le os_le de_int (de_ix ix_seq os_ix (dv 4) de_int (fun _ _ => rfl)) (nomark _)) (dw_and (dt_cmp op_lt os_lt (de_ix ix_seq os_ix (dv 4) de_int (fun _ _ => rfl)) (de_ix ix_seq os_ix (dv 0) de_int (fun _ _ => rfl)) (nomark _)) (dw_and (dt_cmp op_le os_le de_int (de_ix ix_seq os_ix (dv 4) de_int (fun _ _ => rfl)) (nomark _)) (dw_and1 (dt_cmp op_lt os_lt (de_ix ix_seq os_ix (dv 4) de_int (fun _ _ => rfl)) (de_ix ix_seq os_ix (dv 0) de_int (fun _ _ => rfl)) (nomark _)))))).dt (dss_one (ds_expr (de_bm PySem.F.plainAttrs_list PySem.F.slot_list_append PySem.F.type_list_append mt_append rc_lst ms_append (dv 2) (da_cons (de_frz (dv 4)) da_nil)))) dss_nil))))
    (dss_one (ds_ret (de_op opA_add os_add (dv 2) (de_lst (da_cons (de_frz (de_tup (da_cons (de_frz (de_op op_sub os_sub de_int (de_ix ix_seq os_ix (dv 1) de_int (fun _ _ => rfl)))) (da_cons (de_frz (de_ix ix_seq os_ix (dv 1) de_int (fun _ _ => rfl))) (da_cons (de_frz (de_ix ix_seq os_ix (dv 1) de_int (fun _ _ => rfl))) da_nil))))) da_nil)))))))) ?_
  rintro es μ q x - ⟨w, h, c, rfl, k⟩
  simp only [szD_eq]
  ((try walk_at "dx27"); repeat (walk_at "one" <;> (try walk_at "dx27")))
  refine for_stD (as := wys) (en := spD) (fun i (fs : List Sp3) => fs = ((wys.take i).map (mvS c)).filter (in3 w h)) (fun η _ => η) (fun _ fs => μ ++ [.lst (fs.map spD)]) [] rfl rfl rfl (fun _ => trivial) ?_ ?_
  · rintro i a fs J hi rfl hJ
    have hi' : i < 4 := get_lt hi
    have hl : ((((wys.take i).map (mvS c)).filter (in3 w h)).length) ≤ 4 := by
      refine Nat.le_trans (List.length_filter_le _ _) ?_
      rw [List.length_map, List.length_take]
      omega
    have e : ((wys.take (i + 1)).map (mvS c)).filter (in3 w h) = ((wys.take i).map (mvS c)).filter (in3 w h) ++ (if in3 w h (mvS c a) = true then [mvS c a] else []) := by
      rw [List.take_add_one, hi, List.map_append, List.filter_append]
      simp [List.filter_cons]
    have go := hJ _ rfl
    rw [e] at go
    ((try walk_at "dx27"); repeat (walk_at "one" <;> (try walk_at "dx27")))
    by_cases h1 : 0 ≤ c.2.1 + a.2.1 ∧ c.2.1 + a.2.1 < w ∧ 0 ≤ c.2.2 + a.2.2 ∧ c.2.2 + a.2.2 < h
    · rw [if_pos (in3_iff.mpr h1)] at go
      obtain ⟨z1, z2, z3, z4⟩ := h1
      rw [if_pos z1, if_pos z2, if_pos z3, if_pos z4]
      ((try walk_at "dx27"); repeat (walk_at "one" <;> (try walk_at "dx27")))
      (try walk_at "ok")
      simpa [fg_cons, fg_nil, List.map_append, mvS, spD] using go
    · rw [if_neg (fun z => h1 (in3_iff.mp z)), List.append_nil] at go
      have go' : J _ _ := go
      repeat' split
      all_goals first
        | (exfalso; omega)
        | (((try walk_at "dx27"); repeat (walk_at "one" <;> (try walk_at "dx27"))); simpa [fg_cons, fg_nil] using go)
  · rintro fs rfl
    ((try walk_at "dx27"); repeat (walk_at "one" <;> (try walk_at "dx27")))
    unfold nsL at k
    rw [List.map_append] at k
    refine ⟨?_, k⟩
    have := List.length_filter_le (in3 w h) (wys.map (mvS c))
    have h4 : (wys.map (mvS c)).length = 4 := rfl
    omega
local macro_rules | `(tactic| walk_at "dx28") => `(tactic| simp (disch := first | assumption | omega) only [oLe, oLt, oSub, ↓exitQ_dat, startD, List.map_cons, List.map_nil, List.length_cons, List.length_nil, Nat.zero_add, Nat.reduceAdd, Nat.reduceSub, List.replicate, List.cons_append, List.nil_append, ↓x_dCell, ↓x_dLst, ↓x_aNil, ↓wDs_nil, nle_h, ↓cel_new, ↓nN_loc, List.set_cons_succ, List.set_cons_zero, true_and, ↓x_iSeqD, ↓x_aCons, ↓x_dFrz, ↓x_dTup, ↓x_dC, ↓x_dUn, ↓neg_i, ↓wD_dat, ↓wDs_cons, ↓seqDK_n, ↓x_gNm, ↓nN_dat, List.length_append, ↓fg_cons, ↓fg_nil, ↓x_dStl, ↓x_dOp, ↓dVar_1, ↓old_dat, ↓ix_sp, ↓ix_tupD, at_nn, Int.reduceToNat, List.getElem?_cons_zero, Option.some.injEq, List.getElem?_cons_succ, ↓dVar_3, ↓stl_dat, exists_eq_left', ↓add_int, ↓x_tAndD, ↓x_tVal, ↓dVar_4, ↓dVar_0, cl_dat, cl_loc, ↓cl_none, ↓cl_nil, ↓oI0_ii, ↓wB_b, decide_eq_true_eq, Bool.false_eq_true, if_false, ↓tk_a1, ↓x_dBM, ↓dVar_2, ↓old_loc, ↓c_isL, ↓get_a0, lcR_l, ↓c_app, ↓set_a0, tk_a1, lcK_l, List.length_map, nlt_h, List.take_length, ↓c_addn, Nat.reduceLeDiff, ↓exitQ_new, ↓tk_a0, ↓x_dCB, ↓srt_dc3, ↓stl_new, ↓eq_dn, ↓noD_l, noDs_sp, ↓noDs_nil, and_true, dep_lst, depA_nil, eqv_lst, ↓tk_0, ↓x_lc, ↓x_iRange1, ↓x_dCall, ↓cel_loc, ↓aO_cons, ↓aO_nil, Bool.and_true, List.append_nil, nextA_eq, isR_h, ilt_h, ↓rng1_i, ile_h, wipeD, dVar_3, ↓lnD_lst, dVar_0, ↓nextA_eq, ↓ix_lstD])
def sp_law_some : SpD := fun es μ q x => ∃ (n : Nat) (cs : List Sp3) (m : Int), es = [.loc n, .dat (dc3 cs), .dat (.int m)] ∧ (isR μ n ∧ (0 ≤ m ∧ m ≤ 100) ∧ cs.length ≤ 1000 ∧ ∀ ss : List Sp3, (∀ s ∈ ss, s ∈ cs) → (ss.length : Int) ≤ m → q (.new (ss.map spD)) μ)
theorem e_law_some {n : Nat} {cs : List Sp3} {m : Int} {μ : Mu} {q : PQ} {x : XQ} : sp_law_some [.loc n, .dat (dc3 cs), .dat (.int m)] μ q x = (isR μ n ∧ (0 ≤ m ∧ m ≤ 100) ∧ cs.length ≤ 1000 ∧ ∀ ss : List Sp3, (∀ s ∈ ss, s ∈ cs) → (ss.length : Int) ≤ m → q (.new (ss.map spD)) μ) := by
  refine propext ⟨fun hyp0 => ?_, fun hyp0 => ⟨n, cs, m, rfl, hyp0⟩⟩
  obtain ⟨n', cs', m', eq0, hyp0⟩ := hyp0
  simp only [List.cons.injEq, Exn.mk.injEq, EV.at.injEq, eq_self, EV.dat.injEq, EV.loc.injEq, EV.new.injEq, EV.ro.injEq, EV.exc.injEq, EV.per.injEq, PyData.int.injEq, PyData.str.injEq, PyData.bool.injEq, PyData.list.injEq, PyData.tuple.injEq, and_true, true_and, and_assoc, map_int_inj, dc3_inj] at eq0
  obtain ⟨rfl, rfl, rfl⟩ := eq0
  exact hyp0
theorem ok_law_some (T : Top K mg) : DefAt P w K mg base "_law_some" 2 ["_law_state_here", "_law_free", "_law_most"] [] [] sp_law_some := by
  refine def_ok sp_law_some T.F_law_some sc_law_some T.m_law_some T.b_law_some (fun cdv A outer s H E hr tk pw => (dss_cons (ds_set (i := 3) sc_law_some.nd rfl (by first | exact Or.inl rfl | exact Or.inr rfl) (de_stl (de_callB (call_sortA rfl hr.units) cs_sortA (by rfl) T.n_sorted bb_sorted (da_cons (dv 1) da_nil))))
    (dss_cons (ds_if (dt_cmp (opA_eq hr.units) os_eq (dv 3) (de_lst da_nil) (nomark _)) (dss_one (ds_ret (de_lst da_nil))) dss_nil)
    (dss_one (ds_ret (de_lc (own := [("_law_k", 4)]) rfl sc_law_some.nd (di_range1 (by rfl) T.n_range (da_cons (de_call (ok_law_next T) hr (by decide) (by rfl) tk (fun _ _ => .nil) (da_cons (de_cell (dv 0)) (da_cons (de_stl (de_op opA_add os_add (dv 2) de_int)) da_nil))) da_nil)) (blkOk_by (N := ["_law_state_here", "_law_free", "_law_most", "_law_spots", "_law_k"]) (sc := (defScope s_law_some)) (by decide +kernel)) (by decide) (fun _ _ _ _ _ => (dg_name (i := 4) sc_law_some.nd rfl (by first | exact Or.inl rfl | exact Or.inr rfl))) (fun _ _ _ _ _ => dts_nil) (fun _ _ _ _ _ => (de_ix ix_seq os_ix (dv 3) (de_call (ok_law_next T) hr (by decide) (by rfl) tk0 (fun _ _ => .nil) (da_cons (de_cell (dv 0)) (da_cons (de_stl (de_callB call_lenA cs_lenD (by rfl) T.n_len bb_len (da_cons (dv 3) da_nil))) da_nil))) (fun _ _ => rfl))))))))) ?_
  rintro es μ q x - ⟨n, cs, m, rfl, hs, ⟨m0, m1⟩, hl, k⟩
  have hn := hs.lt
  have hml : (cs.mergeSort (leO ltS)).length = cs.length := List.length_mergeSort _
  ((try walk_at "dx28"); repeat (walk_at "one" <;> (try walk_at "dx28")))
  by_cases hc : cs = []
  · subst hc
    rw [if_pos (by rw [List.mergeSort_nil]; exact eqvA_nn)]
    ((try walk_at "dx28"); repeat (walk_at "one" <;> (try walk_at "dx28")))
    exact k [] (by simp) (by simpa using m0)
  · have hne : 0 < cs.length := List.length_pos_iff.mpr hc
    rw [if_neg (by
      obtain ⟨a, as, e⟩ : ∃ a as, cs.mergeSort (leO ltS) = a :: as := by
        cases h : cs.mergeSort (leO ltS) with
        | nil => rw [h] at hml; simp at hml; omega
        | cons a as => exact ⟨a, as, rfl⟩
      rw [e]
      simp [eqvA_cn])]
    ((try walk_at "dx28"); repeat (walk_at "one" <;> (try walk_at "dx28")))
    intro r r0 r1
    ((try walk_at "dx28"); repeat (walk_at "one" <;> (try walk_at "dx28")))
    refine lc_rel (en := spD) (fun c => c ∈ cs) (by omega) (by trivial) (fun a K ha hK => ?e) fun ys h1 h2 => ?_
    case e =>
      (try walk_at "dx28")
      intro z z0 z1
      obtain ⟨d, h1, h2⟩ := pick_at (xs := (cs.mergeSort (leO ltS)).map spD) (k := fun d => K d μ) z0 (by simpa using z1) fun d hd => by
        obtain ⟨y, hy, rfl⟩ := List.mem_map.mp hd
        exact hK y (List.mem_mergeSort.mp hy)
      exact ⟨d, (at_nn z0).trans h1, h2⟩
    · (try walk_at "dx28")
      exact k ys h2 (by omega)
local macro_rules | `(tactic| walk_at "dx29") => `(tactic| simp (disch := first | assumption | omega) only [oLe, oLt, oSub, ↓exitQ_dat, startD, List.map_cons, List.map_nil, List.length_cons, List.length_nil, Nat.zero_add, Nat.reduceAdd, Nat.reduceSub, List.replicate, List.cons_append, List.nil_append, ↓x_dCell, ↓x_dLst, ↓x_aNil, ↓wDs_nil, nle_h, ↓cel_new, ↓nN_loc, List.set_cons_succ, List.set_cons_zero, true_and, ↓x_iSeqD, ↓x_aCons, ↓x_dFrz, ↓x_dTup, ↓x_dC, ↓x_dUn, ↓neg_i, ↓wD_dat, ↓wDs_cons, ↓seqDK_n, ↓x_gNm, ↓nN_dat, List.length_append, ↓fg_cons, ↓fg_nil, ↓x_dStl, ↓x_dOp, ↓dVar_1, ↓old_dat, ↓ix_sp, ↓ix_tupD, at_nn, Int.reduceToNat, List.getElem?_cons_zero, Option.some.injEq, List.getElem?_cons_succ, ↓dVar_3, ↓stl_dat, exists_eq_left', ↓add_int, ↓x_tAndD, ↓x_tVal, ↓dVar_4, ↓dVar_0, cl_dat, cl_loc, ↓cl_none, ↓cl_nil, ↓oI0_ii, ↓wB_b, decide_eq_true_eq, Bool.false_eq_true, if_false, ↓tk_a1, ↓x_dBM, ↓dVar_2, ↓old_loc, ↓c_isL, ↓get_a0, lcR_l, ↓c_app, ↓set_a0, tk_a1, lcK_l, List.length_map, nlt_h, List.take_length, ↓c_addn, Nat.reduceLeDiff, ↓exitQ_new, ↓tk_a0, ↓x_dCB, ↓srt_dc3, ↓stl_new, ↓eq_dn, ↓noD_l, noDs_sp, ↓noDs_nil, and_true, dep_lst, depA_nil, eqv_lst, ↓tk_0, ↓x_lc, ↓x_iRange1, ↓x_dCall, ↓cel_loc, ↓aO_cons, ↓aO_nil, Bool.and_true, List.append_nil, nextA_eq, isR_h, ilt_h, ↓rng1_i, ile_h, wipeD, dVar_3, ↓lnD_lst, dVar_0, ↓nextA_eq, ↓ix_lstD])
local macro_rules | `(tactic| walk_at "dx30") => `(tactic| simp (disch := first | assumption | omega) only [↓x_dOp, List.map_cons, List.map_nil, Nat.reduceSub, List.length_cons, List.length_nil, Nat.zero_add, List.replicate, List.append_nil, ↓dVar_0, ↓old_dat, dVar_1, ↓x_rSeq, Nat.reduceAdd, startD, List.cons_append, List.nil_append, ↓x_dStl, ↓x_dC, ↓x_dCall, ↓x_aCons, ↓x_dCell, ↓old_loc, ↓cel_loc, ↓x_aNil, ↓aO_cons, ↓nN_loc, ↓nN_dat, ↓aO_nil, Bool.and_true, List.set_cons_succ, List.set_cons_zero, nextA_eq, isR_h, ilt_h, ↓add_int, ↓stl_dat, true_and, ↓x_dNewD, ↓cell_nd, ↓x_iSeqD, ↓dVar_1, ↓e_law_floor, nle_h, and_true, ↓stl_new, ↓seqDK_l, ↓x_gNm, List.length_append, ↓fg_cons, ↓fg_nil, ↓x_dFrz, ↓x_dLst, ↓dVar_2, ↓wD_dat, ↓dVar_3, ↓wDs_cons, ↓wDs_nil, ↓dVar_5, ↓ix_sp, ↓ix_tupD, at_nn, Int.reduceToNat, List.getElem?_cons_zero, Option.some.injEq, ↓x_gSb, ↓dVar_4, ↓setD_sp, cl_loc, ↓cl_none, ↓cl_dat, ↓cl_nil, exists_eq_left', ↓ix_new, ↓get_a0, ↓set_a0, tk_a1, lcD_d, List.length_map, ↓putV, ↓e_by_sheet, μTab_app, ↓isNum_i, ile_h, decide_true, ↓stl_per, ↓nN_per, ↓tk_a0, if_true, ↓x_iRange1, isR_app, ↓rng1_i, ↓x_lc, ↓x_dCB, ↓c_srt, ↓srtC_V, ↓seqDK_n, ↓x_tVal, wipeD, dVar_5, dVar_0, ↓nextA_eq, ↓eq_dd, ↓noD_i, dep_int, ↓wB_b, eqv_int, decide_eq_true_eq, ↓tk_a1, ↓wD_new, ↓dVar_6, ↓old_per, ↓dVar_8, ↓dVar_9, ↓e_dearer, ↓dgetV_loc, ↓cl_per, ↓min_ii, Option.map_none, Option.map_some, ↓x_rRet, ↓x_dLstT, ↓x_dFzd, ↓trsK_cons, ↓trsK_nil, ↓x_exitC, ↓ex_newo, dVar_4, ↓c_fzd, dVar_6, ↓trK_p, fzdC_d, ↓trK_d, dcV_eq, tk_a0, List.append_assoc, ↓dVar_10, ↓get_a1, ↓set_a1, tk_a2, nlt_h, List.getElem?_cons_succ, lockE_l, lockC_d, ↓x_dLam, ↓x_mkK, ↓capK_cons, ↓capK_nil, ↓e_heavier, evK_s, cl_none, ↓max_ii])
/-- some of the items -/
theorem lc_subD {α : Type} {as : List α} {en : α → PyData} {G : Mu → Prop} {g : TDG} {tt : TDT} {te : TDE} {vs : List Nat} {η : DEnv} {q : PQ} {μ1 : Mu} (hz : as.length ≤ 100000) (hG : G μ1)
    (hs : ∀ (a : α) (K : PyData → Mu → Prop) (K' : Mu → Prop), a ∈ as → K (en a) μ1 → K' μ1 → g (.dat (en a)) (wipeD η vs) μ1 fun η2 μ2 => tt η2 μ2 (fun b μ3 => if b = true then te η2 μ3 (fun ev μ4 => withDat μ4 ev fun d μ5 => K d (μ5.take μ1.length)) EF else K' (μ3.take μ1.length)) EF)
    (hq : ∀ ys : List α, ys.Sublist as → q (.new (ys.map en)) μ1) : LcG g tt te vs η q ((as.map en).map .dat) G μ1 := by
  rw [List.map_map]
  refine lc_inv (h := EV.dat ∘ en) (fun i acc μ => μ = μ1 ∧ ∃ ys : List α, acc = ys.map en ∧ ys.length ≤ i ∧ ys.Sublist (as.take i)) hz ⟨rfl, [], rfl, Nat.le_refl _, by simp⟩ ?_ ?_ ?_
  · rintro i acc μ ⟨rfl, ys, rfl, hl, _⟩
    exact ⟨hG, by rw [List.length_map]; exact hl⟩
  · rintro i a acc μ ha ⟨rfl, ys, rfl, hl, hR⟩
    have hm := List.mem_of_getElem? ha
    have ht : as.take (i + 1) = as.take i ++ [a] := by rw [List.take_add_one, ha]; rfl
    exact hs a (fun d μ5 => μ5 = μ ∧ ∃ zs : List α, ys.map en ++ [d] = zs.map en ∧ zs.length ≤ i + 1 ∧ zs.Sublist (as.take (i + 1))) (fun μ5 => μ5 = μ ∧ ∃ zs : List α, ys.map en = zs.map en ∧ zs.length ≤ i + 1 ∧ zs.Sublist (as.take (i + 1))) hm
      ⟨rfl, ys ++ [a], by simp, by simp; exact hl, by rw [ht]; exact hR.append (List.Sublist.refl _)⟩ ⟨rfl, ys, rfl, by omega, by rw [ht]; exact hR.trans (List.sublist_append_left _ _)⟩
  · rintro acc μ ⟨rfl, ys, rfl, hl, hR⟩
    rw [List.take_length] at hR
    exact hq ys hR
/-- a dict of weights -/
def wtV (f : Sp3 → Int) (fl : List Sp3) : Sv := fl.map fun c => (c, f c)
theorem ky_wt (f : Sp3 → Int) (fl : List Sp3) : kyV (wtV f fl) = fl := by
  unfold kyV wtV
  rw [List.map_map]
  exact List.map_id fl
def updW (f : Sp3 → Int) (c : Sp3) (v : Int) (x : Sp3) : Int := if x = c then v else f x
theorem ins_wt {f : Sp3 → Int} {fl : List Sp3} {c : Sp3} {v : Int} (h : c ∈ fl) : insV (wtV f fl) c v = wtV (updW f c v) fl := by
  unfold insV
  rw [if_pos (by rw [ky_wt]; exact h)]
  unfold wtV
  rw [List.map_map]
  refine List.map_congr_left fun x _ => ?_
  simp only [Function.comp, updW]
  by_cases e : x = c
  · rw [if_pos e, if_pos e]
  · rw [if_neg e, if_neg e]
theorem get_wt {f : Sp3 → Int} {fl : List Sp3} (hn : fl.Nodup) {c : Sp3} (h : c ∈ fl) : DL.getD ((wtV f fl).map spV) (ky3 c) = some (.int (f c)) :=
  getV (by rw [ky_wt]; exact hn) (List.mem_map.mpr ⟨c, h, rfl⟩)
theorem wt_add {f : Sp3 → Int} {fl : List Sp3} {i : Nat} {c : Sp3} (hn : fl.Nodup) (hi : fl[i]? = some c) : insV (wtV f (fl.take i)) c (f c) = wtV f (fl.take (i + 1)) := by
  have ht : fl.take (i + 1) = fl.take i ++ [c] := by rw [List.take_add_one, hi]; rfl
  rw [insV_new _ (by rw [ky_wt]; intro h; rw [← List.take_append_drop i fl, drop_at hi] at hn; exact (List.nodup_append.mp hn).2.2 c h c List.mem_cons_self rfl), ht]
  unfold wtV
  rw [List.map_append]
  rfl
theorem not_take {fl : List Sp3} {i : Nat} {c : Sp3} (hn : fl.Nodup) (hi : fl[i]? = some c) : c ∉ fl.take i := fun h => by
  rw [← List.take_append_drop i fl, drop_at hi] at hn
  exact (List.nodup_append.mp hn).2.2 c h c List.mem_cons_self rfl
theorem wt_add2 {f : Sp3 → Int} {fl : List Sp3} {i : Nat} {c : Sp3} (v : Int) (hn : fl.Nodup) (hi : fl[i]? = some c) : insV (wtV f (fl.take i)) c v = wtV (updW f c v) (fl.take (i + 1)) := by
  have e : wtV f (fl.take i) = wtV (updW f c v) (fl.take i) := List.map_congr_left fun x hx => by
    unfold updW
    rw [if_neg fun e : x = c => not_take hn hi (by rw [← e]; exact hx)]
  have e2 : v = updW f c v c := by unfold updW; rw [if_pos rfl]
  rw [e]
  conv => lhs; arg 3; rw [e2]
  exact wt_add hn hi
theorem wt_congr {f g : Sp3 → Int} {fl : List Sp3} (h : ∀ c ∈ fl, f c = g c) : wtV f fl = wtV g fl := List.map_congr_left fun x hx => by rw [h x hx]
theorem dear_add {f : Sp3 → Int} {cs : List Sp3} {m : Int} {i : Nat} {c : Sp3} (hn : cs.Nodup) (hi : cs[i]? = some c) : updW (dearW f (cs.take i) m) c (min 9 (dearW f (cs.take i) m c + m)) = dearW f (cs.take (i + 1)) m := by
  have ht : cs.take (i + 1) = cs.take i ++ [c] := by rw [List.take_add_one, hi]; rfl
  have hno := not_take hn hi
  funext x
  unfold updW dearW
  rw [ht]
  by_cases e : x = c
  · subst e
    rw [if_pos rfl, if_neg hno, if_pos (by simp)]
  · rw [if_neg e]
    simp [e]
/-- .. by the greater -/
def mxW (f t : Sp3 → Int) (cs : List Sp3) (c : Sp3) : Int := if c ∈ cs then max (f c) (t c) else f c
theorem mx_add {f t : Sp3 → Int} {cs : List Sp3} {i : Nat} {c : Sp3} (hn : cs.Nodup) (hi : cs[i]? = some c) : updW (mxW f t (cs.take i)) c (max (mxW f t (cs.take i) c) (t c)) = mxW f t (cs.take (i + 1)) := by
  have ht : cs.take (i + 1) = cs.take i ++ [c] := by rw [List.take_add_one, hi]; rfl
  have hno := not_take hn hi
  funext x
  unfold updW mxW
  rw [ht]
  by_cases e : x = c
  · subst e
    rw [if_pos rfl, if_neg hno, if_pos (by simp)]
  · rw [if_neg e]
    simp [e]
/-- weights of a floor -/
def okW (f : Sp3 → Int) : Prop := ∀ c, on2 c → 1 ≤ f c ∧ f c ≤ 9
def B__law_weigh (_P : Program) (_w : World) (_mg : Str → Option Value) (_base : Heap) (_k : Nat) (cs : List EV) (g : PyData → Option Int) : Prop := ∃ (f : Sp3 → Int) (fl : List Sp3), fl.Nodup ∧ cs = [.dat (dcV (wtV f fl))] ∧ g = wgh (fun c => decide (c ∈ fl)) f
def B_law_weigh := B__law_weigh
theorem bd_law_weigh (T : Top K mg) {k : Nat} {cs' : List EV} {g : PyData → Option Int} (hB : B_law_weigh P w mg base k cs' g) : ∃ td : TDE, (∀ (q : Str) (cl : List (Str × Addr)) (c' : Addr) (f : Addr) (A : Around) (outer : List Env) (s : Shared) (H : Hp) (E : XK), Room k (A.deeper (NdefX.envF ⟨"<lambda>", q, lamA (pArg 1 (pAsg (pSt 2 (pIf (pSt 6 (defBody s_law_weigh)))))), [], lamS (pArg 1 (pAsg (pSt 2 (pIf (pSt 6 (defBody s_law_weigh)))))), cl, c'⟩ f s.heap.objs.size)) →
    Takes (NdefX.ncx (L2.CX P w) P w K mg base ["_law_spot", "_law_table"] ⟨"<lambda>", q, lamA (pArg 1 (pAsg (pSt 2 (pIf (pSt 6 (defBody s_law_weigh)))))), [], lamS (pArg 1 (pAsg (pSt 2 (pIf (pSt 6 (defBody s_law_weigh)))))), cl, c'⟩ f A outer s H E) (fun cls d _ H => E cls d H) → DE (NdefX.ncx (L2.CX P w) P w K mg base ["_law_spot", "_law_table"] ⟨"<lambda>", q, lamA (pArg 1 (pAsg (pSt 2 (pIf (pSt 6 (defBody s_law_weigh)))))), [], lamS (pArg 1 (pAsg (pSt 2 (pIf (pSt 6 (defBody s_law_weigh)))))), cl, c'⟩ f A outer s H E) (fun cls d _ H => E cls d H) (lamE (pArg 1 (pAsg (pSt 2 (pIf (pSt 6 (defBody s_law_weigh))))))) td) ∧ ∀ d r, g d = some r → td (startW 2 d cs') [] (intQ r) fun _ _ => False := by
  refine ⟨_, fun q cl c2 f2 A outer s H E hr tk => (de_dget hr.units (dv 1) (dv 0) (fun _ _ => rfl)), ?_⟩
  obtain ⟨f, fl, hn, rfl, rfl⟩ := hB
  intro d r h
  obtain ⟨c, rfl, hc, rfl⟩ := wgh_ex h
  unfold startW
  ((try walk_at "dx30"); repeat (walk_at "one" <;> (try walk_at "dx30")))
  exact dgetV_dat (by rw [ky_wt]; exact hn) (List.mem_map.mpr ⟨c, of_decide_eq_true hc, rfl⟩) (by simp [intQ])
def sp_law_weigh (P : Program) (w : World) (base : Heap) (T : Top K mg) : SpD := fun es μ q x => ∃ (n : Nat) (a : Nat) (b : Nat), es = [.loc n, .dat (szD a b)] ∧ (isR μ n ∧ (a ≤ 10 ∧ b ≤ 10) ∧ (μTab μ T.P_by_sheet "by_sheet.<locals>.<lambda>" ∧ μTab μ T.P_dearer "dearer.<locals>.told" ∧ μTab μ T.P_heavier "heavier.<locals>.<lambda>" ∧ μTab μ T.P_law_weigh "_law_weigh.<locals>.<lambda>") ∧ ∀ (f : Sp3 → Int) (p : Sp3 → Bool) (k : Nat) (ad : Addr), k ≤ 9 → (∀ c ∈ fl3 a b, p c = true) → okW f → q (.newo (.nod .lst ad [.per (wP P w mg base nT k (wgh p f)), .dat (dcV (wtV f (fl3 a b)))])) μ)
theorem e_law_weigh (P : Program) (w : World) (base : Heap) (T : Top K mg) {n : Nat} {a : Nat} {b : Nat} {μ : Mu} {q : PQ} {x : XQ} : sp_law_weigh P w base T [.loc n, .dat (szD a b)] μ q x = (isR μ n ∧ (a ≤ 10 ∧ b ≤ 10) ∧ (μTab μ T.P_by_sheet "by_sheet.<locals>.<lambda>" ∧ μTab μ T.P_dearer "dearer.<locals>.told" ∧ μTab μ T.P_heavier "heavier.<locals>.<lambda>" ∧ μTab μ T.P_law_weigh "_law_weigh.<locals>.<lambda>") ∧ ∀ (f : Sp3 → Int) (p : Sp3 → Bool) (k : Nat) (ad : Addr), k ≤ 9 → (∀ c ∈ fl3 a b, p c = true) → okW f → q (.newo (.nod .lst ad [.per (wP P w mg base nT k (wgh p f)), .dat (dcV (wtV f (fl3 a b)))])) μ) := by
  refine propext ⟨fun hyp0 => ?_, fun hyp0 => ⟨n, a, b, rfl, hyp0⟩⟩
  obtain ⟨n', a', b', eq0, hyp0⟩ := hyp0
  simp only [List.cons.injEq, Exn.mk.injEq, EV.at.injEq, eq_self, EV.dat.injEq, EV.loc.injEq, EV.new.injEq, EV.ro.injEq, EV.exc.injEq, EV.per.injEq, PyData.int.injEq, PyData.str.injEq, PyData.bool.injEq, PyData.list.injEq, PyData.tuple.injEq, and_true, true_and, and_assoc, map_int_inj, szD_inj] at eq0
  obtain ⟨rfl, rfl, rfl⟩ := eq0
  exact hyp0
theorem ok_law_weigh (T : Top K mg) (Bt : BtB mg base) : DefAt P w K mg base "_law_weigh" 4 ["_law_state_here", "_law_size_here"] [] [] (sp_law_weigh P w base T) := by
  refine def_okC (sp_law_weigh P w base T) T.F_law_weigh sc_law_weigh T.m_law_weigh T.b_law_weigh T.kp_law_weigh (fun cells => ⟨_, fun A outer s H E hr hce tk pw => (dsr_cons (ds_set (i := 2) sc_law_weigh.nd rfl (by first | exact Or.inl rfl | exact Or.inr rfl) (de_stl (de_op opA_add os_add de_int (de_call (ok_law_next T) hr (by decide) (by rfl) tk (fun _ _ => .nil) (da_cons (de_cell (dv 0)) (da_cons de_int da_nil))))))
    (dsr_cons (ds_set (i := 3) sc_law_weigh.nd rfl (by first | exact Or.inl rfl | exact Or.inr rfl) (de_stl (de_op opA_add os_add de_int (de_call (ok_law_next T) hr (by decide) (by rfl) tk (fun _ _ => .nil) (da_cons (de_cell (dv 0)) (da_cons de_int da_nil))))))
    (dsr_cons (ds_set (i := 4) sc_law_weigh.nd rfl (by first | exact Or.inl rfl | exact Or.inr rfl) (de_cell de_dnewT))
    (dsr_cons (ds_forF [1, 6, 7, 8, 9] pw rfl (di_seqD (de_stl (de_call (ok_law_floor T) hr (by decide) (by rfl) tk (fun _ _ => .nil) (da_cons (de_stl (dv 1)) da_nil)))) (dg_name (i := 5) sc_law_weigh.nd rfl (by first | exact Or.inl rfl | exact Or.inr rfl)) (dss_one (ds_asg (de_frz (de_ix ix_seq os_ix (de_lst (da_cons (de_frz (dv 2)) (da_cons (de_frz (dv 3)) da_nil))) (de_ix ix_seq os_ix (dv 5) de_int (fun _ _ => rfl)) (fun _ _ => rfl))) (dg_sub (W := WF) (dv 4) (dv 5) (set_dictU hr.units) ss_dict))))
    (dsr_cons (ds_set (i := 6) sc_law_weigh.nd rfl (by first | exact Or.inl rfl | exact Or.inr rfl) (de_stl (de_call (ok_by_sheet (P := P) (w := w) (base := base) T Bt) hr (by decide) (by rfl) tk (fun _ _ => .nil) (da_cons (de_stl (dv 2)) (da_cons (de_stl (dv 3)) da_nil)))))
    (dsr_cons (ds_forF [1, 2, 3, 7, 8, 9] pw rfl (di_range1 (by rfl) T.n_range (da_cons (de_call (ok_law_next T) hr (by decide) (by rfl) tk (fun _ _ => .nil) (da_cons (de_cell (dv 0)) (da_cons de_int da_nil))) da_nil)) (dg_name (i := 7) sc_law_weigh.nd rfl (by first | exact Or.inl rfl | exact Or.inr rfl)) (dss_cons (ds_setLc (i := 8) (k := dFrz) (own := [("_law_spot", 5)]) rfl sc_law_weigh.nd rfl rfl (sw_true rfl rfl rfl (by decide +kernel)) (.inl rfl) (di_seqD (de_callB (call_sortA rfl hr.units) cs_sortA (by rfl) T.n_sorted bb_sorted (da_cons (dv 4) da_nil))) (blkOk_by (N := ["_law_state_here", "_law_size_here", "_law_front", "_law_back", "_law_due", "_law_spot", "_law_weigh_here", "_law_turn", "_law_spots", "_law_more", "_law_table"]) (sc := (defScope s_law_weigh)) (by decide +kernel)) (by decide) (fun _ _ _ _ _ => (dg_name (i := 5) sc_law_weigh.nd rfl (by first | exact Or.inl rfl | exact Or.inr rfl))) (fun _ _ _ _ _ => (dts_one (dt_cmp (opA_eq hr.units) os_eq (de_call (ok_law_next T) hr (by decide) (by rfl) tk0 (fun _ _ => .nil) (da_cons (de_cell (dv 0)) (da_cons de_int da_nil))) de_int (nomark _)))) (fun _ _ _ _ _ => (dv 5)))
    (dss_cons (ds_set (i := 9) sc_law_weigh.nd rfl (by first | exact Or.inl rfl | exact Or.inr rfl) (de_stl (de_call (ok_law_next T) hr (by decide) (by rfl) tk (fun _ _ => .nil) (da_cons (de_cell (dv 0)) (da_cons de_int da_nil)))))
    (dss_cons (ds_set (i := 6) sc_law_weigh.nd rfl (by first | exact Or.inl rfl | exact Or.inr rfl) (de_stl (de_call (ok_dearer (P := P) (w := w) (base := base) T Bt) hr (by decide) (by rfl) tk (fun _ _ => .nil) (da_cons (de_stl (dv 6)) (da_cons (de_stl (dv 8)) (da_cons (de_stl (dv 9)) da_nil))))))
    (dss_one (ds_forF [1, 2, 3, 7, 8] pw rfl (di_seqD (dv 8)) (dg_name (i := 5) sc_law_weigh.nd rfl (by first | exact Or.inl rfl | exact Or.inr rfl)) (dss_one (ds_asg (de_frz (de_callB (call_min2 rfl) cs_min2 (by rfl) T.n_min bb_min (da_cons de_int (da_cons (de_op opA_add os_add (de_dget hr.units (dv 4) (dv 5) (fun _ _ => rfl)) (dv 9)) da_nil)))) (dg_sub (W := WF) (dv 4) (dv 5) (set_dictU hr.units) ss_dict)))))))))
    (dsr_cons (ds_wipe [5] (ds_if (dt_cmp (opA_eq hr.units) os_eq (de_call (ok_law_next T) hr (by decide) (by rfl) tk (fun _ _ => .nil) (da_cons (de_cell (dv 0)) (da_cons de_int da_nil))) de_int (nomark _)) (dss_cons (ds_set (i := 10) sc_law_weigh.nd rfl (by first | exact Or.inl rfl | exact Or.inr rfl) (de_cell de_dnewT))
    (dss_cons (ds_forF [1, 2, 3, 5, 7, 8, 9] pw rfl (di_seqD (de_callB (call_sortA rfl hr.units) cs_sortA (by rfl) T.n_sorted bb_sorted (da_cons (dv 4) da_nil))) (dg_name (i := 5) sc_law_weigh.nd rfl (by first | exact Or.inl rfl | exact Or.inr rfl)) (dss_one (ds_asg (de_frz (de_op opA_add os_add de_int (de_call (ok_law_next T) hr (by decide) (by rfl) tk (fun _ _ => .nil) (da_cons (de_cell (dv 0)) (da_cons de_int da_nil))))) (dg_sub (W := WF) (dv 10) (dv 5) (set_dictU hr.units) ss_dict))))
    (dss_cons (ds_lock 10 (ds_set (i := 6) sc_law_weigh.nd rfl (by first | exact Or.inl rfl | exact Or.inr rfl) (de_stl (de_call (ok_heavier (P := P) (w := w) (base := base) T Bt) hr (by decide) (by rfl) tk (fun _ _ => .nil) (da_cons (de_stl (dv 6)) (da_cons (de_stl (de_lam (nm := "_law_weigh.<locals>.<lambda>") (x := "_law_spot") (fr := ["_law_table"]) (js := [10]) (N := ["_law_spot", "_law_table"]) (B := B_law_weigh P w mg base) (params := lamA (pArg 1 (pAsg (pSt 2 (pIf (pSt 6 (defBody s_law_weigh))))))) (body := lamE (pArg 1 (pAsg (pSt 2 (pIf (pSt 6 (defBody s_law_weigh))))))) (scope := lamS (pArg 1 (pAsg (pSt 2 (pIf (pSt 6 (defBody s_law_weigh))))))) (P := P) (w := w) (mg := mg) (base := base) ⟨rfl, rfl, rfl, rfl⟩ T.hd_law_weigh T.gp_law_weigh Bt rfl hce rfl rfl (show NdefX.ndefB (defScope s_law_weigh) (lamS (pArg 1 (pAsg (pSt 2 (pIf (pSt 6 (defBody s_law_weigh))))))) ["_law_table"] = true by decide +kernel) (NdefX.nscope_by (by decide +kernel)) rfl (fun _ _ _ _ _ _ => rfl) (fun _ _ _ h => bd_law_weigh T h))) da_nil))))))
    (dss_one (ds_forF [0, 1, 2, 3, 5, 7, 8, 9] pw rfl (di_seqD (de_callB (call_sortA rfl hr.units) cs_sortA (by rfl) T.n_sorted bb_sorted (da_cons (dv 4) da_nil))) (dg_name (i := 5) sc_law_weigh.nd rfl (by first | exact Or.inl rfl | exact Or.inr rfl)) (dss_one (ds_asg (de_frz (de_callB (call_max2 rfl) cs_max2 (by rfl) T.n_max bb_max (da_cons (de_dget hr.units (dv 4) (dv 5) (fun _ _ => rfl)) (da_cons (de_dget hr.units (dv 10) (dv 5) (fun _ _ => rfl)) da_nil)))) (dg_sub (W := WF) (dv 4) (dv 5) (set_dictU hr.units) ss_dict)))))))) dss_nil))
    (dsr_ret (de_lstT (da_cons (dv 6) (da_cons (de_fzd (dv 4)) da_nil))))))))))), ?_⟩)
  rintro es μ q x - ⟨n, a, b, rfl, hs, ⟨ha, hb⟩, ⟨hT1, hT2, hT3, hT4⟩, h⟩
  have hn := hs.lt
  have hfl := fl3_le ha hb
  have hnd : (fl3 a b).Nodup := (rise_fl3 a b).nodup ord_sp
  ((try walk_at "dx30"); repeat (walk_at "one" <;> (try walk_at "dx30")))
  intro r r0 r1
  ((try walk_at "dx30"); repeat (walk_at "one" <;> (try walk_at "dx30")))
  intro r2 r3 r4
  ((try walk_at "dx30"); repeat (walk_at "one" <;> (try walk_at "dx30")))
  refine for_stD (as := fl3 a b) (en := spD) (fun i (m : Nat × Option Sp3) => m.1 = i) (fun η m => η.set 5 (m.2.map fun c => .dat (spD c))) (fun _ m => μ ++ [.dct ((wtV (shW (1 + r) (1 + r2)) ((fl3 a b).take m.1)).map spV)]) (0, none) rfl rfl rfl (fun _ => trivial) ?_ ?_
  · rintro i c ⟨m, e⟩ J hi rfl hJ
    have hc := (mem_fl3.mp (List.mem_of_getElem? hi)).1
    have go := hJ (m + 1, some c) rfl
    clear hJ
    have him := get_lt hi
    have add := wt_add (f := shW (1 + r) (1 + r2)) hnd hi
    simp only at add go ⊢
    ((try walk_at "dx30"); repeat (walk_at "one" <;> (try walk_at "dx30")))
    refine ⟨.int (shW (1 + r) (1 + r2) c), ?_, ?_, ?_⟩
    · rcases hc with h0 | h0
      · rw [h0]; simp [shW, h0]; rfl
      · rw [h0]; simp [shW, h0]; rfl
    · simp [wtV]; omega
    · (try walk_at "dx30")
      rw [add]
      (have j := go; simp only [List.range_succ, List.map_append, List.map_cons, List.map_nil, fg_cons, fg_nil, List.set_cons_succ, List.set_cons_zero] at j; exact j)
  · rintro ⟨m, e⟩ rfl
    simp only
    rw [List.take_length]
    ((try walk_at "dx30"); repeat (walk_at "one" <;> (try walk_at "dx30")))
    rintro _ _ ⟨⟩ ⟨⟩
    have hlen : ∀ f, (wtV f (fl3 a b)).length = (fl3 a b).length := fun f => List.length_map _
    ((try walk_at "dx30"); repeat (walk_at "one" <;> (try walk_at "dx30")))
    intro r5 r6 r7
    ((try walk_at "dx30"); repeat (walk_at "one" <;> (try walk_at "dx30")))
    have hok : okW (shW (1 + r) (1 + r2)) := fun c _ => by
      unfold shW
      split <;> omega
    refine for_stR (fun i (st : Nat × (Sp3 → Int) × Option Sp3) => st.1 ≤ i + 1 ∧ okW st.2.1) (fun η st => (η.set 6 (some (.per (wP P w mg base nT st.1 (wgh on2B st.2.1))))).set 5 (st.2.2.map fun c => .dat (spD c))) (fun _ st => μ ++ [.dct ((wtV st.2.1 (fl3 a b)).map spV)]) (1, shW (1 + r) (1 + r2), e) rfl rfl ⟨Nat.le_refl _, hok⟩ (fun _ => trivial) ?_ ?_
    · rintro i ⟨k, f, e⟩ J hi ⟨hk, hf⟩ hJ
      simp only at hk hf
      have hml : ((fl3 a b).mergeSort (leO ltS)).length = (fl3 a b).length := List.length_mergeSort _
      ((try walk_at "dx30"); repeat (walk_at "one" <;> (try walk_at "dx30")))
      rw [ky_wt]
      (try walk_at "dx30")
      refine lc_subD (by omega) trivial (fun c K K' hc hK hK' => ?e) fun ys hsub => ?_
      case e =>
        (try walk_at "dx30")
        intro z z0 z1
        by_cases hz : z = 0
        · subst hz
          (try walk_at "dx30")
          exact hK
        · simp only [hz, decide_false, Bool.false_eq_true, if_false]
          (try walk_at "dx30")
          exact hK'
      · have hyn : ys.Nodup := hsub.nodup ((List.mergeSort_perm _ _).nodup_iff.mpr hnd)
        have hym : ∀ c ∈ ys, c ∈ fl3 a b := fun c hc => List.mem_mergeSort.mp (hsub.subset hc)
        have hsl : ys.length ≤ 200 := by have := hsub.length_le; omega
        ((try walk_at "dx30"); repeat (walk_at "one" <;> (try walk_at "dx30")))
        intro m m0 m1
        ((try walk_at "dx30"); repeat (walk_at "one" <;> (try walk_at "dx30")))
        refine ⟨on2B, f, k, rfl, ?_⟩
        rintro _ ⟨⟩
        ((try walk_at "dx30"); repeat (walk_at "one" <;> (try walk_at "dx30")))
        refine for_stD (as := ys) (en := spD) (fun i (st : Nat × Option Sp3) => st.1 = i) (fun η st => η.set 5 (st.2.map fun c => .dat (spD c))) (fun _ st => μ ++ [.dct ((wtV (dearW f (ys.take st.1) m) (fl3 a b)).map spV)]) (0, e) rfl (by show μ ++ [Cell.dct ((wtV (dearW f [] m) (fl3 a b)).map spV)] = _; rw [show dearW f [] m = f from by funext c; simp [dearW]]) rfl (fun _ => trivial) ?_ ?_
        · rintro j c ⟨i2, e2⟩ J2 hj rfl hJ2
          have hcm := hym c (List.mem_of_getElem? hj)
          have go := hJ2 (i2 + 1, some c) rfl
          have add := dear_add (f := f) (m := m) hyn hj
          simp only at go add ⊢
          ((try walk_at "dx30"); repeat (walk_at "one" <;> (try walk_at "dx30")))
          refine ⟨_, get_wt hnd hcm, ?_⟩
          clear hJ2 hJ
          ((try walk_at "dx30"); repeat (walk_at "one" <;> (try walk_at "dx30")))
          refine ⟨by rw [hlen]; omega, ?_⟩
          rw [show (if dearW f (List.take i2 ys) m c + m < 9 then dearW f (List.take i2 ys) m c + m else 9) = min 9 (dearW f (List.take i2 ys) m c + m) from by split <;> omega, ins_wt hcm, add]
          (have j := go; simp only [List.range_succ, List.map_append, List.map_cons, List.map_nil, fg_cons, fg_nil, List.set_cons_succ, List.set_cons_zero] at j; exact j)
        · rintro ⟨i2, e2⟩ rfl
          rw [List.take_length]
          have go := hJ (k + 1, dearW f ys m, e2) ⟨by simp only; omega, fun c hc => by
            have := hf c hc
            show 1 ≤ dearW f ys m c ∧ dearW f ys m c ≤ 9
            unfold dearW
            split
            · omega
            · exact this⟩
          clear hJ
          rcases e2 with _ | e2
          · ((try walk_at "dx30"); repeat (walk_at "one" <;> (try walk_at "dx30")))
            (have j := go; simp only [List.range_succ, List.map_append, List.map_cons, List.map_nil, fg_cons, fg_nil, List.set_cons_succ, List.set_cons_zero] at j; exact j)
          · ((try walk_at "dx30"); repeat (walk_at "one" <;> (try walk_at "dx30")))
            (have j := go; simp only [List.range_succ, List.map_append, List.map_cons, List.map_nil, fg_cons, fg_nil, List.set_cons_succ, List.set_cons_zero] at j; exact j)
    · rintro ⟨k, f, e⟩ ⟨hk, hf⟩
      simp only at hk hf
      ((try walk_at "dx30"); repeat (walk_at "one" <;> (try walk_at "dx30")))
      intro r8 r9 r10
      have hon : ∀ c ∈ fl3 a b, on2B c = true := fun c hc => on2B_iff.mpr (mem_fl3.mp hc).1
      have hml : ((fl3 a b).mergeSort (leO ltS)).length = (fl3 a b).length := List.length_mergeSort _
      have hsn : ((fl3 a b).mergeSort (leO ltS)).Nodup := (List.mergeSort_perm _ _).nodup_iff.mpr hnd
      have hsm : ∀ c, c ∈ (fl3 a b).mergeSort (leO ltS) ↔ c ∈ fl3 a b := fun c => List.mem_mergeSort
      split
      · ((try walk_at "dx30"); repeat (walk_at "one" <;> (try walk_at "dx30")))
        rw [ky_wt]
        generalize hsl : (fl3 a b).mergeSort (leO ltS) = sl at *
        refine for_stD (as := sl) (en := spD) (fun i (st : Nat × (Sp3 → Int)) => st.1 = i ∧ okW st.2) (fun η _ => η) (fun _ st => μ ++ [.dct ((wtV f (fl3 a b)).map spV), .dct ((wtV st.2 (sl.take st.1)).map spV)]) (0, fun _ => 1) rfl rfl ⟨rfl, fun _ _ => ⟨Int.le_refl _, by show (1 : Int) ≤ 9; decide⟩⟩ (fun _ => trivial) ?_ ?_
        · rintro j c ⟨i2, t⟩ J hj ⟨rfl, ht⟩ hJ
          have hjl := get_lt hj
          have hlt : ∀ t : Sp3 → Int, (wtV t (sl.take i2)).length ≤ 200 := fun t => by
            unfold wtV
            rw [List.length_map, List.length_take]
            omega
          simp only at ht ⊢
          ((try walk_at "dx30"); repeat (walk_at "one" <;> (try walk_at "dx30")))
          intro z z0 z1
          have go := hJ (i2 + 1, updW t c (1 + z)) ⟨rfl, fun d hd => by
            show 1 ≤ updW t c (1 + z) d ∧ updW t c (1 + z) d ≤ 9
            unfold updW
            split
            · omega
            · exact ht d hd⟩
          clear hJ
          have add := wt_add2 (f := t) (1 + z) hsn hj
          simp only at go add
          have hlt := hlt t
          ((try walk_at "dx30"); repeat (walk_at "one" <;> (try walk_at "dx30")))
          rw [add]
          (have j := go; simp only [List.range_succ, List.map_append, List.map_cons, List.map_nil, fg_cons, fg_nil, List.set_cons_succ, List.set_cons_zero] at j; exact j)
        · rintro ⟨i2, t⟩ ⟨rfl, ht⟩
          simp only at ht ⊢
          rw [List.take_length]
          ((try walk_at "dx30"); repeat (walk_at "one" <;> (try walk_at "dx30")))
          refine ⟨0, _, nT, _, .inl ⟨rfl, rfl, capsP_d capsP_nil⟩, ⟨t, sl, hsn, rfl, rfl⟩, on2B, _, f, t, k, 1, nT, _, rfl, rfl, nstab_T, nstab_A (nstab_caps (ds := [dcV (wtV t sl)])) nstab_T, ?_⟩
          ((try walk_at "dx30"); repeat (walk_at "one" <;> (try walk_at "dx30")))
          rw [ky_wt, hsl]
          refine for_stD (as := sl) (en := spD) (fun i (m : Nat) => m = i) (fun η _ => η) (fun _ m => μ ++ [.dct ((wtV (mxW f t (sl.take m)) (fl3 a b)).map spV), .dead]) 0 rfl (by show μ ++ [Cell.dct ((wtV (mxW f t []) (fl3 a b)).map spV), Cell.dead] = _; rw [show mxW f t [] = f from by funext c; simp [mxW]]) rfl (fun _ => trivial) ?_ ?_
          · rintro j c m J hj rfl hJ
            have hcm := (hsm c).mp (List.mem_of_getElem? hj)
            have go := hJ (m + 1) rfl
            clear hJ
            have add := mx_add (f := f) (t := t) hsn hj
            simp only at go add ⊢
            ((try walk_at "dx30"); repeat (walk_at "one" <;> (try walk_at "dx30")))
            refine ⟨_, get_wt hnd hcm, ?_⟩
            refine dgetV_dat (by rw [ky_wt]; exact hsn) (List.mem_map.mpr ⟨c, List.mem_of_getElem? hj, rfl⟩) ?_
            ((try walk_at "dx30"); repeat (walk_at "one" <;> (try walk_at "dx30")))
            refine ⟨by rw [hlen]; omega, ?_⟩
            rw [show (if t c > mxW f t (List.take m sl) c then t c else mxW f t (List.take m sl) c) = max (mxW f t (List.take m sl) c) (t c) from by split <;> omega, ins_wt hcm, add]
            (have j := go; simp only [List.range_succ, List.map_append, List.map_cons, List.map_nil, fg_cons, fg_nil, List.set_cons_succ, List.set_cons_zero] at j; exact j)
          · rintro m rfl
            rw [List.take_length]
            ((try walk_at "dx30"); repeat (walk_at "one" <;> (try walk_at "dx30")))
            have e1 : wtV (mxW f t sl) (fl3 a b) = wtV (fun c => max (f c) (t c)) (fl3 a b) := wt_congr fun c hc => by
              unfold mxW
              rw [if_pos ((hsm c).mpr hc)]
            rw [e1]
            intro ad
            exact ⟨_, .newo (.nod (.cons (.fn (.all (.A .T (.A (.A (.caps (by decide +kernel) (dpP (P := P) (w := w) (mg := mg) (base := base) (capsP_d capsP_nil)) (SlotsAre.all (.cons 10 rfl rfl .nil))) .T) .T)))) (.cons (.dat _) .nil))), h _ _ _ ad (by omega) (fun c hc => by simp only [hon c hc, (hsm c).mpr hc, decide_true, Bool.and_self]) fun c hc => by have h1 := hf c hc; have h2 := ht c hc; omega⟩
      · intro ad
        exact ⟨_, .newo (.nod (.cons (.fn (.all .T)) (.cons (.dat _) .nil))), h f on2B k ad (by omega) hon hf⟩
local macro_rules | `(tactic| walk_at "dx31") => `(tactic| simp (disch := first | assumption | omega) only [↓x_dOp, List.map_cons, List.map_nil, Nat.reduceSub, List.length_cons, List.length_nil, Nat.zero_add, List.replicate, List.append_nil, ↓dVar_0, ↓old_dat, dVar_1, ↓x_rSeq, Nat.reduceAdd, startD, List.cons_append, List.nil_append, ↓x_dStl, ↓x_dC, ↓x_dCall, ↓x_aCons, ↓x_dCell, ↓old_loc, ↓cel_loc, ↓x_aNil, ↓aO_cons, ↓nN_loc, ↓nN_dat, ↓aO_nil, Bool.and_true, List.set_cons_succ, List.set_cons_zero, nextA_eq, isR_h, ilt_h, ↓add_int, ↓stl_dat, true_and, ↓x_dNewD, ↓cell_nd, ↓x_iSeqD, ↓dVar_1, ↓e_law_floor, nle_h, and_true, ↓stl_new, ↓seqDK_l, ↓x_gNm, List.length_append, ↓fg_cons, ↓fg_nil, ↓x_dFrz, ↓x_dLst, ↓dVar_2, ↓wD_dat, ↓dVar_3, ↓wDs_cons, ↓wDs_nil, ↓dVar_5, ↓ix_sp, ↓ix_tupD, at_nn, Int.reduceToNat, List.getElem?_cons_zero, Option.some.injEq, ↓x_gSb, ↓dVar_4, ↓setD_sp, cl_loc, ↓cl_none, ↓cl_dat, ↓cl_nil, exists_eq_left', ↓ix_new, ↓get_a0, ↓set_a0, tk_a1, lcD_d, List.length_map, ↓putV, ↓e_by_sheet, μTab_app, ↓isNum_i, ile_h, decide_true, ↓stl_per, ↓nN_per, ↓tk_a0, if_true, ↓x_iRange1, isR_app, ↓rng1_i, ↓x_lc, ↓x_dCB, ↓c_srt, ↓srtC_V, ↓seqDK_n, ↓x_tVal, wipeD, dVar_5, dVar_0, ↓nextA_eq, ↓eq_dd, ↓noD_i, dep_int, ↓wB_b, eqv_int, decide_eq_true_eq, ↓tk_a1, ↓wD_new, ↓dVar_6, ↓old_per, ↓dVar_8, ↓dVar_9, ↓e_dearer, ↓dgetV_loc, ↓cl_per, ↓min_ii, Option.map_none, Option.map_some, ↓x_rRet, ↓x_dLstT, ↓x_dFzd, ↓trsK_cons, ↓trsK_nil, ↓x_exitC, ↓ex_newo, dVar_4, ↓c_fzd, dVar_6, ↓trK_p, fzdC_d, ↓trK_d, dcV_eq, tk_a0, List.append_assoc, ↓dVar_10, ↓get_a1, ↓set_a1, tk_a2, nlt_h, List.getElem?_cons_succ, lockE_l, lockC_d, ↓x_dLam, ↓x_mkK, ↓capK_cons, ↓capK_nil, ↓e_heavier, evK_s, cl_none, ↓max_ii])
/-! ### least prices, over and over -/
def lkV : Sv → Sp3 → Option Int
  | [], _ => none
  | p :: gs, c => if p.1 = c then some p.2 else lkV gs c
theorem lk_none {gs : Sv} {c : Sp3} : lkV gs c = none ↔ c ∉ kyV gs := by
  induction gs with
  | nil => simp [lkV, kyV]
  | cons p gs ih =>
    unfold lkV
    by_cases h : p.1 = c
    · rw [if_pos h]
      simp [kyV, h]
    · rw [if_neg h, ih]
      have : ¬ c = p.1 := fun e => h e.symm
      simp [kyV, this]
theorem lk_mem {gs : Sv} {c : Sp3} {v : Int} (h : lkV gs c = some v) : (c, v) ∈ gs := by
  induction gs with
  | nil => cases h
  | cons p gs ih =>
    unfold lkV at h
    by_cases hp : p.1 = c
    · rw [if_pos hp] at h
      cases h
      rw [← hp]
      exact List.mem_cons_self
    · rw [if_neg hp] at h
      exact List.mem_cons_of_mem _ (ih h)
theorem mem_key {gs : Sv} {c : Sp3} {v : Int} (h : (c, v) ∈ gs) : c ∈ kyV gs := List.mem_map.mpr ⟨(c, v), h, rfl⟩
theorem key_mem {gs : Sv} {c : Sp3} (h : c ∈ kyV gs) : ∃ v, (c, v) ∈ gs := by
  obtain ⟨g, h1, h2⟩ := List.mem_map.mp h
  exact ⟨g.2, by rw [← h2]; exact h1⟩
theorem mem_lk {gs : Sv} (hn : (kyV gs).Nodup) {c : Sp3} {v : Int} (h : (c, v) ∈ gs) : lkV gs c = some v := by
  cases e : lkV gs c with
  | none => exact absurd (mem_key h) (lk_none.mp e)
  | some d => rw [val_one hn h (lk_mem e)]
theorem mem_insV {gs : Sv} {c x : Sp3} {v d : Int} : (x, d) ∈ insV gs c v ↔ (x = c ∧ d = v) ∨ (x ≠ c ∧ (x, d) ∈ gs) := by
  unfold insV
  split
  · rename_i h
    rw [List.mem_map]
    constructor
    · rintro ⟨p, hp, e⟩
      by_cases hc : p.1 = c
      · rw [if_pos hc] at e
        cases e
        exact .inl ⟨hc, rfl⟩
      · rw [if_neg hc] at e
        subst e
        exact .inr ⟨hc, hp⟩
    · rintro (⟨rfl, rfl⟩ | ⟨h1, h2⟩)
      · obtain ⟨w, hw⟩ := key_mem h
        exact ⟨_, hw, by rw [if_pos rfl]⟩
      · exact ⟨_, h2, by rw [if_neg h1]⟩
  · rename_i h
    rw [List.mem_append, List.mem_singleton]
    constructor
    · rintro (h1 | h1)
      · exact .inr ⟨fun e => h (e ▸ mem_key h1), h1⟩
      · cases h1; exact .inl ⟨rfl, rfl⟩
    · rintro (⟨rfl, rfl⟩ | ⟨_, h2⟩)
      · exact .inr rfl
      · exact .inl h2
theorem ky_insV (gs : Sv) (c : Sp3) (v : Int) : kyV (insV gs c v) = insA (kyV gs) c := by
  unfold insV insA
  split
  · unfold kyV
    rw [List.map_map]
    refine List.map_congr_left fun p _ => ?_
    simp only [Function.comp]
    split <;> rfl
  · unfold kyV
    rw [List.map_append]
    rfl
theorem len_ky (gs : Sv) : (kyV gs).length = gs.length := List.length_map _
theorem len_insV (gs : Sv) (c : Sp3) (v : Int) : gs.length ≤ (insV gs c v).length ∧ (c ∉ kyV gs → (insV gs c v).length = gs.length + 1) := by
  unfold insV
  split
  · rename_i h
    rw [List.length_map]
    exact ⟨Nat.le_refl _, fun z => absurd h z⟩
  · simp
def mvV (gs : Sv) (c : Sp3) : Nat := match lkV gs c with
  | some v => v.toNat
  | none => 4000
def meaV (fl : List Sp3) (gs : Sv) : Nat := (fl.map (mvV gs)).sum
theorem sum_lt {g h : Sp3 → Nat} {c : Sp3} : ∀ {fl : List Sp3}, (∀ x, h x ≤ g x) → h c < g c → c ∈ fl → (fl.map h).sum < (fl.map g).sum
  | [], _, _, hm => by simp at hm
  | x :: fl, hle, hlt, hm => by
    have le : ∀ fl : List Sp3, (fl.map h).sum ≤ (fl.map g).sum := fun fl => by
      induction fl with
      | nil => simp
      | cons y fl ih => simp only [List.map_cons, List.sum_cons]; have := hle y; omega
    simp only [List.map_cons, List.sum_cons]
    by_cases e : x = c
    · subst e
      have := le fl
      omega
    · have := sum_lt hle hlt ((List.mem_cons.mp hm).resolve_left fun z => e z.symm)
      have := hle x
      omega
theorem mea_ins {fl : List Sp3} {gs : Sv} (hn : (kyV gs).Nodup) {c : Sp3} {v : Int} (hc : c ∈ fl) (h0 : 0 ≤ v) (h : (c ∉ kyV gs ∧ v < 4000) ∨ ∃ d, (c, d) ∈ gs ∧ v < d) : meaV fl (insV gs c v) < meaV fl gs := by
  have hn2 : (kyV (insV gs c v)).Nodup := by rw [ky_insV]; exact nodup_insA hn c
  have e1 : mvV (insV gs c v) c = v.toNat := by
    unfold mvV
    rw [mem_lk hn2 (mem_insV.mpr (.inl ⟨rfl, rfl⟩))]
  have lt : mvV (insV gs c v) c < mvV gs c := by
    rw [e1]
    rcases h with ⟨h1, h2⟩ | ⟨d, h1, h2⟩
    · unfold mvV
      rw [lk_none.mpr h1]
      show v.toNat < 4000
      omega
    · unfold mvV
      rw [mem_lk hn h1]
      show v.toNat < d.toNat
      omega
  refine sum_lt (c := c) (fun x => ?_) lt hc
  by_cases e : x = c
  · subst e
    omega
  · have : lkV (insV gs c v) x = lkV gs x := by
      cases hx : lkV gs x with
      | none =>
        have := lk_none.mp hx
        refine lk_none.mpr fun z => this ?_
        rw [ky_insV] at z
        exact (mem_insA.mp z).resolve_right e
      | some d => exact mem_lk hn2 (mem_insV.mpr (.inr ⟨e, lk_mem hx⟩))
    unfold mvV
    rw [this]
    exact Nat.le_refl _
structure BF (P : Sp3 → Prop) (ts : List Sp3) (stp : Sp3 → Sp3 → Int) (gs : Sv) (E : Sp3 → Sp3 → Prop) : Prop where
  nd : (kyV gs).Nodup
  co : ∀ p c, (p, c) ∈ gs → Cost P ts stp p c
  st : ∀ t ∈ ts, ∃ d, (t, d) ∈ gs ∧ d ≤ 0
  cl : ∀ q c, (q, c) ∈ gs → ∀ p ∈ nb5 q, P p → E q p ∨ ∃ d, (p, d) ∈ gs ∧ d ≤ c + stp q p
  vb : ∀ p c, (p, c) ∈ gs → c ≤ 18 * (gs.length : Int)
section
variable {P : Sp3 → Prop} {ts : List Sp3} {stp : Sp3 → Sp3 → Int} {gs : Sv} {E E' : Sp3 → Sp3 → Prop}
/-- the pair (s, a) done with -/
theorem BF.skip (B : BF P ts stp gs E) {s a : Sp3} (h : ∀ q p, E q p → E' q p ∨ (q = s ∧ p = a)) (ha : ¬ P a ∨ ∃ c d, (s, c) ∈ gs ∧ (a, d) ∈ gs ∧ d ≤ c + stp s a) : BF P ts stp gs E' where
  nd := B.nd
  co := B.co
  st := B.st
  vb := B.vb
  cl := fun q c hq p hp hP => (B.cl q c hq p hp hP).elim (fun z => (h q p z).elim .inl fun ⟨e1, e2⟩ => by
    subst e1
    subst e2
    rcases ha with ha | ⟨c', d, h1, h2, h3⟩
    · exact absurd hP ha
    · rw [val_one B.nd hq h1]
      exact .inr ⟨d, h2, h3⟩) .inr
theorem BF.mono (B : BF P ts stp gs E) (h : ∀ q p, E q p → E' q p) : BF P ts stp gs E' :=
  ⟨B.nd, B.co, B.st, fun q c hq p hp hP => (B.cl q c hq p hp hP).elim (fun z => .inl (h q p z)) .inr, B.vb⟩
theorem BF.put (B : BF P ts stp gs E) {s a : Sp3} {c : Int} (hs : (s, c) ∈ gs) (hn : a ∈ nb5 s) (hP : P a) (hst : stp s a ≤ 18) (hnew : a ∉ kyV gs ∨ ∃ d, (a, d) ∈ gs ∧ c + stp s a < d) (h : ∀ q p, E q p → E' q p ∨ (q = s ∧ p = a)) (hE : ∀ p, E' a p) : BF P ts stp (insV gs a (c + stp s a)) E' := by
  have old : ∀ p d, (p, d) ∈ gs → ∃ d', (p, d') ∈ insV gs a (c + stp s a) ∧ d' ≤ d := fun p d hd => by
    by_cases e : p = a
    · subst e
      refine ⟨_, mem_insV.mpr (.inl ⟨rfl, rfl⟩), ?_⟩
      rcases hnew with z | ⟨d2, h1, h2⟩
      · exact absurd (mem_key hd) z
      · rw [val_one B.nd hd h1]
        omega
    · exact ⟨d, mem_insV.mpr (.inr ⟨e, hd⟩), Int.le_refl _⟩
  refine ⟨by rw [ky_insV]; exact nodup_insA B.nd a, fun p d hd => ?_, fun t ht => ?_, fun q d hq p hp hPp => ?_, fun p d hd => ?_⟩
  · rcases mem_insV.mp hd with ⟨rfl, rfl⟩ | ⟨_, hd⟩
    · exact .step (B.co _ _ hs) hn hP
    · exact B.co _ _ hd
  · obtain ⟨d, h1, h2⟩ := B.st t ht
    obtain ⟨d', h3, h4⟩ := old _ _ h1
    exact ⟨d', h3, by omega⟩
  · rcases mem_insV.mp hq with ⟨rfl, rfl⟩ | ⟨hqa, hq2⟩
    · exact .inl (hE p)
    · rcases B.cl q d hq2 p hp hPp with z | ⟨d2, h1, h2⟩
      · rcases h q p z with z | ⟨rfl, rfl⟩
        · exact .inl z
        · rw [val_one B.nd hq2 hs]
          exact .inr ⟨_, mem_insV.mpr (.inl ⟨rfl, rfl⟩), Int.le_refl _⟩
      · obtain ⟨d', h3, h4⟩ := old _ _ h1
        exact .inr ⟨d', h3, by omega⟩
  · have hl := len_insV gs a (c + stp s a)
    rcases mem_insV.mp hd with ⟨rfl, rfl⟩ | ⟨_, hd⟩
    · have h1 := B.vb _ _ hs
      rcases hnew with z | ⟨d2, h2, h3⟩
      · have := hl.2 z
        omega
      · have := B.vb _ _ h2
        omega
    · have := B.vb _ _ hd
      omega
theorem BF.told (h0 : ∀ q p, P q → 0 ≤ stp q p) (B : BF P ts stp gs E) (hE : ∀ q p, ¬ E q p) : Told P ts stp gs := by
  have all : ∀ p k, Cost P ts stp p k → ∃ d, (p, d) ∈ gs ∧ d ≤ k := fun p k h => by
    induction h with
    | base hs hp => exact B.st _ hs
    | @step q p k hc hn hp ih =>
      obtain ⟨d, h1, h2⟩ := ih
      obtain ⟨d2, h3, h4⟩ := (B.cl q d h1 p hn hp).resolve_left (hE q p)
      exact ⟨d2, h3, by omega⟩
  refine ⟨B.nd, fun p c => ⟨fun hm => ⟨B.co _ _ hm, fun k' hk => ?_⟩, fun hl => ?_⟩⟩
  · obtain ⟨d, h1, h2⟩ := all p k' hk
    rw [val_one B.nd hm h1]
    exact h2
  · obtain ⟨d, h1, h2⟩ := all p c hl.1
    have := hl.2 d (B.co _ _ h1)
    have : d = c := by omega
    rw [← this]
    exact h1
end
local macro_rules | `(tactic| walk_at "dx33") => `(tactic| simp (disch := first | assumption | omega) only [↓exitQ_dat, startD, List.map_cons, List.map_nil, List.length_cons, List.length_nil, Nat.zero_add, Nat.reduceAdd, Nat.reduceSub, List.replicate, List.append_nil, ↓x_dOp, ↓dVar_0, ↓old_dat, ↓dVar_2, ↓dVar_1, ↓x_dCB, ↓x_aCons, ↓x_dC, ↓ix_sp, ↓ix_tupD, at_nn, Int.reduceToNat, List.getElem?_cons_zero, Option.some.injEq, ↓dVar_3, ↓ne_dd, ↓x_aNil, ↓int_b, ↓mul_int, cmul_r, true_and, exists_eq_left', ↓noD_i, and_true, dep_int, nle_h, eqv_int, ↓add_int, ↓tk_0, oLt, List.cons_append, List.nil_append, ↓x_dCell, ↓x_dNewD, ↓cell_nd, ↓nN_loc, List.set_cons_succ, List.set_cons_zero, ↓x_iSeqD, ↓seqDK_l, ↓x_gNm, ↓nN_dat, List.length_append, ↓fg_cons, ↓fg_nil, ↓x_gSb, ↓dVar_5, ↓old_loc, ↓dVar_6, ↓setD_sp, ↓get_a0, cl_dat, ↓cl_none, cl_loc, ↓cl_nil, ↓set_a0, tk_a1, lcD_d, List.length_map, nlt_h, ↓putV, ↓x_dStl, ↓c_srt, ↓srtC_V, ↓stl_new, ↓x_tVal, ↓x_dLst, ↓wDs_nil, dVar_7, ↓ne_dn, ↓noD_l, ↓noDs_nil, dep_lst, depA_nil, ↓wB_b, eqv_lst, eqvA_nn, Bool.not_true, Bool.false_eq_true, if_false, exitQ_ge, exC_d, ↓tk_a0, ↓noDs_cons, noDs_sp, Bool.and_true, depA_cons, eqvA_cn, Bool.not_false, if_true, List.append_assoc, ↓dVar_7, ↓x_dCall, ↓stl_dat, ↓aO_cons, ↓aO_nil, ↓e_law_near_steps, ↓dgetV_loc, ↓dVar_4, ↓dVar_9, ↓x_tAndD, ↓memA_spD, decide_eq_true_eq, ↓x_tOrD, ↓c_memA, ↓dVar_10, ↓memC_V, ↓tk_a2, ↓oI0_ii, ilt_h, decide_true, ↓x_dFrz, ↓wD_dat, ↓dVar_8, ↓get_a1, ↓set_a1, tk_a2, ↓putE_sp, ↓srtC_sp, ↓tk_a1])
/-! ### the law's own least prices -/
def sp_law_step_price : SpD := fun es μ q x => ∃ (gs : Sv) (hole : Int) (s : Sp3) (t : Sp3), es = [.dat (dcV gs), .dat (.int hole), .dat (spD s), .dat (spD t)] ∧ ((kyV gs).Nodup ∧ ∃ v, (s, v) ∈ gs ∧ q (.dat (.int (v + hole * (if s.1 = t.1 then 0 else 1)))) μ)
theorem e_law_step_price {gs : Sv} {hole : Int} {s : Sp3} {t : Sp3} {μ : Mu} {q : PQ} {x : XQ} : sp_law_step_price [.dat (dcV gs), .dat (.int hole), .dat (spD s), .dat (spD t)] μ q x = ((kyV gs).Nodup ∧ ∃ v, (s, v) ∈ gs ∧ q (.dat (.int (v + hole * (if s.1 = t.1 then 0 else 1)))) μ) := by
  refine propext ⟨fun hyp0 => ?_, fun hyp0 => ⟨gs, hole, s, t, rfl, hyp0⟩⟩
  obtain ⟨gs', hole', s', t', eq0, hyp0⟩ := hyp0
  simp only [List.cons.injEq, Exn.mk.injEq, EV.at.injEq, eq_self, EV.dat.injEq, EV.loc.injEq, EV.new.injEq, EV.ro.injEq, EV.exc.injEq, EV.per.injEq, PyData.int.injEq, PyData.str.injEq, PyData.bool.injEq, PyData.list.injEq, PyData.tuple.injEq, and_true, true_and, and_assoc, map_int_inj, dcV_inj, spD_inj] at eq0
  obtain ⟨rfl, rfl, rfl, rfl⟩ := eq0
  exact hyp0
theorem ok_law_step_price (T : Top K mg) : DefAt P w K mg base "_law_step_price" 1 ["_law_due", "_law_hole", "_law_spot", "_law_ahead"] [] [] sp_law_step_price := by
  refine def_ok sp_law_step_price T.F_law_step_price sc_law_step_price T.m_law_step_price T.b_law_step_price (fun cdv A outer s H E hr tk pw => (dss_one (ds_ret (de_op opA_add os_add (de_dget hr.units (dv 0) (dv 2) (fun _ _ => rfl)) (de_op opA_mul os_mul (dv 1) (de_callTy call_int1 cs_int (by rfl) T.n_int bt_int (da_cons (de_cmp (opA_ne hr.units) os_ne (de_ix ix_seq os_ix (dv 2) de_int (fun _ _ => rfl)) (de_ix ix_seq os_ix (dv 3) de_int (fun _ _ => rfl)) (nomark _)) da_nil))))))) ?_
  rintro es μ q x - ⟨gs, hole, s, t, rfl, hn, v, hv, h⟩
  ((try walk_at "dx33"); repeat (walk_at "one" <;> (try walk_at "dx33")))
  refine dgetV_dat hn hv ?_
  ((try walk_at "dx33"); repeat (walk_at "one" <;> (try walk_at "dx33")))
  by_cases e : s.1 = t.1
  · rw [if_pos e] at h
    rw [if_neg (by simpa using e)]
    exact h
  · rw [if_neg e] at h
    rw [if_pos (by simpa using e)]
    exact h
local macro_rules | `(tactic| walk_at "dx34") => `(tactic| simp (disch := first | assumption | omega) only [↓exitQ_dat, startD, List.map_cons, List.map_nil, List.length_cons, List.length_nil, Nat.zero_add, Nat.reduceAdd, Nat.reduceSub, List.replicate, List.append_nil, ↓x_dOp, ↓dVar_0, ↓old_dat, ↓dVar_2, ↓dVar_1, ↓x_dCB, ↓x_aCons, ↓x_dC, ↓ix_sp, ↓ix_tupD, at_nn, Int.reduceToNat, List.getElem?_cons_zero, Option.some.injEq, ↓dVar_3, ↓ne_dd, ↓x_aNil, ↓int_b, ↓mul_int, cmul_r, true_and, exists_eq_left', ↓noD_i, and_true, dep_int, nle_h, eqv_int, ↓add_int, ↓tk_0, oLt, List.cons_append, List.nil_append, ↓x_dCell, ↓x_dNewD, ↓cell_nd, ↓nN_loc, List.set_cons_succ, List.set_cons_zero, ↓x_iSeqD, ↓seqDK_l, ↓x_gNm, ↓nN_dat, List.length_append, ↓fg_cons, ↓fg_nil, ↓x_gSb, ↓dVar_5, ↓old_loc, ↓dVar_6, ↓setD_sp, ↓get_a0, cl_dat, ↓cl_none, cl_loc, ↓cl_nil, ↓set_a0, tk_a1, lcD_d, List.length_map, nlt_h, ↓putV, ↓x_dStl, ↓c_srt, ↓srtC_V, ↓stl_new, ↓x_tVal, ↓x_dLst, ↓wDs_nil, dVar_7, ↓ne_dn, ↓noD_l, ↓noDs_nil, dep_lst, depA_nil, ↓wB_b, eqv_lst, eqvA_nn, Bool.not_true, Bool.false_eq_true, if_false, exitQ_ge, exC_d, ↓tk_a0, ↓noDs_cons, noDs_sp, Bool.and_true, depA_cons, eqvA_cn, Bool.not_false, if_true, List.append_assoc, ↓dVar_7, ↓x_dCall, ↓stl_dat, ↓aO_cons, ↓aO_nil, ↓e_law_near_steps, ↓dgetV_loc, ↓dVar_4, ↓dVar_9, ↓e_law_step_price, ↓x_tAndD, ↓memA_spD, decide_eq_true_eq, ↓x_tOrD, ↓c_memA, ↓dVar_10, ↓memC_V, ↓tk_a2, ↓oI0_ii, ilt_h, decide_true, ↓x_dFrz, ↓wD_dat, ↓dVar_8, ↓get_a1, ↓set_a1, tk_a2, ↓putE_sp, ↓srtC_sp, ↓tk_a1])
def sp_law_least : SpD := fun es μ q x => ∃ (a : Nat) (b : Nat) (cs : List Sp3) (ss : List Sp3) (ws : Sv) (hole : Int), es = [.dat (szD a b), .dat (dc3 cs), .dat (.list (ss.map spD)), .dat (dcV ws), .dat (.int hole)] ∧ (∃ f : Sp3 → Int, ws = wtV f (fl3 a b) ∧ ((a ≤ 10 ∧ b ≤ 10) ∧ (∀ c ∈ cs, c ∈ fl3 a b) ∧ (∀ s ∈ ss, s ∈ cs) ∧ ss.length ≤ 1000 ∧ (∀ c, on2 c → 1 ≤ f c ∧ f c ≤ 9) ∧ 0 ≤ hole ∧ hole ≤ 9) ∧ ∀ gs : Sv, gs.length ≤ 200 → Told (· ∈ cs) ss (stpW f hole) gs → q (.newd (gs.map spV)) μ)
theorem e_law_least {a : Nat} {b : Nat} {cs : List Sp3} {ss : List Sp3} {ws : Sv} {hole : Int} {μ : Mu} {q : PQ} {x : XQ} : sp_law_least [.dat (szD a b), .dat (dc3 cs), .dat (.list (ss.map spD)), .dat (dcV ws), .dat (.int hole)] μ q x = (∃ f : Sp3 → Int, ws = wtV f (fl3 a b) ∧ ((a ≤ 10 ∧ b ≤ 10) ∧ (∀ c ∈ cs, c ∈ fl3 a b) ∧ (∀ s ∈ ss, s ∈ cs) ∧ ss.length ≤ 1000 ∧ (∀ c, on2 c → 1 ≤ f c ∧ f c ≤ 9) ∧ 0 ≤ hole ∧ hole ≤ 9) ∧ ∀ gs : Sv, gs.length ≤ 200 → Told (· ∈ cs) ss (stpW f hole) gs → q (.newd (gs.map spV)) μ) := by
  refine propext ⟨fun hyp0 => ?_, fun hyp0 => ⟨a, b, cs, ss, ws, hole, rfl, hyp0⟩⟩
  obtain ⟨a', b', cs', ss', ws', hole', eq0, hyp0⟩ := hyp0
  simp only [List.cons.injEq, Exn.mk.injEq, EV.at.injEq, eq_self, EV.dat.injEq, EV.loc.injEq, EV.new.injEq, EV.ro.injEq, EV.exc.injEq, EV.per.injEq, PyData.int.injEq, PyData.str.injEq, PyData.bool.injEq, PyData.list.injEq, PyData.tuple.injEq, and_true, true_and, and_assoc, map_int_inj, szD_inj, dc3_inj, sps_inj, dcV_inj] at eq0
  obtain ⟨rfl, rfl, rfl, rfl, rfl, rfl⟩ := eq0
  exact hyp0
theorem ok_law_least (T : Top K mg) : DefAt P w K mg base "_law_least" 2 ["_law_size_here", "_law_free", "_law_targets", "_law_due", "_law_hole"] [] [] sp_law_least := by
  refine def_ok sp_law_least T.F_law_least sc_law_least T.m_law_least T.b_law_least (fun cdv A outer s H E hr tk pw => (dss_cons (ds_set (i := 5) sc_law_least.nd rfl (by first | exact Or.inl rfl | exact Or.inr rfl) (de_cell de_dnewT))
    (dss_cons (ds_forF [2, 6, 7, 8, 9, 10] pw rfl (di_seqD (dv 2)) (dg_name (i := 6) sc_law_least.nd rfl (by first | exact Or.inl rfl | exact Or.inr rfl)) (dss_one (ds_asg de_int (dg_sub (W := WF) (dv 5) (dv 6) (set_dictU hr.units) ss_dict))))
    (dss_cons (ds_set (i := 7) sc_law_least.nd rfl (by first | exact Or.inl rfl | exact Or.inr rfl) (de_stl (de_callB (call_sortA rfl hr.units) cs_sortA (by rfl) T.n_sorted bb_sorted (da_cons (dv 5) da_nil))))
    (dss_cons (ds_whileF [2, 6, 8, 9, 10] pw (dt_cmp (opA_ne hr.units) os_ne (dv 7) (de_lst da_nil) (nomark _)) (dss_cons (ds_set (i := 8) sc_law_least.nd rfl (by first | exact Or.inl rfl | exact Or.inr rfl) (de_cell de_dnewT))
    (dss_cons (ds_forF [2, 6, 7, 9, 10] pw rfl (di_seqD (dv 7)) (dg_name (i := 6) sc_law_least.nd rfl (by first | exact Or.inl rfl | exact Or.inr rfl)) (dss_one (ds_forF [2, 7, 9, 10] pw rfl (di_seqD (de_stl (de_call (ok_law_near_steps T) hr (by decide) (by rfl) tk (fun _ _ => .nil) (da_cons (de_stl (dv 0)) (da_cons (de_stl (dv 6)) da_nil))))) (dg_name (i := 9) sc_law_least.nd rfl (by first | exact Or.inl rfl | exact Or.inr rfl)) (dss_cons (ds_set (i := 10) sc_law_least.nd rfl (by first | exact Or.inl rfl | exact Or.inr rfl) (de_stl (de_op opA_add os_add (de_dget hr.units (dv 5) (dv 6) (fun _ _ => rfl)) (de_call (ok_law_step_price T) hr (by decide) (by rfl) tk (fun _ _ => .nil) (da_cons (de_stl (dv 3)) (da_cons (de_stl (dv 4)) (da_cons (de_stl (dv 6)) (da_cons (de_stl (dv 9)) da_nil))))))))
    (dss_one (ds_if (dw_and (dt_cmp (opA_in hr.units) os_memA (dv 9) (dv 1) (by rfl)) (dw_and1 (dw_or (dt_cmp (opA_notIn hr.units) os_memA (dv 9) (dv 5) (by rfl)) (dw_or1 (dt_cmp op_lt os_lt (dv 10) (de_dget hr.units (dv 5) (dv 9) (fun _ _ => rfl)) (nomark _)))).dt)).dt (dss_cons (ds_asg (de_frz (dv 10)) (dg_sub (W := WF) (dv 5) (dv 9) (set_dictU hr.units) ss_dict))
    (dss_one (ds_asg de_bl (dg_sub (W := WF) (dv 8) (dv 9) (set_dictU hr.units) ss_dict)))) dss_nil))))))
    (dss_one (ds_set (i := 7) sc_law_least.nd rfl (by first | exact Or.inl rfl | exact Or.inr rfl) (de_stl (de_callB (call_sortA rfl hr.units) cs_sortA (by rfl) T.n_sorted bb_sorted (da_cons (dv 8) da_nil))))))))
    (dss_one (ds_ret (dv 5)))))))) ?_
  rintro es μ q x - ⟨a, b, cs, ss, ws, hole, rfl, f, rfl, ⟨⟨ha, hb⟩, hc, hs, hl, hf, h0, h9⟩, h⟩
  ((try walk_at "dx34"); repeat (walk_at "one" <;> (try walk_at "dx34")))
  have hPf : ∀ c, c ∈ cs → on2 c ∧ in3 a b c = true := fun c h => mem_fl3.mp (hc c h)
  have hstp : ∀ q p, q ∈ cs → 0 ≤ stpW f hole q p ∧ stpW f hole q p ≤ 18 := fun q p hq => by
    have := hf q (hPf q hq).1
    unfold stpW
    split <;> omega
  have hs0 : ∀ q p, q ∈ cs → 0 ≤ stpW f hole q p := fun q p hq => (hstp q p hq).1
  have hfn : (fl3 a b).Nodup := (rise_fl3 a b).nodup ord_sp
  have hkl : ∀ {gs : Sv} {E : Sp3 → Sp3 → Prop}, BF (· ∈ cs) ss (stpW f hole) gs E → gs.length ≤ 200 := fun {gs E} B => by
    have := nodup_len (gs := kyV gs) (U := fl3 a b) B.nd fun p hp => by
      obtain ⟨v, hv⟩ := key_mem hp
      exact hc p (B.co _ _ hv).p
    have h2 := fl3_le ha hb
    rw [len_ky] at this
    omega
  refine for_stD (as := ss) (en := spD) (fun i (gs : Sv) => (kyV gs).Nodup ∧ gs.length ≤ i ∧ (∀ p c, (p, c) ∈ gs → c = 0 ∧ p ∈ ss) ∧ ∀ t ∈ ss.take i, (t, 0) ∈ gs) (fun η _ => η) (fun _ gs => μ ++ [.dct (gs.map spV)]) [] rfl rfl ⟨by simp [kyV], by simp, by simp, by simp⟩ (fun _ => trivial) ?_ ?_
  · rintro i c gs J hi ⟨g1, g2, g3, g4⟩ hJ
    have hil := get_lt hi
    have hcs := List.mem_of_getElem? hi
    have go := hJ (insV gs c 0) ⟨by rw [ky_insV]; exact nodup_insA g1 c, ?_, fun p d hd => ?_, fun t ht => ?_⟩
    · clear hJ
      ((try walk_at "dx34"); repeat (walk_at "one" <;> (try walk_at "dx34")))
      (have j := go; simp only [List.range_succ, List.map_append, List.map_cons, List.map_nil, fg_cons, fg_nil, List.set_cons_succ, List.set_cons_zero] at j; exact j)
    · unfold insV
      split
      · rw [List.length_map]; omega
      · rw [List.length_append]; simp only [List.length_singleton]; omega
    · rcases mem_insV.mp hd with ⟨rfl, rfl⟩ | ⟨_, hd⟩
      · exact ⟨rfl, hcs⟩
      · exact g3 _ _ hd
    · rw [List.take_add_one, hi] at ht
      by_cases e : t = c
      · exact mem_insV.mpr (.inl ⟨e, rfl⟩)
      · refine mem_insV.mpr (.inr ⟨e, g4 t ?_⟩)
        rcases List.mem_append.mp ht with ht | ht
        · exact ht
        · simp at ht
          exact absurd ht e
  · rintro gs ⟨g1, g2, g3, g4⟩
    rw [List.take_length] at g4
    ((try walk_at "dx34"); repeat (walk_at "one" <;> (try walk_at "dx34")))
    have hsp : ∀ s t : Sp3, f s + hole * (if s.1 = t.1 then 0 else 1) = stpW f hole s t := fun s t => by
      unfold stpW
      split <;> omega
    have B0 : BF (· ∈ cs) ss (stpW f hole) gs (fun q _ => q ∈ (kyV gs).mergeSort (leO ltS)) := ⟨g1, fun p c hp => by
      obtain ⟨rfl, hps⟩ := g3 p c hp
      exact .base hps (hs p hps), fun t ht => ⟨0, g4 t ht, Int.le_refl _⟩, fun q c hq p _ _ => .inl (List.mem_mergeSort.mpr (mem_key hq)), fun p c hp => by rw [(g3 p c hp).1]; omega⟩
    refine q_whileF (σ := Sv × List Sp3) (fun st => BF (· ∈ cs) ss (stpW f hole) st.1 (fun q _ => q ∈ st.2) ∧ ∀ q ∈ st.2, q ∈ kyV st.1) (fun st => 2 * meaV (fl3 a b) st.1 + min st.2.length 1) (fun η st => η.set 7 (some (.dat (.list (st.2.map spD))))) (fun st => μ ++ [.dct (st.1.map spV)]) (gs, (kyV gs).mergeSort (leO ltS)) rfl rfl ⟨B0, fun q hq => List.mem_mergeSort.mp hq⟩ ?_
    clear g1 g2 g3 g4 B0
    rintro ⟨gs, fr⟩ J ⟨B, hfr⟩ hJ
    simp only at B hfr hJ ⊢
    rcases fr with _ | ⟨c0, fr⟩
    · ((try walk_at "dx34"); repeat (walk_at "one" <;> (try walk_at "dx34")))
      exact h gs (hkl B) (B.told hs0 fun q p => by simp)
    · ((try walk_at "dx34"); repeat (walk_at "one" <;> (try walk_at "dx34")))
      generalize hfe : c0 :: fr = fs at *
      have hf1 : min fs.length 1 = 1 := by rw [← hfe]; simp
      rw [show spD c0 :: List.map spD fr = fs.map spD from by rw [← hfe]; rfl]
      clear hfe
      refine ⟨rfl, ?_⟩
      ((try walk_at "dx34"); repeat (walk_at "one" <;> (try walk_at "dx34")))
      refine for_stD (as := fs) (en := spD) (fun i (st : Sv × List Sp3) => BF (· ∈ cs) ss (stpW f hole) st.1 (fun q _ => q ∈ fs.drop i ∨ q ∈ st.2) ∧ st.2.Nodup ∧ (∀ q ∈ st.2, q ∈ kyV st.1) ∧ (∀ q ∈ fs, q ∈ kyV st.1) ∧ ((meaV (fl3 a b) st.1 = meaV (fl3 a b) gs ∧ st.2 = []) ∨ meaV (fl3 a b) st.1 < meaV (fl3 a b) gs)) (fun η _ => η) (fun _ st => μ ++ [.dct (st.1.map spV), .dct (st.2.map spE)]) (gs, []) rfl rfl ⟨B.mono fun q p h => .inl h, .nil, by simp, hfr, .inl ⟨rfl, rfl⟩⟩ (fun _ => trivial) ?_ ?_
      · rintro i s ⟨gs2, lt⟩ J2 hi ⟨B2, n2, l2, f2, m2⟩ hJ2
        simp only at B2 n2 l2 f2 m2 ⊢
        have hds := drop_at hi
        have hsf := f2 s (List.mem_of_getElem? hi)
        obtain ⟨vs, hvs⟩ := key_mem hsf
        have hsc := (B2.co _ _ hvs).p
        have hnl := len_nsL a b s
        ((try walk_at "dx34"); repeat (walk_at "one" <;> (try walk_at "dx34")))
        refine for_stD (as := nsL a b s) (en := spD) (fun j (st : Sv × List Sp3) => BF (· ∈ cs) ss (stpW f hole) st.1 (fun q p => q ∈ fs.drop (i + 1) ∨ q ∈ st.2 ∨ (q = s ∧ p ∈ (nsL a b s).drop j)) ∧ st.2.Nodup ∧ (∀ q ∈ st.2, q ∈ kyV st.1) ∧ (∀ q ∈ fs, q ∈ kyV st.1) ∧ ((meaV (fl3 a b) st.1 = meaV (fl3 a b) gs ∧ st.2 = []) ∨ meaV (fl3 a b) st.1 < meaV (fl3 a b) gs)) (fun η _ => η) (fun _ st => μ ++ [.dct (st.1.map spV), .dct (st.2.map spE)]) (gs2, lt) rfl rfl ⟨?_, n2, l2, f2, m2⟩ (fun _ => trivial) ?_ ?_
        · refine ⟨B2.nd, B2.co, B2.st, fun q c hq p hp hP => (B2.cl q c hq p hp hP).imp (fun z => ?_) id, B2.vb⟩
          rcases z with z | z
          · rw [hds] at z
            rcases List.mem_cons.mp z with rfl | z
            · exact .inr (.inr ⟨rfl, (mem_nsL (hPf _ hsc).2).mpr ⟨hp, (hPf p hP).2⟩⟩)
            · exact .inl z
          · exact .inr (.inl z)
        · rintro j t ⟨gs3, lt3⟩ J3 hj ⟨B3, n3, l3, f3, m3⟩ hJ3
          simp only at B3 n3 l3 f3 m3 ⊢
          have hdj := drop_at hj
          have hnb := (mem_nsL (hPf _ hsc).2).mp (List.mem_of_getElem? hj)
          obtain ⟨v3, hv3⟩ := key_mem (f3 s (List.mem_of_getElem? hi))
          have hst := hstp s t hsc
          have hlt3 : lt3.length ≤ 200 := by
            have := nodup_len n3 l3
            rw [len_ky] at this
            have := hkl B3
            omega
          have hl3 := hkl B3
          ((try walk_at "dx34"); repeat (walk_at "one" <;> (try walk_at "dx34")))
          refine ⟨_, getV B3.nd hv3, ?_⟩
          ((try walk_at "dx34"); repeat (walk_at "one" <;> (try walk_at "dx34")))
          refine ⟨by rw [ky_wt]; exact hfn, f s, List.mem_map.mpr ⟨s, hc s hsc, rfl⟩, ?_⟩
          rw [hsp]
          ((try walk_at "dx34"); repeat (walk_at "one" <;> (try walk_at "dx34")))
          have hv0 := (B3.co _ _ hv3).nonneg hs0
          have hvb := B3.vb _ _ hv3
          have hskip : ∀ q p, (q ∈ fs.drop (i + 1) ∨ q ∈ lt3 ∨ (q = s ∧ p ∈ (nsL a b s).drop j)) → (q ∈ fs.drop (i + 1) ∨ q ∈ lt3 ∨ (q = s ∧ p ∈ (nsL a b s).drop (j + 1))) ∨ (q = s ∧ p = t) := fun q p h => by
            rw [hdj] at h
            rcases h with h | h | ⟨h, h'⟩
            · exact .inl (.inl h)
            · exact .inl (.inr (.inl h))
            · exact (List.mem_cons.mp h').elim (fun e => .inr ⟨h, e⟩) fun h' => .inl (.inr (.inr ⟨h, h'⟩))
          have no := fun z => hJ3 (gs3, lt3) ⟨B3.skip hskip z, n3, l3, f3, m3⟩
          have put := fun (ht : t ∈ cs) (z : t ∉ kyV gs3 ∨ ∃ d, (t, d) ∈ gs3 ∧ v3 + stpW f hole s t < d) => hJ3 (insV gs3 t (v3 + stpW f hole s t), insA lt3 t) ⟨(B3.put hv3 hnb.1 ht hst.2 z (E' := fun q p => q ∈ fs.drop (i + 1) ∨ q ∈ insA lt3 t ∨ (q = s ∧ p ∈ (nsL a b s).drop (j + 1))) (fun q p h => (hskip q p h).imp (fun h => h.imp id fun h => h.imp (fun h => mem_insA.mpr (.inl h)) id) id) fun p => .inr (.inl (mem_insA.mpr (.inr rfl)))), nodup_insA n3 t, fun q hq => by
              rw [ky_insV]
              exact mem_insA.mpr ((mem_insA.mp hq).imp (l3 q) id), fun q hq => by rw [ky_insV]; exact mem_insA.mpr (.inl (f3 q hq)), .inr (by
              have := mea_ins B3.nd (hc t ht) (v := v3 + stpW f hole s t) (by omega) (z.imp (fun z => ⟨z, by omega⟩) id)
              simp only
              rcases m3 with ⟨m3, _⟩ | m3 <;> omega)⟩
          clear hJ3 hJ2 hJ
          by_cases ht : t ∈ cs
          · rw [if_pos ht]
            have put := put ht
            by_cases hk : t ∈ kyV gs3
            · rw [if_neg (by simp [hk])]
              obtain ⟨d, hd⟩ := key_mem hk
              refine ⟨_, getV B3.nd hd, ?_⟩
              by_cases hlt : v3 + stpW f hole s t < d
              · have put := put (.inr ⟨d, hd, hlt⟩)
                ((try walk_at "dx34"); repeat (walk_at "one" <;> (try walk_at "dx34")))
                (have j := put; simp only [List.range_succ, List.map_append, List.map_cons, List.map_nil, fg_cons, fg_nil, List.set_cons_succ, List.set_cons_zero] at j; exact j)
              · have no := no (.inr ⟨v3, d, hv3, hd, by omega⟩)
                ((try walk_at "dx34"); repeat (walk_at "one" <;> (try walk_at "dx34")))
                try rw [if_neg hlt]
                (have j := no; simp only [List.range_succ, List.map_append, List.map_cons, List.map_nil, fg_cons, fg_nil, List.set_cons_succ, List.set_cons_zero] at j; exact j)
            · rw [if_pos (by simp [hk])]
              have put := put (.inl hk)
              ((try walk_at "dx34"); repeat (walk_at "one" <;> (try walk_at "dx34")))
              (try walk_at "ok")
              (have j := put; simp only [List.range_succ, List.map_append, List.map_cons, List.map_nil, fg_cons, fg_nil, List.set_cons_succ, List.set_cons_zero] at j; exact j)
          · rw [if_neg ht]
            have no := no (.inl ht)
            (have j := no; simp only [List.range_succ, List.map_append, List.map_cons, List.map_nil, fg_cons, fg_nil, List.set_cons_succ, List.set_cons_zero] at j; exact j)
        · rintro ⟨gs3, lt3⟩ ⟨B3, n3, l3, f3, m3⟩
          rw [List.drop_length] at B3
          have go := hJ2 (gs3, lt3) ⟨B3.mono fun q p h => h.imp id fun h => h.elim id fun h => by simp at h, n3, l3, f3, m3⟩
          clear hJ2 hJ
          ((try walk_at "dx34"); repeat (walk_at "one" <;> (try walk_at "dx34")))
          (have j := go; simp only [List.range_succ, List.map_append, List.map_cons, List.map_nil, fg_cons, fg_nil, List.set_cons_succ, List.set_cons_zero] at j; exact j)
      · rintro ⟨gs2, lt⟩ ⟨B2, n2, l2, f2, m2⟩
        rw [List.drop_length] at B2
        simp only at B2 n2 l2 f2 m2 ⊢
        have go := hJ (gs2, lt.mergeSort (leO ltS)) ⟨B2.mono fun q p h => List.mem_mergeSort.mpr (h.resolve_left (by simp)), fun q hq => l2 q (List.mem_mergeSort.mp hq)⟩ (by
          simp only [List.length_mergeSort]
          rcases m2 with ⟨m2, rfl⟩ | m2
          · simp only [List.length_nil]
            omega
          · omega)
        clear hJ
        ((try walk_at "dx34"); repeat (walk_at "one" <;> (try walk_at "dx34")))
        (have j := go; simp only [List.range_succ, List.map_append, List.map_cons, List.map_nil, fg_cons, fg_nil, List.set_cons_succ, List.set_cons_zero] at j; exact j)
local macro_rules | `(tactic| walk_at "dx35") => `(tactic| simp (disch := first | assumption | omega) only [↓exitQ_dat, startD, List.map_cons, List.map_nil, List.length_cons, List.length_nil, Nat.zero_add, Nat.reduceAdd, Nat.reduceSub, List.replicate, List.append_nil, ↓x_dOp, ↓dVar_0, ↓old_dat, ↓dVar_2, ↓dVar_1, ↓x_dCB, ↓x_aCons, ↓x_dC, ↓ix_sp, ↓ix_tupD, at_nn, Int.reduceToNat, List.getElem?_cons_zero, Option.some.injEq, ↓dVar_3, ↓ne_dd, ↓x_aNil, ↓int_b, ↓mul_int, cmul_r, true_and, exists_eq_left', ↓noD_i, and_true, dep_int, nle_h, eqv_int, ↓add_int, ↓tk_0, oLt, List.cons_append, List.nil_append, ↓x_dCell, ↓x_dNewD, ↓cell_nd, ↓nN_loc, List.set_cons_succ, List.set_cons_zero, ↓x_iSeqD, ↓seqDK_l, ↓x_gNm, ↓nN_dat, List.length_append, ↓fg_cons, ↓fg_nil, ↓x_gSb, ↓dVar_5, ↓old_loc, ↓dVar_6, ↓setD_sp, ↓get_a0, cl_dat, ↓cl_none, cl_loc, ↓cl_nil, ↓set_a0, tk_a1, lcD_d, List.length_map, nlt_h, ↓putV, ↓x_dStl, ↓c_srt, ↓srtC_V, ↓stl_new, ↓x_tVal, ↓x_dLst, ↓wDs_nil, dVar_7, ↓ne_dn, ↓noD_l, ↓noDs_nil, dep_lst, depA_nil, ↓wB_b, eqv_lst, eqvA_nn, Bool.not_true, Bool.false_eq_true, if_false, exitQ_ge, exC_d, ↓tk_a0, ↓noDs_cons, noDs_sp, Bool.and_true, depA_cons, eqvA_cn, Bool.not_false, if_true, List.append_assoc, ↓dVar_7, ↓x_dCall, ↓stl_dat, ↓aO_cons, ↓aO_nil, ↓e_law_near_steps, ↓dgetV_loc, ↓dVar_4, ↓dVar_9, ↓e_law_step_price, ↓x_tAndD, ↓memA_spD, decide_eq_true_eq, ↓x_tOrD, ↓c_memA, ↓dVar_10, ↓memC_V, ↓tk_a2, ↓oI0_ii, ilt_h, decide_true, ↓x_dFrz, ↓wD_dat, ↓dVar_8, ↓get_a1, ↓set_a1, tk_a2, ↓putE_sp, ↓srtC_sp, ↓tk_a1])
local macro_rules | `(tactic| walk_at "dx36") => `(tactic| simp (disch := first | assumption | omega) only [↓exitQ_dat, startD, List.map_cons, List.map_nil, List.length_cons, List.length_nil, Nat.zero_add, Nat.reduceAdd, Nat.reduceSub, List.replicate, List.cons_append, List.nil_append, ↓x_tOrD, ↓x_tNotD, ↓x_tVal, ↓x_dCB, ↓x_aCons, ↓dVar_0, ↓old_loc, ↓x_dRaw, ↓x_aNil, ↓c_isi_dict, if_true, ↓x_dOp, ↓c_lenD, ↓dVar_1, ↓old_dat, ↓len_dcV, ↓isiB_d, ↓wB_b, Bool.not_true, Bool.false_eq_true, if_false, ↓lnC_d, ↓ne_dd, ↓noD_i, and_true, List.length_map, dep_int, nle_h, eqv_int, true_and, ↓x_iSeqD, ↓iD_V, ↓x_gNm, ↓nN_dat, ↓fg_cons, ↓fg_nil, List.set_cons_succ, List.set_cons_zero, ↓dVar_2, ↓c_memA, cl_loc, ↓cl_dat, ↓cl_none, ↓cl_nil, ↓dgetV_loc, ↓isi_int, ↓isi_bool, ↓memC_V, ↓tk_0, ↓lcD_d, ↓isIntD_int, ↓isBoolD_int])
/-! ### two tellings of the same -/
def inV (p : Sp3 × Int) : List Key × Int := (ky3 p.1, p.2)
theorem inV_E (gs : Sv) : (gs.map inV).map intE = gs.map spV := by
  rw [List.map_map]
  rfl
theorem ky3_inj {a b : Sp3} : ky3 a = ky3 b ↔ a = b := ⟨ek3.inj a b, fun e => by rw [e]⟩
theorem getN_lk (gs : Sv) (c : Sp3) : getN (gs.map inV) (ky3 c) = lkV gs c := by
  induction gs with
  | nil => rfl
  | cons p gs ih =>
    unfold getN at ih ⊢
    unfold lkV
    rw [List.map_cons]
    by_cases h : p.1 = c
    · rw [if_pos h, List.find?_cons_of_pos (by simp [inV, h])]
      rfl
    · rw [if_neg h, List.find?_cons_of_neg (by simp [inV, ky3_inj, h])]
      exact ih
/-- the same pairs -/
structure SameV (gs ds : Sv) : Prop where
  n : (kyV gs).Nodup
  n' : (kyV ds).Nodup
  m : ∀ p c, (p, c) ∈ gs ↔ (p, c) ∈ ds
theorem SameV.len {gs ds : Sv} (S : SameV gs ds) : gs.length = ds.length := by
  have h1 := nodup_len (gs := kyV gs) (U := kyV ds) S.n fun p hp => by
    obtain ⟨v, hv⟩ := key_mem hp
    exact mem_key ((S.m p v).mp hv)
  have h2 := nodup_len (gs := kyV ds) (U := kyV gs) S.n' fun p hp => by
    obtain ⟨v, hv⟩ := key_mem hp
    exact mem_key ((S.m p v).mpr hv)
  rw [len_ky, len_ky] at *
  omega
theorem SameV.eq {gs ds : Sv} (S : SameV gs ds) : eqT (gs.map inV) (ds.map inV) = true := by
  unfold eqT
  rw [List.length_map, List.length_map, S.len, List.all_map]
  simp only [beq_self_eq_true, Bool.true_and, List.all_eq_true, Function.comp]
  intro p hp
  rw [decide_eq_true_eq]
  show getN (ds.map inV) (ky3 p.1) = some p.2
  rw [getN_lk]
  exact mem_lk S.n' ((S.m p.1 p.2).mp hp)
theorem Told.same {P : Sp3 → Prop} {P' : Sp3 → Prop} {ts : List Sp3} {stp : Sp3 → Sp3 → Int} {gs ds : Sv} (hP : ∀ c, P c ↔ P' c) (h : Told P ts stp gs) (h' : Told P' ts stp ds) : SameV gs ds := by
  have e : P = P' := funext fun c => propext (hP c)
  subst e
  exact ⟨h.nd, h'.nd, fun p c => (h.le p c).trans (h'.le p c).symm⟩
theorem eqTV {gs ds : Sv} {n : Nat} {μ : Mu} {q : PQ} (h : μ[n]? = some (.dct (gs.map spV))) (hq : q (.dat (.bool (eqT (gs.map inV) (ds.map inV)))) μ) : oEqT (.loc n) (.dat (dcV ds)) μ q := by
  unfold dcV
  rw [eqT_l, h]
  refine ⟨gs.map inV, ds.map inV, (inV_E gs).symm, ?_, hq⟩
  rw [inV_E]
  exact (PyData.dict.inj (dcV_eq ds)).symm
def sp_law_told : SpD := fun es μ q x => ∃ (n : Nat) (ds : Sv), es = [.loc n, .dat (dcV ds)] ∧ (∃ gs : Sv, μ[n]? = some (.dct (gs.map spV)) ∧ (SameV gs ds ∧ ds.length ≤ 1000) ∧ q (.dat (.bool true)) μ)
theorem e_law_told {n : Nat} {ds : Sv} {μ : Mu} {q : PQ} {x : XQ} : sp_law_told [.loc n, .dat (dcV ds)] μ q x = (∃ gs : Sv, μ[n]? = some (.dct (gs.map spV)) ∧ (SameV gs ds ∧ ds.length ≤ 1000) ∧ q (.dat (.bool true)) μ) := by
  refine propext ⟨fun hyp0 => ?_, fun hyp0 => ⟨n, ds, rfl, hyp0⟩⟩
  obtain ⟨n', ds', eq0, hyp0⟩ := hyp0
  simp only [List.cons.injEq, Exn.mk.injEq, EV.at.injEq, eq_self, EV.dat.injEq, EV.loc.injEq, EV.new.injEq, EV.ro.injEq, EV.exc.injEq, EV.per.injEq, PyData.int.injEq, PyData.str.injEq, PyData.bool.injEq, PyData.list.injEq, PyData.tuple.injEq, and_true, true_and, and_assoc, map_int_inj, dcV_inj] at eq0
  obtain ⟨rfl, rfl⟩ := eq0
  exact hyp0
theorem ok_law_told (T : Top K mg) : DefAt P w K mg base "_law_told" 1 ["_law_found", "_law_due"] [] [] sp_law_told := by
  refine def_ok sp_law_told T.F_law_told sc_law_told T.m_law_told T.b_law_told (fun cdv A outer s H E hr tk pw => (dss_cons (ds_if (dw_or (dt_not (dt_val (de_callB call_isiY cs_isi (by rfl) T.n_isinstance bb_isinstance (da_cons (dv 0) (da_cons (de_ty T.n_dict bt_dict) da_nil))))) (dw_or1 (dt_cmp (opA_ne hr.units) os_ne (de_callB call_lenA cs_lenD (by rfl) T.n_len bb_len (da_cons (dv 0) da_nil)) (de_callB call_lenA cs_lenD (by rfl) T.n_len bb_len (da_cons (dv 1) da_nil)) (nomark _)))).dt (dss_one (ds_ret de_bl)) dss_nil)
    (dss_cons (ds_forF [2] pw rfl (di_seqD (dv 1)) (dg_name (i := 2) sc_law_told.nd rfl (by first | exact Or.inl rfl | exact Or.inr rfl)) (dss_one (ds_if (dw_or (dt_cmp (opA_notIn hr.units) os_memA (dv 2) (dv 0) (by rfl)) (dw_or (dt_not (dt_val (de_callB call_isiY cs_isi (by rfl) T.n_isinstance bb_isinstance (da_cons (de_dget hr.units (dv 0) (dv 2) (fun _ _ => rfl)) (da_cons (de_ty T.n_int bt_int) da_nil))))) (dw_or1 (dt_val (de_callB call_isiY cs_isi (by rfl) T.n_isinstance bb_isinstance (da_cons (de_dget hr.units (dv 0) (dv 2) (fun _ _ => rfl)) (da_cons (de_ty T.n_bool bt_bool) da_nil))))))).dt (dss_one (ds_ret de_bl)) dss_nil)))
    (dss_one (ds_ret (de_cmp (op_eqT hr.units) os_eqT (dv 0) (dv 1) (nomark _))))))) ?_
  rintro es μ q x - ⟨n, ds, rfl, gs, hg, ⟨S, hl⟩, h⟩
  have hsl := S.len
  have hn : n < μ.length := (List.getElem?_eq_some_iff.mp hg).1
  ((try walk_at "dx36"); repeat (walk_at "one" <;> (try walk_at "dx36")))
  rw [hg]
  ((try walk_at "dx36"); repeat (walk_at "one" <;> (try walk_at "dx36")))
  rw [hg]
  ((try walk_at "dx36"); repeat (walk_at "one" <;> (try walk_at "dx36")))
  rw [if_neg (by simp [hsl])]
  ((try walk_at "dx36"); repeat (walk_at "one" <;> (try walk_at "dx36")))
  refine for_stD (as := kyV ds) (en := spD) (fun _ (_ : Unit) => True) (fun η _ => η) (fun μ _ => μ) () rfl rfl trivial (fun _ => trivial) ?_ ?_
  · rintro i c ⟨⟩ J hi - hJ
    have go := hJ () trivial
    clear hJ
    obtain ⟨v, hv⟩ := key_mem (List.mem_of_getElem? hi)
    have hv := (S.m c v).mpr hv
    have hk := mem_key hv
    have hget := getV S.n hv
    ((try walk_at "dx36"); repeat (walk_at "one" <;> (try walk_at "dx36")))
    rw [hg]
    ((try walk_at "dx36"); repeat (walk_at "one" <;> (try walk_at "dx36")))
    rw [if_neg (by simp [hk])]
    rw [hg]
    ((try walk_at "dx36"); repeat (walk_at "one" <;> (try walk_at "dx36")))
    refine ⟨_, hget, ?_⟩
    ((try walk_at "dx36"); repeat (walk_at "one" <;> (try walk_at "dx36")))
    refine ⟨_, hget, ?_⟩
    ((try walk_at "dx36"); repeat (walk_at "one" <;> (try walk_at "dx36")))
    (have j := go; simp only [List.range_succ, List.map_append, List.map_cons, List.map_nil, fg_cons, fg_nil, List.set_cons_succ, List.set_cons_zero] at j; exact j)
  · rintro ⟨⟩ -
    ((try walk_at "dx36"); repeat (walk_at "one" <;> (try walk_at "dx36")))
    refine eqTV hg ?_
    rw [S.eq]
    ((try walk_at "dx36"); repeat (walk_at "one" <;> (try walk_at "dx36")))
    exact h
local macro_rules | `(tactic| walk_at "dx37") => `(tactic| simp (disch := first | assumption | omega) only [↓exitQ_dat, startD, List.map_cons, List.map_nil, List.length_cons, List.length_nil, Nat.zero_add, Nat.reduceAdd, Nat.reduceSub, List.replicate, List.cons_append, List.nil_append, ↓x_tOrD, ↓x_tNotD, ↓x_tVal, ↓x_dCB, ↓x_aCons, ↓dVar_0, ↓old_loc, ↓x_dRaw, ↓x_aNil, ↓c_isi_dict, if_true, ↓x_dOp, ↓c_lenD, ↓dVar_1, ↓old_dat, ↓len_dcV, ↓isiB_d, ↓wB_b, Bool.not_true, Bool.false_eq_true, if_false, ↓lnC_d, ↓ne_dd, ↓noD_i, and_true, List.length_map, dep_int, nle_h, eqv_int, true_and, ↓x_iSeqD, ↓iD_V, ↓x_gNm, ↓nN_dat, ↓fg_cons, ↓fg_nil, List.set_cons_succ, List.set_cons_zero, ↓dVar_2, ↓c_memA, cl_loc, ↓cl_dat, ↓cl_none, ↓cl_nil, ↓dgetV_loc, ↓isi_int, ↓isi_bool, ↓memC_V, ↓tk_0, ↓lcD_d, ↓isIntD_int, ↓isBoolD_int])
local macro_rules | `(tactic| walk_at "dx38") => `(tactic| simp (disch := first | assumption | omega) only [↓exitQ_dat, startD, List.map_cons, List.map_nil, List.length_cons, List.length_nil, Nat.zero_add, Nat.reduceAdd, Nat.reduceSub, List.replicate, List.cons_append, List.nil_append, ↓x_dStl, ↓x_dLst, ↓x_aCons, ↓x_dFrz, ↓x_dCB, ↓dVar_0, ↓old_exc, ↓x_dRaw, ↓x_aNil, ↓wDs_cons, ↓wDs_nil, nle_h, ↓stl_new, ↓nN_dat, List.set_cons_succ, List.set_cons_zero, true_and, kd_NoSpot_NoSize, ↓wD_dat, kd_NoSpot_NoTurn, kd_NoSpot_NoTie, kd_NoSpot_NoDrawing, ↓x_dOp, ↓dVar_1, ↓old_dat, ↓add_ln, kd_NoSpot_NoOrder, kd_NoSpot_NoWeight, kd_NoSpot_NoPart, kd_NoSpot_NoSpot, ↓kd_NoSpot_NoBytes, kd_NoSpot_NoWord, kd_NoSpot_TooMany, kd_NoSpot_NoDeed, kd_NoSpot_OnShut, kd_NoSpot_Overlap, kd_NoSpot_OffFloor, kd_NoSpot_NoText, ↓x_dAndV, ↓x_dBM, ↓isLst_n, ↓x_dC, ↓cnt_n, ↓noDs_app, ↓noDs_cons, ↓noD_b, ↓noDs_nil, Bool.and_true, Bool.true_and, and_true, dep_bool, ↓eq_dd, ↓noD_i, dep_int, ↓wB_b, eqv_int, decide_eq_true_eq, kd_NoSpot_ValueError, kd_NoSpot_NoWay, kd_NoSpot_TooNear, ↓tk_0, kd_NoWeight_NoSize, kd_NoWeight_NoTurn, kd_NoWeight_NoTie, kd_NoWeight_NoDrawing, kd_NoWeight_NoOrder, kd_NoWeight_NoWeight, kd_NoWeight_NoPart, kd_NoWeight_NoSpot, kd_NoWeight_NoWord, kd_NoWeight_TooMany, kd_NoWeight_NoBytes, kd_NoWeight_NoDeed, kd_NoWeight_OnShut, kd_NoWeight_Overlap, kd_NoWeight_OffFloor, kd_NoWeight_NoText, kd_NoWeight_ValueError, kd_NoWeight_NoWay, kd_NoWeight_TooNear, ↓x_dCall, ↓stl_dat, ↓dVar_2, ↓old_per, ↓stl_per, ↓dVar_3, ↓aO_cons, ↓nN_per, ↓aO_nil, List.append_nil, ↓e_waves, ↓dVar_5, ↓stl_exc, ↓nN_exc, ↓x_tVal, ↓dVar_4, ↓x_oIsN, isRaw, DL.isNon, Bool.false_eq_true, if_false, ↓x_tNotD, Bool.not_true, ↓int_b, ↓mul_int, cmul_l, ↓add_int, ↓ix_new, if_true, at_nn])
section
variable {K : PySem.W.Frag} {mg : Str → Option Value} {D : Addr → Prop} {μ : Mu} {q : PQ}
theorem ki_NoSpot_NoBytes (T : Top K mg) : PySem.W.kitOne K (.ref T.c_NoSpot) (.ref T.c_NoBytes) = some false := kit_ref T.ne_NoSpot_NoBytes T.hd_NoBytes T.xt_NoBytes T.sb_NoSpot_NoBytes
theorem ki_NoSpot_NoDeed (T : Top K mg) : PySem.W.kitOne K (.ref T.c_NoSpot) (.ref T.c_NoDeed) = some false := kit_ref T.ne_NoSpot_NoDeed T.hd_NoDeed T.xt_NoDeed T.sb_NoSpot_NoDeed
theorem ki_NoSpot_NoDrawing (T : Top K mg) : PySem.W.kitOne K (.ref T.c_NoSpot) (.ref T.c_NoDrawing) = some false := kit_ref T.ne_NoSpot_NoDrawing T.hd_NoDrawing T.xt_NoDrawing T.sb_NoSpot_NoDrawing
theorem ki_NoSpot_NoOrder (T : Top K mg) : PySem.W.kitOne K (.ref T.c_NoSpot) (.ref T.c_NoOrder) = some false := kit_ref T.ne_NoSpot_NoOrder T.hd_NoOrder T.xt_NoOrder T.sb_NoSpot_NoOrder
theorem ki_NoSpot_NoPart (T : Top K mg) : PySem.W.kitOne K (.ref T.c_NoSpot) (.ref T.c_NoPart) = some false := kit_ref T.ne_NoSpot_NoPart T.hd_NoPart T.xt_NoPart T.sb_NoSpot_NoPart
theorem ki_NoSpot_NoSize (T : Top K mg) : PySem.W.kitOne K (.ref T.c_NoSpot) (.ref T.c_NoSize) = some false := kit_ref T.ne_NoSpot_NoSize T.hd_NoSize T.xt_NoSize T.sb_NoSpot_NoSize
theorem ki_NoSpot_NoSpot (T : Top K mg) : PySem.W.kitOne K (.ref T.c_NoSpot) (.ref T.c_NoSpot) = some true := kit_self
theorem ki_NoSpot_NoText (T : Top K mg) : PySem.W.kitOne K (.ref T.c_NoSpot) (.ref T.c_NoText) = some false := kit_ref T.ne_NoSpot_NoText T.hd_NoText T.xt_NoText T.sb_NoSpot_NoText
theorem ki_NoSpot_NoTie (T : Top K mg) : PySem.W.kitOne K (.ref T.c_NoSpot) (.ref T.c_NoTie) = some false := kit_ref T.ne_NoSpot_NoTie T.hd_NoTie T.xt_NoTie T.sb_NoSpot_NoTie
theorem ki_NoSpot_NoTurn (T : Top K mg) : PySem.W.kitOne K (.ref T.c_NoSpot) (.ref T.c_NoTurn) = some false := kit_ref T.ne_NoSpot_NoTurn T.hd_NoTurn T.xt_NoTurn T.sb_NoSpot_NoTurn
theorem ki_NoSpot_NoWay (T : Top K mg) : PySem.W.kitOne K (.ref T.c_NoSpot) (.ref T.c_NoWay) = some false := kit_ref T.ne_NoSpot_NoWay T.hd_NoWay T.xt_NoWay T.sb_NoSpot_NoWay
theorem ki_NoSpot_NoWeight (T : Top K mg) : PySem.W.kitOne K (.ref T.c_NoSpot) (.ref T.c_NoWeight) = some false := kit_ref T.ne_NoSpot_NoWeight T.hd_NoWeight T.xt_NoWeight T.sb_NoSpot_NoWeight
theorem ki_NoSpot_NoWord (T : Top K mg) : PySem.W.kitOne K (.ref T.c_NoSpot) (.ref T.c_NoWord) = some false := kit_ref T.ne_NoSpot_NoWord T.hd_NoWord T.xt_NoWord T.sb_NoSpot_NoWord
theorem ki_NoSpot_OffFloor (T : Top K mg) : PySem.W.kitOne K (.ref T.c_NoSpot) (.ref T.c_OffFloor) = some false := kit_ref T.ne_NoSpot_OffFloor T.hd_OffFloor T.xt_OffFloor T.sb_NoSpot_OffFloor
theorem ki_NoSpot_OnShut (T : Top K mg) : PySem.W.kitOne K (.ref T.c_NoSpot) (.ref T.c_OnShut) = some false := kit_ref T.ne_NoSpot_OnShut T.hd_OnShut T.xt_OnShut T.sb_NoSpot_OnShut
theorem ki_NoSpot_Overlap (T : Top K mg) : PySem.W.kitOne K (.ref T.c_NoSpot) (.ref T.c_Overlap) = some false := kit_ref T.ne_NoSpot_Overlap T.hd_Overlap T.xt_Overlap T.sb_NoSpot_Overlap
theorem ki_NoSpot_TooMany (T : Top K mg) : PySem.W.kitOne K (.ref T.c_NoSpot) (.ref T.c_TooMany) = some false := kit_ref T.ne_NoSpot_TooMany T.hd_TooMany T.xt_TooMany T.sb_NoSpot_TooMany
theorem ki_NoSpot_TooNear (T : Top K mg) : PySem.W.kitOne K (.ref T.c_NoSpot) (.ref T.c_TooNear) = some false := kit_ref T.ne_NoSpot_TooNear T.hd_TooNear T.xt_TooNear T.sb_NoSpot_TooNear
theorem ki_NoSpot_ValueError (T : Top K mg) : PySem.W.kitOne K (.ref T.c_NoSpot) (.type "ValueError") = some true := kit_typ (by decide +kernel) (by intro h; cases h) T.sb_NoSpot_ValueError
theorem em_NoSpot_BoardError (T : Top K mg) : PySem.W.exmOne K (.ref T.c_NoSpot) (.ref T.c_BoardError) = some true := PySem.W.exm_ref T.xb_BoardError T.hd_BoardError T.xt_BoardError T.sb_NoSpot_BoardError
theorem ki_NoWeight_NoBytes (T : Top K mg) : PySem.W.kitOne K (.ref T.c_NoWeight) (.ref T.c_NoBytes) = some false := kit_ref T.ne_NoWeight_NoBytes T.hd_NoBytes T.xt_NoBytes T.sb_NoWeight_NoBytes
theorem ki_NoWeight_NoDeed (T : Top K mg) : PySem.W.kitOne K (.ref T.c_NoWeight) (.ref T.c_NoDeed) = some false := kit_ref T.ne_NoWeight_NoDeed T.hd_NoDeed T.xt_NoDeed T.sb_NoWeight_NoDeed
theorem ki_NoWeight_NoDrawing (T : Top K mg) : PySem.W.kitOne K (.ref T.c_NoWeight) (.ref T.c_NoDrawing) = some false := kit_ref T.ne_NoWeight_NoDrawing T.hd_NoDrawing T.xt_NoDrawing T.sb_NoWeight_NoDrawing
theorem ki_NoWeight_NoOrder (T : Top K mg) : PySem.W.kitOne K (.ref T.c_NoWeight) (.ref T.c_NoOrder) = some false := kit_ref T.ne_NoWeight_NoOrder T.hd_NoOrder T.xt_NoOrder T.sb_NoWeight_NoOrder
theorem ki_NoWeight_NoPart (T : Top K mg) : PySem.W.kitOne K (.ref T.c_NoWeight) (.ref T.c_NoPart) = some false := kit_ref T.ne_NoWeight_NoPart T.hd_NoPart T.xt_NoPart T.sb_NoWeight_NoPart
theorem ki_NoWeight_NoSize (T : Top K mg) : PySem.W.kitOne K (.ref T.c_NoWeight) (.ref T.c_NoSize) = some false := kit_ref T.ne_NoWeight_NoSize T.hd_NoSize T.xt_NoSize T.sb_NoWeight_NoSize
theorem ki_NoWeight_NoSpot (T : Top K mg) : PySem.W.kitOne K (.ref T.c_NoWeight) (.ref T.c_NoSpot) = some false := kit_ref T.ne_NoWeight_NoSpot T.hd_NoSpot T.xt_NoSpot T.sb_NoWeight_NoSpot
theorem ki_NoWeight_NoText (T : Top K mg) : PySem.W.kitOne K (.ref T.c_NoWeight) (.ref T.c_NoText) = some false := kit_ref T.ne_NoWeight_NoText T.hd_NoText T.xt_NoText T.sb_NoWeight_NoText
theorem ki_NoWeight_NoTie (T : Top K mg) : PySem.W.kitOne K (.ref T.c_NoWeight) (.ref T.c_NoTie) = some false := kit_ref T.ne_NoWeight_NoTie T.hd_NoTie T.xt_NoTie T.sb_NoWeight_NoTie
theorem ki_NoWeight_NoTurn (T : Top K mg) : PySem.W.kitOne K (.ref T.c_NoWeight) (.ref T.c_NoTurn) = some false := kit_ref T.ne_NoWeight_NoTurn T.hd_NoTurn T.xt_NoTurn T.sb_NoWeight_NoTurn
theorem ki_NoWeight_NoWay (T : Top K mg) : PySem.W.kitOne K (.ref T.c_NoWeight) (.ref T.c_NoWay) = some false := kit_ref T.ne_NoWeight_NoWay T.hd_NoWay T.xt_NoWay T.sb_NoWeight_NoWay
theorem ki_NoWeight_NoWeight (T : Top K mg) : PySem.W.kitOne K (.ref T.c_NoWeight) (.ref T.c_NoWeight) = some true := kit_self
theorem ki_NoWeight_NoWord (T : Top K mg) : PySem.W.kitOne K (.ref T.c_NoWeight) (.ref T.c_NoWord) = some false := kit_ref T.ne_NoWeight_NoWord T.hd_NoWord T.xt_NoWord T.sb_NoWeight_NoWord
theorem ki_NoWeight_OffFloor (T : Top K mg) : PySem.W.kitOne K (.ref T.c_NoWeight) (.ref T.c_OffFloor) = some false := kit_ref T.ne_NoWeight_OffFloor T.hd_OffFloor T.xt_OffFloor T.sb_NoWeight_OffFloor
theorem ki_NoWeight_OnShut (T : Top K mg) : PySem.W.kitOne K (.ref T.c_NoWeight) (.ref T.c_OnShut) = some false := kit_ref T.ne_NoWeight_OnShut T.hd_OnShut T.xt_OnShut T.sb_NoWeight_OnShut
theorem ki_NoWeight_Overlap (T : Top K mg) : PySem.W.kitOne K (.ref T.c_NoWeight) (.ref T.c_Overlap) = some false := kit_ref T.ne_NoWeight_Overlap T.hd_Overlap T.xt_Overlap T.sb_NoWeight_Overlap
theorem ki_NoWeight_TooMany (T : Top K mg) : PySem.W.kitOne K (.ref T.c_NoWeight) (.ref T.c_TooMany) = some false := kit_ref T.ne_NoWeight_TooMany T.hd_TooMany T.xt_TooMany T.sb_NoWeight_TooMany
theorem ki_NoWeight_TooNear (T : Top K mg) : PySem.W.kitOne K (.ref T.c_NoWeight) (.ref T.c_TooNear) = some false := kit_ref T.ne_NoWeight_TooNear T.hd_TooNear T.xt_TooNear T.sb_NoWeight_TooNear
theorem ki_NoWeight_ValueError (T : Top K mg) : PySem.W.kitOne K (.ref T.c_NoWeight) (.type "ValueError") = some true := kit_typ (by decide +kernel) (by intro h; cases h) T.sb_NoWeight_ValueError
theorem em_NoWeight_BoardError (T : Top K mg) : PySem.W.exmOne K (.ref T.c_NoWeight) (.ref T.c_BoardError) = some true := PySem.W.exm_ref T.xb_BoardError T.hd_BoardError T.xt_BoardError T.sb_NoWeight_BoardError
theorem kd_NoSpot_NoBytes (T : Top K mg) {fs : Option (List (Str × PyData))} : oIsK K D [.exc ⟨T.c_NoSpot, fs⟩, .raw (.ref T.c_NoBytes)] μ q = q (.dat (.bool false)) μ := isK_mk T.xe_NoSpot rel_ref rfl (ki_NoSpot_NoBytes T)
theorem kd_NoSpot_NoDeed (T : Top K mg) {fs : Option (List (Str × PyData))} : oIsK K D [.exc ⟨T.c_NoSpot, fs⟩, .raw (.ref T.c_NoDeed)] μ q = q (.dat (.bool false)) μ := isK_mk T.xe_NoSpot rel_ref rfl (ki_NoSpot_NoDeed T)
theorem kd_NoSpot_NoDrawing (T : Top K mg) {fs : Option (List (Str × PyData))} : oIsK K D [.exc ⟨T.c_NoSpot, fs⟩, .raw (.ref T.c_NoDrawing)] μ q = q (.dat (.bool false)) μ := isK_mk T.xe_NoSpot rel_ref rfl (ki_NoSpot_NoDrawing T)
theorem kd_NoSpot_NoOrder (T : Top K mg) {fs : Option (List (Str × PyData))} : oIsK K D [.exc ⟨T.c_NoSpot, fs⟩, .raw (.ref T.c_NoOrder)] μ q = q (.dat (.bool false)) μ := isK_mk T.xe_NoSpot rel_ref rfl (ki_NoSpot_NoOrder T)
theorem kd_NoSpot_NoPart (T : Top K mg) {fs : Option (List (Str × PyData))} : oIsK K D [.exc ⟨T.c_NoSpot, fs⟩, .raw (.ref T.c_NoPart)] μ q = q (.dat (.bool false)) μ := isK_mk T.xe_NoSpot rel_ref rfl (ki_NoSpot_NoPart T)
theorem kd_NoSpot_NoSize (T : Top K mg) {fs : Option (List (Str × PyData))} : oIsK K D [.exc ⟨T.c_NoSpot, fs⟩, .raw (.ref T.c_NoSize)] μ q = q (.dat (.bool false)) μ := isK_mk T.xe_NoSpot rel_ref rfl (ki_NoSpot_NoSize T)
theorem kd_NoSpot_NoSpot (T : Top K mg) {fs : Option (List (Str × PyData))} : oIsK K D [.exc ⟨T.c_NoSpot, fs⟩, .raw (.ref T.c_NoSpot)] μ q = q (.dat (.bool true)) μ := isK_mk T.xe_NoSpot rel_ref rfl (ki_NoSpot_NoSpot T)
theorem kd_NoSpot_NoText (T : Top K mg) {fs : Option (List (Str × PyData))} : oIsK K D [.exc ⟨T.c_NoSpot, fs⟩, .raw (.ref T.c_NoText)] μ q = q (.dat (.bool false)) μ := isK_mk T.xe_NoSpot rel_ref rfl (ki_NoSpot_NoText T)
theorem kd_NoSpot_NoTie (T : Top K mg) {fs : Option (List (Str × PyData))} : oIsK K D [.exc ⟨T.c_NoSpot, fs⟩, .raw (.ref T.c_NoTie)] μ q = q (.dat (.bool false)) μ := isK_mk T.xe_NoSpot rel_ref rfl (ki_NoSpot_NoTie T)
theorem kd_NoSpot_NoTurn (T : Top K mg) {fs : Option (List (Str × PyData))} : oIsK K D [.exc ⟨T.c_NoSpot, fs⟩, .raw (.ref T.c_NoTurn)] μ q = q (.dat (.bool false)) μ := isK_mk T.xe_NoSpot rel_ref rfl (ki_NoSpot_NoTurn T)
theorem kd_NoSpot_NoWay (T : Top K mg) {fs : Option (List (Str × PyData))} : oIsK K D [.exc ⟨T.c_NoSpot, fs⟩, .raw (.ref T.c_NoWay)] μ q = q (.dat (.bool false)) μ := isK_mk T.xe_NoSpot rel_ref rfl (ki_NoSpot_NoWay T)
theorem kd_NoSpot_NoWeight (T : Top K mg) {fs : Option (List (Str × PyData))} : oIsK K D [.exc ⟨T.c_NoSpot, fs⟩, .raw (.ref T.c_NoWeight)] μ q = q (.dat (.bool false)) μ := isK_mk T.xe_NoSpot rel_ref rfl (ki_NoSpot_NoWeight T)
theorem kd_NoSpot_NoWord (T : Top K mg) {fs : Option (List (Str × PyData))} : oIsK K D [.exc ⟨T.c_NoSpot, fs⟩, .raw (.ref T.c_NoWord)] μ q = q (.dat (.bool false)) μ := isK_mk T.xe_NoSpot rel_ref rfl (ki_NoSpot_NoWord T)
theorem kd_NoSpot_OffFloor (T : Top K mg) {fs : Option (List (Str × PyData))} : oIsK K D [.exc ⟨T.c_NoSpot, fs⟩, .raw (.ref T.c_OffFloor)] μ q = q (.dat (.bool false)) μ := isK_mk T.xe_NoSpot rel_ref rfl (ki_NoSpot_OffFloor T)
theorem kd_NoSpot_OnShut (T : Top K mg) {fs : Option (List (Str × PyData))} : oIsK K D [.exc ⟨T.c_NoSpot, fs⟩, .raw (.ref T.c_OnShut)] μ q = q (.dat (.bool false)) μ := isK_mk T.xe_NoSpot rel_ref rfl (ki_NoSpot_OnShut T)
theorem kd_NoSpot_Overlap (T : Top K mg) {fs : Option (List (Str × PyData))} : oIsK K D [.exc ⟨T.c_NoSpot, fs⟩, .raw (.ref T.c_Overlap)] μ q = q (.dat (.bool false)) μ := isK_mk T.xe_NoSpot rel_ref rfl (ki_NoSpot_Overlap T)
theorem kd_NoSpot_TooMany (T : Top K mg) {fs : Option (List (Str × PyData))} : oIsK K D [.exc ⟨T.c_NoSpot, fs⟩, .raw (.ref T.c_TooMany)] μ q = q (.dat (.bool false)) μ := isK_mk T.xe_NoSpot rel_ref rfl (ki_NoSpot_TooMany T)
theorem kd_NoSpot_TooNear (T : Top K mg) {fs : Option (List (Str × PyData))} : oIsK K D [.exc ⟨T.c_NoSpot, fs⟩, .raw (.ref T.c_TooNear)] μ q = q (.dat (.bool false)) μ := isK_mk T.xe_NoSpot rel_ref rfl (ki_NoSpot_TooNear T)
theorem kd_NoSpot_ValueError (T : Top K mg) {fs : Option (List (Str × PyData))} : oIsK K D [.exc ⟨T.c_NoSpot, fs⟩, .raw (.ty "ValueError")] μ q = q (.dat (.bool true)) μ := isK_mk T.xe_NoSpot rel_ty rfl (ki_NoSpot_ValueError T)
theorem kd_NoWeight_NoBytes (T : Top K mg) {fs : Option (List (Str × PyData))} : oIsK K D [.exc ⟨T.c_NoWeight, fs⟩, .raw (.ref T.c_NoBytes)] μ q = q (.dat (.bool false)) μ := isK_mk T.xe_NoWeight rel_ref rfl (ki_NoWeight_NoBytes T)
theorem kd_NoWeight_NoDeed (T : Top K mg) {fs : Option (List (Str × PyData))} : oIsK K D [.exc ⟨T.c_NoWeight, fs⟩, .raw (.ref T.c_NoDeed)] μ q = q (.dat (.bool false)) μ := isK_mk T.xe_NoWeight rel_ref rfl (ki_NoWeight_NoDeed T)
theorem kd_NoWeight_NoDrawing (T : Top K mg) {fs : Option (List (Str × PyData))} : oIsK K D [.exc ⟨T.c_NoWeight, fs⟩, .raw (.ref T.c_NoDrawing)] μ q = q (.dat (.bool false)) μ := isK_mk T.xe_NoWeight rel_ref rfl (ki_NoWeight_NoDrawing T)
theorem kd_NoWeight_NoOrder (T : Top K mg) {fs : Option (List (Str × PyData))} : oIsK K D [.exc ⟨T.c_NoWeight, fs⟩, .raw (.ref T.c_NoOrder)] μ q = q (.dat (.bool false)) μ := isK_mk T.xe_NoWeight rel_ref rfl (ki_NoWeight_NoOrder T)
theorem kd_NoWeight_NoPart (T : Top K mg) {fs : Option (List (Str × PyData))} : oIsK K D [.exc ⟨T.c_NoWeight, fs⟩, .raw (.ref T.c_NoPart)] μ q = q (.dat (.bool false)) μ := isK_mk T.xe_NoWeight rel_ref rfl (ki_NoWeight_NoPart T)
theorem kd_NoWeight_NoSize (T : Top K mg) {fs : Option (List (Str × PyData))} : oIsK K D [.exc ⟨T.c_NoWeight, fs⟩, .raw (.ref T.c_NoSize)] μ q = q (.dat (.bool false)) μ := isK_mk T.xe_NoWeight rel_ref rfl (ki_NoWeight_NoSize T)
theorem kd_NoWeight_NoSpot (T : Top K mg) {fs : Option (List (Str × PyData))} : oIsK K D [.exc ⟨T.c_NoWeight, fs⟩, .raw (.ref T.c_NoSpot)] μ q = q (.dat (.bool false)) μ := isK_mk T.xe_NoWeight rel_ref rfl (ki_NoWeight_NoSpot T)
theorem kd_NoWeight_NoText (T : Top K mg) {fs : Option (List (Str × PyData))} : oIsK K D [.exc ⟨T.c_NoWeight, fs⟩, .raw (.ref T.c_NoText)] μ q = q (.dat (.bool false)) μ := isK_mk T.xe_NoWeight rel_ref rfl (ki_NoWeight_NoText T)
theorem kd_NoWeight_NoTie (T : Top K mg) {fs : Option (List (Str × PyData))} : oIsK K D [.exc ⟨T.c_NoWeight, fs⟩, .raw (.ref T.c_NoTie)] μ q = q (.dat (.bool false)) μ := isK_mk T.xe_NoWeight rel_ref rfl (ki_NoWeight_NoTie T)
theorem kd_NoWeight_NoTurn (T : Top K mg) {fs : Option (List (Str × PyData))} : oIsK K D [.exc ⟨T.c_NoWeight, fs⟩, .raw (.ref T.c_NoTurn)] μ q = q (.dat (.bool false)) μ := isK_mk T.xe_NoWeight rel_ref rfl (ki_NoWeight_NoTurn T)
theorem kd_NoWeight_NoWay (T : Top K mg) {fs : Option (List (Str × PyData))} : oIsK K D [.exc ⟨T.c_NoWeight, fs⟩, .raw (.ref T.c_NoWay)] μ q = q (.dat (.bool false)) μ := isK_mk T.xe_NoWeight rel_ref rfl (ki_NoWeight_NoWay T)
theorem kd_NoWeight_NoWeight (T : Top K mg) {fs : Option (List (Str × PyData))} : oIsK K D [.exc ⟨T.c_NoWeight, fs⟩, .raw (.ref T.c_NoWeight)] μ q = q (.dat (.bool true)) μ := isK_mk T.xe_NoWeight rel_ref rfl (ki_NoWeight_NoWeight T)
theorem kd_NoWeight_NoWord (T : Top K mg) {fs : Option (List (Str × PyData))} : oIsK K D [.exc ⟨T.c_NoWeight, fs⟩, .raw (.ref T.c_NoWord)] μ q = q (.dat (.bool false)) μ := isK_mk T.xe_NoWeight rel_ref rfl (ki_NoWeight_NoWord T)
theorem kd_NoWeight_OffFloor (T : Top K mg) {fs : Option (List (Str × PyData))} : oIsK K D [.exc ⟨T.c_NoWeight, fs⟩, .raw (.ref T.c_OffFloor)] μ q = q (.dat (.bool false)) μ := isK_mk T.xe_NoWeight rel_ref rfl (ki_NoWeight_OffFloor T)
theorem kd_NoWeight_OnShut (T : Top K mg) {fs : Option (List (Str × PyData))} : oIsK K D [.exc ⟨T.c_NoWeight, fs⟩, .raw (.ref T.c_OnShut)] μ q = q (.dat (.bool false)) μ := isK_mk T.xe_NoWeight rel_ref rfl (ki_NoWeight_OnShut T)
theorem kd_NoWeight_Overlap (T : Top K mg) {fs : Option (List (Str × PyData))} : oIsK K D [.exc ⟨T.c_NoWeight, fs⟩, .raw (.ref T.c_Overlap)] μ q = q (.dat (.bool false)) μ := isK_mk T.xe_NoWeight rel_ref rfl (ki_NoWeight_Overlap T)
theorem kd_NoWeight_TooMany (T : Top K mg) {fs : Option (List (Str × PyData))} : oIsK K D [.exc ⟨T.c_NoWeight, fs⟩, .raw (.ref T.c_TooMany)] μ q = q (.dat (.bool false)) μ := isK_mk T.xe_NoWeight rel_ref rfl (ki_NoWeight_TooMany T)
theorem kd_NoWeight_TooNear (T : Top K mg) {fs : Option (List (Str × PyData))} : oIsK K D [.exc ⟨T.c_NoWeight, fs⟩, .raw (.ref T.c_TooNear)] μ q = q (.dat (.bool false)) μ := isK_mk T.xe_NoWeight rel_ref rfl (ki_NoWeight_TooNear T)
theorem kd_NoWeight_ValueError (T : Top K mg) {fs : Option (List (Str × PyData))} : oIsK K D [.exc ⟨T.c_NoWeight, fs⟩, .raw (.ty "ValueError")] μ q = q (.dat (.bool true)) μ := isK_mk T.xe_NoWeight rel_ty rfl (ki_NoWeight_ValueError T)
end
local macro_rules | `(tactic| walk_at "dx39") => `(tactic| simp (disch := first | assumption | omega) only [↓exitQ_dat, startD, List.map_cons, List.map_nil, List.length_cons, List.length_nil, Nat.zero_add, Nat.reduceAdd, Nat.reduceSub, List.replicate, List.cons_append, List.nil_append, ↓x_dStl, ↓x_dLst, ↓x_aCons, ↓x_dFrz, ↓x_dCB, ↓dVar_0, ↓old_exc, ↓x_dRaw, ↓x_aNil, ↓wDs_cons, ↓wDs_nil, nle_h, ↓stl_new, ↓nN_dat, List.set_cons_succ, List.set_cons_zero, true_and, kd_NoSpot_NoSize, ↓wD_dat, kd_NoSpot_NoTurn, kd_NoSpot_NoTie, kd_NoSpot_NoDrawing, ↓x_dOp, ↓dVar_1, ↓old_dat, ↓add_ln, kd_NoSpot_NoOrder, kd_NoSpot_NoWeight, kd_NoSpot_NoPart, kd_NoSpot_NoSpot, ↓kd_NoSpot_NoBytes, kd_NoSpot_NoWord, kd_NoSpot_TooMany, kd_NoSpot_NoDeed, kd_NoSpot_OnShut, kd_NoSpot_Overlap, kd_NoSpot_OffFloor, kd_NoSpot_NoText, ↓x_dAndV, ↓x_dBM, ↓isLst_n, ↓x_dC, ↓cnt_n, ↓noDs_app, ↓noDs_cons, ↓noD_b, ↓noDs_nil, Bool.and_true, Bool.true_and, and_true, dep_bool, ↓eq_dd, ↓noD_i, dep_int, ↓wB_b, eqv_int, decide_eq_true_eq, kd_NoSpot_ValueError, kd_NoSpot_NoWay, kd_NoSpot_TooNear, ↓tk_0, kd_NoWeight_NoSize, kd_NoWeight_NoTurn, kd_NoWeight_NoTie, kd_NoWeight_NoDrawing, kd_NoWeight_NoOrder, kd_NoWeight_NoWeight, kd_NoWeight_NoPart, kd_NoWeight_NoSpot, kd_NoWeight_NoWord, kd_NoWeight_TooMany, kd_NoWeight_NoBytes, kd_NoWeight_NoDeed, kd_NoWeight_OnShut, kd_NoWeight_Overlap, kd_NoWeight_OffFloor, kd_NoWeight_NoText, kd_NoWeight_ValueError, kd_NoWeight_NoWay, kd_NoWeight_TooNear, ↓x_dCall, ↓stl_dat, ↓dVar_2, ↓old_per, ↓stl_per, ↓dVar_3, ↓aO_cons, ↓nN_per, ↓aO_nil, List.append_nil, ↓e_waves, ↓dVar_5, ↓stl_exc, ↓nN_exc, ↓x_tVal, ↓dVar_4, ↓x_oIsN, isRaw, DL.isNon, Bool.false_eq_true, if_false, ↓x_tNotD, Bool.not_true, ↓int_b, ↓mul_int, cmul_l, ↓add_int, ↓ix_new, if_true, at_nn])
def sp_law_alone (T : Top K mg) : SpD := fun es μ q x => ∃ (c : Addr), es = [.exc ⟨c, none⟩] ∧ ((c = T.c_NoSpot ∨ c = T.c_NoWeight) ∧ q (.dat (.bool true)) μ)
theorem e_law_alone (T : Top K mg) {c : Addr} {μ : Mu} {q : PQ} {x : XQ} : sp_law_alone T [.exc ⟨c, none⟩] μ q x = ((c = T.c_NoSpot ∨ c = T.c_NoWeight) ∧ q (.dat (.bool true)) μ) := by
  refine propext ⟨fun hyp0 => ?_, fun hyp0 => ⟨c, rfl, hyp0⟩⟩
  obtain ⟨c', eq0, hyp0⟩ := hyp0
  simp only [List.cons.injEq, Exn.mk.injEq, EV.at.injEq, eq_self, EV.dat.injEq, EV.loc.injEq, EV.new.injEq, EV.ro.injEq, EV.exc.injEq, EV.per.injEq, PyData.int.injEq, PyData.str.injEq, PyData.bool.injEq, PyData.list.injEq, PyData.tuple.injEq, and_true, true_and, and_assoc, map_int_inj, ] at eq0
  subst eq0
  exact hyp0
theorem ok_law_alone (T : Top K mg) : DefAt P w K mg base "_law_alone" 1 ["_law_e"] [] [] (sp_law_alone T) := by
  refine def_ok (sp_law_alone T) T.F_law_alone sc_law_alone T.m_law_alone T.b_law_alone (fun cdv A outer s H E hr tk pw => (dss_cons (ds_set (i := 1) sc_law_alone.nd rfl (by first | exact Or.inl rfl | exact Or.inr rfl) (de_stl (de_lst (da_cons (de_frz (de_callB call_isK (cs_isK (K := K) (D := fun _ => True)) (by rfl) T.n_isinstance bb_isinstance (da_cons (dv 0) (da_cons (de_gcls T.gx_NoDrawing) da_nil)))) (da_cons (de_frz (de_callB call_isK (cs_isK (K := K) (D := fun _ => True)) (by rfl) T.n_isinstance bb_isinstance (da_cons (dv 0) (da_cons (de_gcls T.gx_NoTie) da_nil)))) (da_cons (de_frz (de_callB call_isK (cs_isK (K := K) (D := fun _ => True)) (by rfl) T.n_isinstance bb_isinstance (da_cons (dv 0) (da_cons (de_gcls T.gx_NoTurn) da_nil)))) (da_cons (de_frz (de_callB call_isK (cs_isK (K := K) (D := fun _ => True)) (by rfl) T.n_isinstance bb_isinstance (da_cons (dv 0) (da_cons (de_gcls T.gx_NoSize) da_nil)))) da_nil)))))))
    (dss_cons (ds_set (i := 1) sc_law_alone.nd rfl (by first | exact Or.inl rfl | exact Or.inr rfl) (de_stl (de_op opA_add os_add (dv 1) (de_lst (da_cons (de_frz (de_callB call_isK (cs_isK (K := K) (D := fun _ => True)) (by rfl) T.n_isinstance bb_isinstance (da_cons (dv 0) (da_cons (de_gcls T.gx_NoSpot) da_nil)))) (da_cons (de_frz (de_callB call_isK (cs_isK (K := K) (D := fun _ => True)) (by rfl) T.n_isinstance bb_isinstance (da_cons (dv 0) (da_cons (de_gcls T.gx_NoPart) da_nil)))) (da_cons (de_frz (de_callB call_isK (cs_isK (K := K) (D := fun _ => True)) (by rfl) T.n_isinstance bb_isinstance (da_cons (dv 0) (da_cons (de_gcls T.gx_NoWeight) da_nil)))) (da_cons (de_frz (de_callB call_isK (cs_isK (K := K) (D := fun _ => True)) (by rfl) T.n_isinstance bb_isinstance (da_cons (dv 0) (da_cons (de_gcls T.gx_NoOrder) da_nil)))) da_nil))))))))
    (dss_cons (ds_set (i := 1) sc_law_alone.nd rfl (by first | exact Or.inl rfl | exact Or.inr rfl) (de_stl (de_op opA_add os_add (dv 1) (de_lst (da_cons (de_frz (de_callB call_isK (cs_isK (K := K) (D := fun _ => True)) (by rfl) T.n_isinstance bb_isinstance (da_cons (dv 0) (da_cons (de_gcls T.gx_NoDeed) da_nil)))) (da_cons (de_frz (de_callB call_isK (cs_isK (K := K) (D := fun _ => True)) (by rfl) T.n_isinstance bb_isinstance (da_cons (dv 0) (da_cons (de_gcls T.gx_NoBytes) da_nil)))) (da_cons (de_frz (de_callB call_isK (cs_isK (K := K) (D := fun _ => True)) (by rfl) T.n_isinstance bb_isinstance (da_cons (dv 0) (da_cons (de_gcls T.gx_TooMany) da_nil)))) (da_cons (de_frz (de_callB call_isK (cs_isK (K := K) (D := fun _ => True)) (by rfl) T.n_isinstance bb_isinstance (da_cons (dv 0) (da_cons (de_gcls T.gx_NoWord) da_nil)))) da_nil))))))))
    (dss_cons (ds_set (i := 1) sc_law_alone.nd rfl (by first | exact Or.inl rfl | exact Or.inr rfl) (de_stl (de_op opA_add os_add (dv 1) (de_lst (da_cons (de_frz (de_callB call_isK (cs_isK (K := K) (D := fun _ => True)) (by rfl) T.n_isinstance bb_isinstance (da_cons (dv 0) (da_cons (de_gcls T.gx_NoText) da_nil)))) (da_cons (de_frz (de_callB call_isK (cs_isK (K := K) (D := fun _ => True)) (by rfl) T.n_isinstance bb_isinstance (da_cons (dv 0) (da_cons (de_gcls T.gx_OffFloor) da_nil)))) (da_cons (de_frz (de_callB call_isK (cs_isK (K := K) (D := fun _ => True)) (by rfl) T.n_isinstance bb_isinstance (da_cons (dv 0) (da_cons (de_gcls T.gx_Overlap) da_nil)))) (da_cons (de_frz (de_callB call_isK (cs_isK (K := K) (D := fun _ => True)) (by rfl) T.n_isinstance bb_isinstance (da_cons (dv 0) (da_cons (de_gcls T.gx_OnShut) da_nil)))) da_nil))))))))
    (dss_one (ds_ret (de_and (de_cmp (opA_eq hr.units) os_eq (de_bm PySem.F.plainAttrs_list PySem.F.slot_list_count PySem.F.type_list_count (mt_count hr.units) rc_lst ms_count (de_op opA_add os_add (dv 1) (de_lst (da_cons (de_frz (de_callB call_isK (cs_isK (K := K) (D := fun _ => True)) (by rfl) T.n_isinstance bb_isinstance (da_cons (dv 0) (da_cons (de_gcls T.gx_TooNear) da_nil)))) (da_cons (de_frz (de_callB call_isK (cs_isK (K := K) (D := fun _ => True)) (by rfl) T.n_isinstance bb_isinstance (da_cons (dv 0) (da_cons (de_gcls T.gx_NoWay) da_nil)))) da_nil)))) (da_cons de_bl da_nil)) de_int (nomark _)) (de_one (de_callB call_isK (cs_isK (K := K) (D := fun _ => True)) (by rfl) T.n_isinstance bb_isinstance (da_cons (dv 0) (da_cons (de_ty T.n_ValueError bt_ValueError) da_nil)))))))))))) ?_
  rintro es μ q x - ⟨c, rfl, hc, h⟩
  rcases hc with rfl | rfl
  · ((try walk_at "dx39"); repeat (walk_at "one" <;> (try walk_at "dx39")))
    (try walk_at "ok")
    rw [if_pos (by simp [List.countP_cons, eqv_bool])]
    exact h
  · ((try walk_at "dx39"); repeat (walk_at "one" <;> (try walk_at "dx39")))
    (try walk_at "ok")
    rw [if_pos (by simp [List.countP_cons, eqv_bool])]
    exact h
local macro_rules | `(tactic| walk_at "dx40") => `(tactic| simp (disch := first | assumption | omega) only [↓exitQ_dat, startD, List.map_cons, List.map_nil, List.length_cons, List.length_nil, Nat.zero_add, Nat.reduceAdd, Nat.reduceSub, List.replicate, List.cons_append, List.nil_append, ↓x_dStl, ↓x_dLst, ↓x_aCons, ↓x_dFrz, ↓x_dCB, ↓dVar_0, ↓old_exc, ↓x_dRaw, ↓x_aNil, ↓wDs_cons, ↓wDs_nil, nle_h, ↓stl_new, ↓nN_dat, List.set_cons_succ, List.set_cons_zero, true_and, kd_NoSpot_NoSize, ↓wD_dat, kd_NoSpot_NoTurn, kd_NoSpot_NoTie, kd_NoSpot_NoDrawing, ↓x_dOp, ↓dVar_1, ↓old_dat, ↓add_ln, kd_NoSpot_NoOrder, kd_NoSpot_NoWeight, kd_NoSpot_NoPart, kd_NoSpot_NoSpot, ↓kd_NoSpot_NoBytes, kd_NoSpot_NoWord, kd_NoSpot_TooMany, kd_NoSpot_NoDeed, kd_NoSpot_OnShut, kd_NoSpot_Overlap, kd_NoSpot_OffFloor, kd_NoSpot_NoText, ↓x_dAndV, ↓x_dBM, ↓isLst_n, ↓x_dC, ↓cnt_n, ↓noDs_app, ↓noDs_cons, ↓noD_b, ↓noDs_nil, Bool.and_true, Bool.true_and, and_true, dep_bool, ↓eq_dd, ↓noD_i, dep_int, ↓wB_b, eqv_int, decide_eq_true_eq, kd_NoSpot_ValueError, kd_NoSpot_NoWay, kd_NoSpot_TooNear, ↓tk_0, kd_NoWeight_NoSize, kd_NoWeight_NoTurn, kd_NoWeight_NoTie, kd_NoWeight_NoDrawing, kd_NoWeight_NoOrder, kd_NoWeight_NoWeight, kd_NoWeight_NoPart, kd_NoWeight_NoSpot, kd_NoWeight_NoWord, kd_NoWeight_TooMany, kd_NoWeight_NoBytes, kd_NoWeight_NoDeed, kd_NoWeight_OnShut, kd_NoWeight_Overlap, kd_NoWeight_OffFloor, kd_NoWeight_NoText, kd_NoWeight_ValueError, kd_NoWeight_NoWay, kd_NoWeight_TooNear, ↓x_dCall, ↓stl_dat, ↓dVar_2, ↓old_per, ↓stl_per, ↓dVar_3, ↓aO_cons, ↓nN_per, ↓aO_nil, List.append_nil, ↓e_waves, ↓dVar_5, ↓stl_exc, ↓nN_exc, ↓x_tVal, ↓dVar_4, ↓x_oIsN, isRaw, DL.isNon, Bool.false_eq_true, if_false, ↓x_tNotD, ↓e_law_alone, Bool.not_true, ↓int_b, ↓mul_int, cmul_l, ↓add_int, ↓ix_new, if_true, at_nn])
def sp_law_word (P : Program) (w : World) (base : Heap) (T : Top K mg) : SpD := fun es μ q x => ∃ (a : Nat) (b : Nat) (s0 : List Nat) (s1 : List Nat) (cs : List Sp3) (c : Per) (d : PyData), es = [.dat (vwD a b s0 s1), .dat (.list (cs.map spD)), .per c, .dat d] ∧ ((Vw a b s0 s1 ∧ (∀ c ∈ cs, on2 c) ∧ cs.length ≤ 1000) ∧ ∃ (p : Sp3 → Bool) (f : Sp3 → Int) (k : Nat), c = wP P w mg base nT k (wgh p f) ∧ k ≤ 13 ∧ (∀ s, fre s0 s1 s → p s = true ∧ 1 ≤ f s ∧ f s ≤ 9) ∧ (if isNum d 0 9 = true then (cs.all (frB s0 s1) = false ∧ q (.dat (.str "spot")) μ) else q (.dat (.str "weight")) μ))
theorem e_law_word (P : Program) (w : World) (base : Heap) (T : Top K mg) {a : Nat} {b : Nat} {s0 : List Nat} {s1 : List Nat} {cs : List Sp3} {c : Per} {d : PyData} {μ : Mu} {q : PQ} {x : XQ} : sp_law_word P w base T [.dat (vwD a b s0 s1), .dat (.list (cs.map spD)), .per c, .dat d] μ q x = ((Vw a b s0 s1 ∧ (∀ c ∈ cs, on2 c) ∧ cs.length ≤ 1000) ∧ ∃ (p : Sp3 → Bool) (f : Sp3 → Int) (k : Nat), c = wP P w mg base nT k (wgh p f) ∧ k ≤ 13 ∧ (∀ s, fre s0 s1 s → p s = true ∧ 1 ≤ f s ∧ f s ≤ 9) ∧ (if isNum d 0 9 = true then (cs.all (frB s0 s1) = false ∧ q (.dat (.str "spot")) μ) else q (.dat (.str "weight")) μ)) := by
  refine propext ⟨fun hyp0 => ?_, fun hyp0 => ⟨a, b, s0, s1, cs, c, d, rfl, hyp0⟩⟩
  obtain ⟨a', b', s0', s1', cs', c', d', eq0, hyp0⟩ := hyp0
  simp only [List.cons.injEq, Exn.mk.injEq, EV.at.injEq, eq_self, EV.dat.injEq, EV.loc.injEq, EV.new.injEq, EV.ro.injEq, EV.exc.injEq, EV.per.injEq, PyData.int.injEq, PyData.str.injEq, PyData.bool.injEq, PyData.list.injEq, PyData.tuple.injEq, and_true, true_and, and_assoc, map_int_inj, vwD_inj, sps_inj] at eq0
  obtain ⟨rfl, rfl, rfl, rfl, rfl, rfl, rfl⟩ := eq0
  exact hyp0
theorem ok_law_word (T : Top K mg) : DefAt P w K mg base "_law_word" 16 ["_law_view_here", "_law_targets", "_law_weigh_here", "_law_hole"] [] [] (sp_law_word P w base T) := by
  refine def_ok (sp_law_word P w base T) T.F_law_word sc_law_word T.m_law_word T.b_law_word (fun cdv A outer s H E hr tk pw => (dss_cons (ds_set (i := 4) sc_law_word.nd rfl (by first | exact Or.inl rfl | exact Or.inr rfl) de_non)
    (dss_cons (ds_tryK (K := K) rfl (i := 5) rfl rfl sc_law_word.nd rfl rfl ⟨by rfl, by decide, .inl T.gx_BoardError⟩ tk (fun W pn xe tk po => (dsx_expr (de_call (ok_waves (P := P) (w := w) (base := base) T) hr (by decide) (by rfl) tk (fun _ _ => .nil) (da_cons (de_stl (dv 0)) (da_cons (de_stl (dv 1)) (da_cons (de_stl (dv 2)) (da_cons (de_stl (dv 3)) da_nil))))))) (fun a pn => (dss_one (ds_set (i := 4) sc_law_word.nd rfl (by first | exact Or.inl rfl | exact Or.inr rfl) (de_stl (dv 5))))))
    (dss_cons (ds_if (dt_cmp op_isN os_isN (dv 4) de_non (nomark _)) (dss_one (ds_ret de_str)) dss_nil)
    (dss_cons (ds_if (dt_not (dt_val (de_call (ok_law_alone T) hr (by decide) (by rfl) tk (fun _ _ => .nil) (da_cons (de_stl (dv 4)) da_nil)))) (dss_one (ds_ret de_str)) dss_nil)
    (dss_one (ds_ret (de_ix ix_seq os_ix (de_lst (da_cons de_str (da_cons de_str (da_cons de_str da_nil)))) (de_op opA_add os_add (de_callTy call_int1 cs_int (by rfl) T.n_int bt_int (da_cons (de_callB call_isK (cs_isK (K := K) (D := fun _ => True)) (by rfl) T.n_isinstance bb_isinstance (da_cons (dv 4) (da_cons (de_gcls T.gx_NoSpot) da_nil))) da_nil)) (de_op opA_mul os_mul de_int (de_callTy call_int1 cs_int (by rfl) T.n_int bt_int (da_cons (de_callB call_isK (cs_isK (K := K) (D := fun _ => True)) (by rfl) T.n_isinstance bb_isinstance (da_cons (dv 4) (da_cons (de_gcls T.gx_NoWeight) da_nil))) da_nil)))) (fun _ _ => rfl))))))))) ?_
  rintro es μ q x - ⟨a, b, s0, s1, ss, c, d, rfl, ⟨V, hc, hl⟩, p, f, k, rfl, hk, hf, h⟩
  by_cases hn : isNum d 0 9 = true
  · rw [if_pos hn] at h
    obtain ⟨ha, h⟩ := h
    ((try walk_at "dx40"); repeat (walk_at "one" <;> (try walk_at "dx40")))
    refine ⟨⟨V, hc⟩, p, f, k, rfl, hk, hf, ?_⟩
    rw [if_pos hn, ha, if_neg (by simp)]
    refine ⟨true, em_NoSpot_BoardError T, fun _ => ?_, fun z => by cases z⟩
    ((try walk_at "dx40"); repeat (walk_at "one" <;> (try walk_at "dx40")))
    refine ⟨.inl trivial, ?_⟩
    ((try walk_at "dx40"); repeat (walk_at "one" <;> (try walk_at "dx40")))
    exact ⟨_, rfl, h⟩
  · rw [if_neg hn] at h
    ((try walk_at "dx40"); repeat (walk_at "one" <;> (try walk_at "dx40")))
    refine ⟨⟨V, hc⟩, p, f, k, rfl, hk, hf, ?_⟩
    rw [if_neg hn]
    refine ⟨true, em_NoWeight_BoardError T, fun _ => ?_, fun z => by cases z⟩
    ((try walk_at "dx40"); repeat (walk_at "one" <;> (try walk_at "dx40")))
    refine ⟨.inr trivial, ?_⟩
    ((try walk_at "dx40"); repeat (walk_at "one" <;> (try walk_at "dx40")))
    exact ⟨_, rfl, h⟩
local macro_rules | `(tactic| walk_at "dx41") => `(tactic| simp (disch := first | assumption | omega) only [↓exitQ_dat, startD, List.map_cons, List.map_nil, List.length_cons, List.length_nil, Nat.zero_add, Nat.reduceAdd, Nat.reduceSub, List.replicate, List.cons_append, List.nil_append, ↓x_dStl, ↓x_dLst, ↓x_aCons, ↓x_dFrz, ↓x_dCB, ↓dVar_0, ↓old_exc, ↓x_dRaw, ↓x_aNil, ↓wDs_cons, ↓wDs_nil, nle_h, ↓stl_new, ↓nN_dat, List.set_cons_succ, List.set_cons_zero, true_and, kd_NoSpot_NoSize, ↓wD_dat, kd_NoSpot_NoTurn, kd_NoSpot_NoTie, kd_NoSpot_NoDrawing, ↓x_dOp, ↓dVar_1, ↓old_dat, ↓add_ln, kd_NoSpot_NoOrder, kd_NoSpot_NoWeight, kd_NoSpot_NoPart, kd_NoSpot_NoSpot, ↓kd_NoSpot_NoBytes, kd_NoSpot_NoWord, kd_NoSpot_TooMany, kd_NoSpot_NoDeed, kd_NoSpot_OnShut, kd_NoSpot_Overlap, kd_NoSpot_OffFloor, kd_NoSpot_NoText, ↓x_dAndV, ↓x_dBM, ↓isLst_n, ↓x_dC, ↓cnt_n, ↓noDs_app, ↓noDs_cons, ↓noD_b, ↓noDs_nil, Bool.and_true, Bool.true_and, and_true, dep_bool, ↓eq_dd, ↓noD_i, dep_int, ↓wB_b, eqv_int, decide_eq_true_eq, kd_NoSpot_ValueError, kd_NoSpot_NoWay, kd_NoSpot_TooNear, ↓tk_0, kd_NoWeight_NoSize, kd_NoWeight_NoTurn, kd_NoWeight_NoTie, kd_NoWeight_NoDrawing, kd_NoWeight_NoOrder, kd_NoWeight_NoWeight, kd_NoWeight_NoPart, kd_NoWeight_NoSpot, kd_NoWeight_NoWord, kd_NoWeight_TooMany, kd_NoWeight_NoBytes, kd_NoWeight_NoDeed, kd_NoWeight_OnShut, kd_NoWeight_Overlap, kd_NoWeight_OffFloor, kd_NoWeight_NoText, kd_NoWeight_ValueError, kd_NoWeight_NoWay, kd_NoWeight_TooNear, ↓x_dCall, ↓stl_dat, ↓dVar_2, ↓old_per, ↓stl_per, ↓dVar_3, ↓aO_cons, ↓nN_per, ↓aO_nil, List.append_nil, ↓e_waves, ↓dVar_5, ↓stl_exc, ↓nN_exc, ↓x_tVal, ↓dVar_4, ↓x_oIsN, isRaw, DL.isNon, Bool.false_eq_true, if_false, ↓x_tNotD, Bool.not_true, ↓int_b, ↓mul_int, cmul_l, ↓add_int, ↓ix_new, if_true, at_nn])
local macro_rules | `(tactic| walk_at "dx42") => `(tactic| simp (disch := first | assumption | omega) only [↓exitQ_dat, startD, List.map_cons, List.map_nil, List.length_cons, List.length_nil, Nat.zero_add, Nat.reduceAdd, Nat.reduceSub, List.replicate, List.cons_append, List.nil_append, ↓x_dStl, ↓x_dLst, ↓x_aCons, ↓x_dFrz, ↓x_dCB, ↓dVar_0, ↓old_exc, ↓x_dRaw, ↓x_aNil, ↓wDs_cons, ↓wDs_nil, nle_h, ↓stl_new, ↓nN_dat, List.set_cons_succ, List.set_cons_zero, true_and, kd_NoSpot_NoSize, ↓wD_dat, kd_NoSpot_NoTurn, kd_NoSpot_NoTie, kd_NoSpot_NoDrawing, ↓x_dOp, ↓dVar_1, ↓old_dat, ↓add_ln, kd_NoSpot_NoOrder, kd_NoSpot_NoWeight, kd_NoSpot_NoPart, kd_NoSpot_NoSpot, ↓kd_NoSpot_NoBytes, kd_NoSpot_NoWord, kd_NoSpot_TooMany, kd_NoSpot_NoDeed, kd_NoSpot_OnShut, kd_NoSpot_Overlap, kd_NoSpot_OffFloor, kd_NoSpot_NoText, ↓x_dAndV, ↓x_dBM, ↓isLst_n, ↓x_dC, ↓cnt_n, ↓noDs_app, ↓noDs_cons, ↓noD_b, ↓noDs_nil, Bool.and_true, Bool.true_and, and_true, dep_bool, ↓eq_dd, ↓noD_i, dep_int, ↓wB_b, eqv_int, decide_eq_true_eq, kd_NoSpot_ValueError, kd_NoSpot_NoWay, kd_NoSpot_TooNear, ↓tk_0, kd_NoWeight_NoSize, kd_NoWeight_NoTurn, kd_NoWeight_NoTie, kd_NoWeight_NoDrawing, kd_NoWeight_NoOrder, kd_NoWeight_NoWeight, kd_NoWeight_NoPart, kd_NoWeight_NoSpot, kd_NoWeight_NoWord, kd_NoWeight_TooMany, kd_NoWeight_NoBytes, kd_NoWeight_NoDeed, kd_NoWeight_OnShut, kd_NoWeight_Overlap, kd_NoWeight_OffFloor, kd_NoWeight_NoText, kd_NoWeight_ValueError, kd_NoWeight_NoWay, kd_NoWeight_TooNear, ↓x_dCall, ↓stl_dat, ↓dVar_2, ↓old_per, ↓stl_per, ↓dVar_3, ↓aO_cons, ↓nN_per, ↓aO_nil, List.append_nil, ↓e_waves, ↓dVar_5, ↓stl_exc, ↓nN_exc, ↓x_tVal, ↓dVar_4, ↓x_oIsN, isRaw, DL.isNon, Bool.false_eq_true, if_false, ↓x_tNotD, Bool.not_true, ↓int_b, ↓mul_int, cmul_l, ↓add_int, ↓ix_new, if_true, at_nn])
local macro_rules | `(tactic| walk_at "dx43") => `(tactic| simp (disch := first | assumption | omega) only [List.length_cons, List.length_nil, Nat.zero_add, Nat.reduceAdd, List.map_cons, List.map_nil, ↓exitQ_dat, startD, Nat.reduceSub, List.replicate, List.cons_append, List.nil_append, ↓x_dCellA, ↓x_dCall, ↓x_aCons, ↓x_dStl, ↓dVar_0, ↓old_ro, ↓stl_ro, ↓x_dC, ↓x_aNil, ↓aO_cons, ↓nN_ro, ↓nN_dat, ↓aO_nil, Bool.and_true, List.append_nil, List.set_cons_succ, List.set_cons_zero, true_and, cellA_eq, ile_h, nle_h, ↓stl_dat, ↓stateA_eq, ↓cellA_new, ↓nN_loc, rng_c, forall_const, ↓x_dCell, ↓dVar_1, ↓old_loc, ↓cel_loc, ↓e_law_size, isR_last, ↓x_dFrz, ↓dVar_2, ↓old_dat, ↓e_law_view, and_true, ↓wD_new, ↓x_gLs, ↓x_gCn, ↓x_gNm, ↓x_gNl0, ↓dVar_4, ↓e_law_some, ↓stl_new, ↓e_law_weigh, μTab_app, ↓gLt_n, ↓leavesK_cons, ↓leafK_p, ↓leafK_d, ↓leavesK_nil, ↓gCe_cons, ↓nN_per, ↓gNe_nil, nextA_eq, ilt_h, ↓dVar_5, ↓dVar_7, ↓dVar_8, ↓e_law_least, ↓stl_nd, dcV_eq, ↓x_dCB, ↓lsA_l, ↓dVar_3, ↓dVar_10, ↓dVar_6, ↓old_per, ↓stl_per, ↓e_waves, ↓isNum_i, decide_true, ↓cell_nd, List.length_append, List.append_assoc, ↓tk_a0, if_true, ↓x_tOrD, ↓x_tNotD, ↓x_tVal, ↓dVar_11, ↓dVar_9, ↓x_dOp, ↓ne_dd, ↓noD_l, noDs_sp, dep_lst, ↓wB_b, eqv_lst, Bool.not_true, Bool.false_eq_true, if_false, ↓e_law_told, ↓get_a1, Option.some.injEq, ↓x_dBM0, ↓c_isD, lcD2_d, ↓clearD_l, ↓set_a1, lcD_d, ↓x_lc, ↓x_iSeqD, ↓x_dLst, ↓x_dTup, ↓x_dUn, ↓neg_i, ↓wD_dat, ↓wDs_cons, ↓wDs_nil, ↓ix_sz, ↓ix_tupD, at_nn, Int.reduceToNat, List.getElem?_cons_succ, List.getElem?_cons_zero, exists_eq_left', ↓e_law_floor, ↓seqDK_l, wipeD, dVar_17, dVar_4, ↓memA_spD, ↓tk_a2, ↓add_nn, List.length_map, Nat.reduceLeDiff, ↓dVar_12, ↓lnD_lst, ↓ix_lstD, ↓add_int, ↓x_dSl, ↓x_oNo, ↓x_oSome, ↓dVar_14, ↓intK_i, ↓sl_lstD, ↓dVar_13, ↓ix_new, ↓dVar_15, ↓dVar_16, ↓e_law_word, ↓noD_s, dep_str, eqv_str, ↓get_a0, tk_a0])
theorem all_fre {w h : Nat} {fc ss : List Sp3} (hin : ∀ c ∈ fc, c ∈ fl3 w h) (hs : ∀ s ∈ ss, s ∈ fc) : ss.all (frB (s3 w h 0 fc) (s3 w h 1 fc)) = true :=
  List.all_eq_true.mpr fun s h => (fr_s3 hin (mem_fl3.mp (hin s (hs s h))).1).mpr (hs s h)
theorem eqvA_sp (xs ys : List Sp3) : PyData.eqvAll (xs.map spD) (ys.map spD) = decide (xs = ys) := by
  rw [Bool.eq_iff_iff, enc_sp.all, decide_eq_true_eq]
theorem dpA_sp (xs ys : List Sp3) : (min (PyData.depthAll (xs.map spD) + 1) (PyData.depthAll (ys.map spD) + 1) ≤ 64) = True := by
  have h := enc_sp.list.dep xs
  simp only [dep_lst] at h
  exact eq_true (by omega)
theorem cut_sp (ss : List Sp3) (lo hi : Option Int) : ∃ ws : List Sp3, cutD (ss.map spD) lo hi = ws.map spD ∧ (∀ s ∈ ws, s ∈ ss) ∧ ws.length ≤ ss.length := by
  unfold cutD
  refine ⟨_, by rw [← List.map_drop, ← List.map_take], fun s hs => List.mem_of_mem_drop (List.mem_of_mem_take hs), ?_⟩
  rw [List.length_take, List.length_drop]
  omega
local macro_rules | `(tactic| walk_at "dx44") => `(tactic| simp (disch := first | assumption | omega) only [List.length_cons, List.length_nil, Nat.zero_add, Nat.reduceAdd, List.map_cons, List.map_nil, ↓exitQ_dat, startD, Nat.reduceSub, List.replicate, List.cons_append, List.nil_append, ↓x_dCellA, ↓x_dCall, ↓x_aCons, ↓x_dStl, ↓dVar_0, ↓old_ro, ↓stl_ro, ↓x_dC, ↓x_aNil, ↓aO_cons, ↓nN_ro, ↓nN_dat, ↓aO_nil, Bool.and_true, List.append_nil, List.set_cons_succ, List.set_cons_zero, true_and, cellA_eq, ile_h, nle_h, ↓stl_dat, ↓stateA_eq, ↓cellA_new, ↓nN_loc, rng_c, forall_const, ↓x_dCell, ↓dVar_1, ↓old_loc, ↓cel_loc, ↓e_law_size, isR_last, ↓x_dFrz, ↓dVar_2, ↓old_dat, ↓e_law_view, and_true, ↓wD_new, ↓x_gLs, ↓x_gCn, ↓x_gNm, ↓x_gNl0, ↓dVar_4, ↓e_law_some, ↓stl_new, ↓e_law_weigh, μTab_app, ↓gLt_n, ↓leavesK_cons, ↓leafK_p, ↓leafK_d, ↓leavesK_nil, ↓gCe_cons, ↓nN_per, ↓gNe_nil, nextA_eq, ilt_h, ↓dVar_5, ↓dVar_7, ↓dVar_8, ↓e_law_least, ↓stl_nd, dcV_eq, ↓x_dCB, ↓lsA_l, ↓dVar_3, ↓dVar_10, ↓dVar_6, ↓old_per, ↓stl_per, ↓e_waves, ↓isNum_i, decide_true, ↓cell_nd, List.length_append, List.append_assoc, ↓tk_a0, if_true, ↓x_tOrD, ↓x_tNotD, ↓x_tVal, ↓dVar_11, ↓dVar_9, ↓x_dOp, ↓ne_dd, ↓noD_l, noDs_sp, dep_lst, dpA_sp, ↓wB_b, eqv_lst, eqvA_sp, Bool.not_true, Bool.false_eq_true, if_false, ↓e_law_told, ↓get_a1, Option.some.injEq, ↓x_dBM0, ↓c_isD, lcD2_d, ↓clearD_l, ↓set_a1, lcD_d, ↓x_lc, ↓x_iSeqD, ↓x_dLst, ↓x_dTup, ↓x_dUn, ↓neg_i, ↓wD_dat, ↓wDs_cons, ↓wDs_nil, ↓ix_sz, ↓ix_tupD, at_nn, Int.reduceToNat, List.getElem?_cons_succ, List.getElem?_cons_zero, exists_eq_left', ↓e_law_floor, ↓seqDK_l, wipeD, dVar_17, dVar_4, ↓memA_spD, ↓tk_a2, ↓add_nn, List.length_map, Nat.reduceLeDiff, ↓dVar_12, ↓lnD_lst, ↓ix_lstD, ↓add_int, ↓x_dSl, ↓x_oNo, ↓x_oSome, ↓dVar_14, ↓intK_i, ↓sl_lstD, ↓dVar_13, ↓ix_new, ↓dVar_15, ↓dVar_16, ↓e_law_word, ↓noD_s, dep_str, eqv_str, ↓get_a0, tk_a0])
theorem ok_law (T : Top K mg) (Bt : BtB mg base) : FnOk P w K mg base (L2.CX P w) 17 T.a_law T.fd_law ["_law_script"] (spOf K 1 (spLawTD (tabsOf T))) := by
  refine fd_of T.F_law sc_law (fun cdv A outer s H E hr => ((fun tk => (dss_cons (ds_set (i := 1) sc_law.nd rfl (by first | exact Or.inl rfl | exact Or.inr rfl) (de_cellA rngP (de_call (ok_law_state T) hr (by decide) (by rfl) tk (fun _ _ => .nil) (da_cons (de_stl (de_call (ok_law_cell_at T) hr (by decide) (by rfl) tk (fun _ _ => .nil) (da_cons (de_stl (dv 0)) (da_cons de_int da_nil)))) (da_cons de_int da_nil)))))
    (dss_cons (ds_set (i := 2) sc_law.nd rfl (by first | exact Or.inl rfl | exact Or.inr rfl) (de_stl (de_call (ok_law_size T) hr (by decide) (by rfl) tk (fun _ _ => .nil) (da_cons (de_cell (dv 1)) da_nil))))
    (dss_cons (ds_asg (de_frz (de_call (ok_law_view T) hr (by decide) (by rfl) tk (fun _ _ => .nil) (da_cons (de_cell (dv 1)) (da_cons (de_stl (dv 2)) da_nil)))) (dg_lst (n := 2) rfl (dgs_cons (dg_name (i := 3) sc_law.nd rfl (by first | exact Or.inl rfl | exact Or.inr rfl)) (dgs_cons (dg_name (i := 4) sc_law.nd rfl (by first | exact Or.inl rfl | exact Or.inr rfl)) dgs_nil))))
    (dss_cons (ds_set (i := 5) sc_law.nd rfl (by first | exact Or.inl rfl | exact Or.inr rfl) (de_stl (de_call (ok_law_some T) hr (by decide) (by rfl) tk (fun _ _ => .nil) (da_cons (de_cell (dv 1)) (da_cons (de_stl (dv 4)) (da_cons de_int da_nil))))))
    (dss_cons (ds_asg (de_call (ok_law_weigh (P := P) (w := w) (base := base) T Bt) hr (by decide) (by rfl) tk (fun _ _ => .nil) (da_cons (de_cell (dv 1)) (da_cons (de_stl (dv 2)) da_nil))) (dg_lstT (n := 2) rfl (dge_cons (dg_name (i := 6) sc_law.nd rfl (by first | exact Or.inl rfl | exact Or.inr rfl)) (dge_cons (dg_name (i := 7) sc_law.nd rfl (by first | exact Or.inl rfl | exact Or.inr rfl)) dge_nil))))
    (dss_cons (ds_set (i := 8) sc_law.nd rfl (by first | exact Or.inl rfl | exact Or.inr rfl) (de_stl (de_call (ok_law_next T) hr (by decide) (by rfl) tk (fun _ _ => .nil) (da_cons (de_cell (dv 1)) (da_cons de_int da_nil)))))
    (dss_cons (ds_set (i := 9) sc_law.nd rfl (by first | exact Or.inl rfl | exact Or.inr rfl) (de_stl (de_call (ok_law_least T) hr (by decide) (by rfl) tk (fun _ _ => .nil) (da_cons (de_stl (dv 2)) (da_cons (de_stl (dv 4)) (da_cons (de_stl (dv 5)) (da_cons (de_stl (dv 7)) (da_cons (de_stl (dv 8)) da_nil))))))))
    (dss_cons (ds_set (i := 10) sc_law.nd rfl (by first | exact Or.inl rfl | exact Or.inr rfl) (de_stl (de_callTy (call_listA rfl) cs_listA (by rfl) T.n_list bt_list (da_cons (dv 5) da_nil))))
    (dss_cons (ds_set (i := 11) sc_law.nd rfl (by first | exact Or.inl rfl | exact Or.inr rfl) (de_cell (de_call (ok_waves (P := P) (w := w) (base := base) T) hr (by decide) (by rfl) tk (fun _ _ => .nil) (da_cons (de_stl (dv 3)) (da_cons (de_stl (dv 10)) (da_cons (de_stl (dv 6)) (da_cons (de_stl (dv 8)) da_nil)))))))
    (dss_cons (ds_if (dw_or (dt_not (dt_val (de_call (ok_law_told T) hr (by decide) (by rfl) tk (fun _ _ => .nil) (da_cons (de_cell (dv 11)) (da_cons (de_stl (dv 9)) da_nil))))) (dw_or1 (dt_cmp (opA_ne hr.units) os_ne (dv 10) (dv 5) (nomark _)))).dt (dss_one (ds_ret de_bl)) dss_nil)
    (dss_cons (ds_expr (de_bm0 PySem.F.plainAttrs_dict PySem.F.slot_dict_clear PySem.F.type_dict_clear mt_clearT rc_dct ms_clearD (dv 11)))
    (dss_cons (ds_set (i := 12) sc_law.nd rfl (by first | exact Or.inl rfl | exact Or.inr rfl) (de_stl (de_op opA_add os_add (de_lc (own := [("_law_spot", 17)]) rfl sc_law.nd (di_seqD (de_stl (de_call (ok_law_floor T) hr (by decide) (by rfl) tk (fun _ _ => .nil) (da_cons (de_stl (dv 2)) da_nil)))) (blkOk_by (N := ["_law_script", "_law_state_here", "_law_size_here", "_law_view_here", "_law_free", "_law_targets", "_law_weigh_here", "_law_weights", "_law_hole", "_law_due", "_law_handed", "_law_found", "_law_shut", "_law_odd", "_law_at", "_law_wrong", "_law_bad", "_law_spot"]) (sc := (defScope s_law)) (by decide +kernel)) (by decide) (fun _ _ _ _ _ => (dg_name (i := 17) sc_law.nd rfl (by first | exact Or.inl rfl | exact Or.inr rfl))) (fun _ _ _ _ _ => (dts_one (dt_cmp (opA_notIn hr.units) os_memA (dv 17) (dv 4) (by rfl)))) (fun _ _ _ _ _ => (dv 17))) (de_lst (da_cons (de_frz (de_tup (da_cons de_int (da_cons (de_frz (de_un un_neg us_neg de_int)) (da_cons de_int da_nil))))) (da_cons (de_frz (de_tup (da_cons de_int (da_cons de_int (da_cons (de_frz (de_ix ix_seq os_ix (dv 2) de_int (fun _ _ => rfl))) da_nil))))) (da_cons (de_frz (de_tup (da_cons de_int (da_cons (de_frz (de_ix ix_seq os_ix (dv 2) de_int (fun _ _ => rfl))) (da_cons de_int da_nil))))) da_nil)))))))
    (dss_cons (ds_set (i := 13) sc_law.nd rfl (by first | exact Or.inl rfl | exact Or.inr rfl) (de_stl (de_ix ix_seq os_ix (dv 12) (de_call (ok_law_next T) hr (by decide) (by rfl) tk (fun _ _ => .nil) (da_cons (de_cell (dv 1)) (da_cons (de_stl (de_callB call_lenA cs_lenD (by rfl) T.n_len bb_len (da_cons (dv 12) da_nil))) da_nil))) (fun _ _ => rfl))))
    (dss_cons (ds_set (i := 14) sc_law.nd rfl (by first | exact Or.inl rfl | exact Or.inr rfl) (de_stl (de_call (ok_law_next T) hr (by decide) (by rfl) tk (fun _ _ => .nil) (da_cons (de_cell (dv 1)) (da_cons (de_stl (de_op opA_add os_add (de_callB call_lenA cs_lenD (by rfl) T.n_len bb_len (da_cons (dv 5) da_nil)) de_int)) da_nil)))))
    (dss_cons (ds_set (i := 15) sc_law.nd rfl (by first | exact Or.inl rfl | exact Or.inr rfl) (de_stl (de_op opA_add os_add (de_op opA_add os_add (de_slice slA os_sl (dv 5) do_none (do_some (dv 14))) (de_lst (da_cons (de_frz (dv 13)) da_nil))) (de_slice slA os_sl (dv 5) (do_some (dv 14)) do_none))))
    (dss_cons (ds_set (i := 16) sc_law.nd rfl (by first | exact Or.inl rfl | exact Or.inr rfl) (de_stl (de_ix ix_seq os_ix (de_lst (da_cons (de_frz (de_un un_neg us_neg de_int)) (da_cons de_int (da_cons de_bl (da_cons de_non (da_cons de_str da_nil)))))) (de_call (ok_law_next T) hr (by decide) (by rfl) tk (fun _ _ => .nil) (da_cons (de_cell (dv 1)) (da_cons de_int da_nil))) (fun _ _ => rfl))))
    (dss_cons (ds_if (dw_or (dt_cmp (opA_ne hr.units) os_ne (de_call (ok_law_word (P := P) (w := w) (base := base) T) hr (by decide) (by rfl) tk (fun _ _ => .nil) (da_cons (de_stl (dv 3)) (da_cons (de_stl (dv 15)) (da_cons (de_stl (dv 6)) (da_cons (de_stl (dv 8)) da_nil))))) de_str (nomark _)) (dw_or1 (dt_cmp (opA_ne hr.units) os_ne (de_call (ok_law_word (P := P) (w := w) (base := base) T) hr (by decide) (by rfl) tk (fun _ _ => .nil) (da_cons (de_stl (dv 3)) (da_cons (de_stl (dv 5)) (da_cons (de_stl (dv 6)) (da_cons (de_stl (dv 16)) da_nil))))) de_str (nomark _)))).dt (dss_one (ds_ret de_bl)) dss_nil)
    (dss_cons (ds_if (dt_cmp (opA_ne hr.units) os_ne (de_call (ok_law_word (P := P) (w := w) (base := base) T) hr (by decide) (by rfl) tk (fun _ _ => .nil) (da_cons (de_stl (dv 3)) (da_cons (de_stl (dv 15)) (da_cons (de_stl (dv 6)) (da_cons (de_stl (dv 16)) da_nil))))) de_str (nomark _)) (dss_one (ds_ret de_bl)) dss_nil)
    (dss_one (ds_ret (de_call (ok_law_told T) hr (by decide) (by rfl) tk (fun _ _ => .nil) (da_cons (de_cell (de_call (ok_waves (P := P) (w := w) (base := base) T) hr (by decide) (by rfl) tk (fun _ _ => .nil) (da_cons (de_stl (dv 3)) (da_cons (de_stl (de_callTy (call_listA rfl) cs_listA (by rfl) T.n_list bt_list (da_cons (dv 5) da_nil))) (da_cons (de_stl (dv 6)) (da_cons (de_stl (dv 8)) da_nil)))))) (da_cons (de_stl (dv 9)) da_nil)))))))))))))))))))))))) : Takes _ _ → _) (takes_of rfl rfl rfl rfl)) ?_
  rintro es μ q x - ⟨ns, rfl, hl, rfl, kk⟩
  have hT1 : μTab (tabsμ (tabsOf T)) T.P_by_sheet "by_sheet.<locals>.<lambda>" := ⟨0, rfl⟩
  have hT2 : μTab (tabsμ (tabsOf T)) T.P_dearer "dearer.<locals>.told" := ⟨1, rfl⟩
  have hT3 : μTab (tabsμ (tabsOf T)) T.P_heavier "heavier.<locals>.<lambda>" := ⟨2, rfl⟩
  have hT4 : μTab (tabsμ (tabsOf T)) T.P_law_weigh "_law_weigh.<locals>.<lambda>" := ⟨3, rfl⟩
  generalize tabsμ (tabsOf T) = μ at *
  ((try walk_at "dx44"); repeat (walk_at "one" <;> (try walk_at "dx44")))
  intro a b a3 a10 b3 b10
  ((try walk_at "dx44"); repeat (walk_at "one" <;> (try walk_at "dx44")))
  intro fc hfn hin
  have hfl := fl3_le a10 b10
  have hfc : fc.length ≤ 200 := Nat.le_trans (nodup_len hfn hin) hfl
  have V := vw_s3 a10 b10 fc
  ((try walk_at "dx44"); repeat (walk_at "one" <;> (try walk_at "dx44")))
  intro ss hss hsl
  have hfr : ∀ s, fre (s3 a b 0 fc) (s3 a b 1 fc) s ↔ s ∈ fc := fre_s3 hin
  have hss2 : ∀ c ∈ ss, on2 c := fun c hc => (mem_fl3.mp (hin c (hss c hc))).1
  ((try walk_at "dx44"); repeat (walk_at "one" <;> (try walk_at "dx44")))
  intro f p k hk hp hf
  ((try walk_at "dx44"); repeat (walk_at "one" <;> (try walk_at "dx44")))
  intro hole h0 h9
  ((try walk_at "dx44"); repeat (walk_at "one" <;> (try walk_at "dx44")))
  refine ⟨f, rfl, ⟨hin, hss, hf⟩, ?_⟩
  intro ds hdl hd
  have hwf : ∀ s, fre (s3 a b 0 fc) (s3 a b 1 fc) s → p s = true ∧ 1 ≤ f s ∧ f s ≤ 9 := fun s hs => ⟨hp s (hin s ((hfr s).mp hs)), hf s hs.1⟩
  have hnum : isNum (.int hole) 0 9 = true := by simp [isNum]; omega
  have hall := all_fre hin hss
  ((try walk_at "dx44"); repeat (walk_at "one" <;> (try walk_at "dx44")))
  refine ⟨⟨V, hss2⟩, p, f, k, rfl, by omega, hwf, ?_⟩
  rw [if_pos hall]
  rintro _ ⟨⟩ gs hgl hg
  have S : SameV gs ds := hg.same hfr hd
  ((try walk_at "dx44"); repeat (walk_at "one" <;> (try walk_at "dx44")))
  refine ⟨gs, rfl, S, ?_⟩
  ((try walk_at "dx44"); repeat (walk_at "one" <;> (try walk_at "dx44")))
  refine lc_filterD (as := fl3 a b) (en := spD) (p := fun c => !decide (c ∈ fc)) (f := spD) (by omega) trivial (fun c K K' hc hK => ?e) ?_
  case e =>
    (try walk_at "dx44")
    exact hK
  ((try walk_at "dx44"); repeat (walk_at "one" <;> (try walk_at "dx44")))
  have hfl2 := List.length_filter_le (fun c => !decide (c ∈ fc)) (fl3 a b)
  refine ⟨by omega, ?_⟩
  have eo : List.map spD ((fl3 a b).filter fun c => !decide (c ∈ fc)) ++ [PyData.tuple [.int 0, .int (-1), .int 0], .tuple [.int 1, .int 0, .int b], .tuple [.int 0, .int a, .int 1]] = (((fl3 a b).filter fun c => !decide (c ∈ fc)) ++ [(0, -1, 0), (1, 0, (b : Int)), (0, (a : Int), 1)]).map spD := by
    rw [List.map_append]
    rfl
  have hodd : ∀ c ∈ ((fl3 a b).filter fun c => !decide (c ∈ fc)) ++ [(0, -1, 0), (1, 0, (b : Int)), (0, (a : Int), 1)], on2 c ∧ frB (s3 a b 0 fc) (s3 a b 1 fc) c = false := fun c hc => by
    have out : on2 c → c ∉ fl3 a b → frB (s3 a b 0 fc) (s3 a b 1 fc) c = false := fun ho hn => by
      rw [← Bool.not_eq_true]
      exact fun z => hn (hin c ((fr_s3 hin ho).mp z))
    rcases List.mem_append.mp hc with hc | hc
    · obtain ⟨h1, h2⟩ := List.mem_filter.mp hc
      have ho := (mem_fl3.mp h1).1
      refine ⟨ho, ?_⟩
      rw [← Bool.not_eq_true]
      intro z
      have := (fr_s3 hin ho).mp z
      simp [this] at h2
    · simp only [List.mem_cons, List.not_mem_nil, or_false] at hc
      rcases hc with rfl | rfl | rfl
      · exact ⟨.inl rfl, out (.inl rfl) fun z => by have := in3_iff.mp (mem_fl3.mp z).2; simp only at this; omega⟩
      · exact ⟨.inr rfl, out (.inr rfl) fun z => by have := in3_iff.mp (mem_fl3.mp z).2; simp only at this; omega⟩
      · exact ⟨.inl rfl, out (.inl rfl) fun z => by have := in3_iff.mp (mem_fl3.mp z).2; simp only at this; omega⟩
  have hol : 0 < (((fl3 a b).filter fun c => !decide (c ∈ fc)) ++ [(0, -1, 0), (1, 0, (b : Int)), (0, (a : Int), 1)]).length ∧ (((fl3 a b).filter fun c => !decide (c ∈ fc)) ++ [(0, -1, 0), (1, 0, (b : Int)), (0, (a : Int), 1)]).length ≤ 203 := by
    rw [List.length_append]
    simp only [List.length_cons, List.length_nil]
    omega
  generalize ((fl3 a b).filter fun c => !decide (c ∈ fc)) ++ [(0, -1, 0), (1, 0, (b : Int)), (0, (a : Int), 1)] = od at eo hodd hol
  rw [eo]
  ((try walk_at "dx44"); repeat (walk_at "one" <;> (try walk_at "dx44")))
  intro r r0 r1
  obtain ⟨d, hd1, c, hc, rfl⟩ := pick_at (xs := od.map spD) (k := fun d => ∃ c ∈ od, d = spD c) r0 (by simpa using r1) fun d hd => by
    obtain ⟨c, hc, rfl⟩ := List.mem_map.mp hd
    exact ⟨c, hc, rfl⟩
  refine ⟨spD c, (at_nn r0).trans hd1, ?_⟩
  obtain ⟨c2, cf⟩ := hodd c hc
  ((try walk_at "dx44"); repeat (walk_at "one" <;> (try walk_at "dx44")))
  intro t t0 t1
  ((try walk_at "dx44"); repeat (walk_at "one" <;> (try walk_at "dx44")))
  obtain ⟨w1, e1, m1, l1⟩ := cut_sp ss none (some t)
  obtain ⟨w2, e2, m2, l2⟩ := cut_sp ss (some t) none
  rw [e1, e2]
  have ew : w1.map spD ++ spD c :: w2.map spD = (w1 ++ c :: w2).map spD := by rw [List.map_append, List.map_cons]
  rw [ew]
  have hwm : ∀ s ∈ w1 ++ c :: w2, on2 s := fun s hs => by
    rcases List.mem_append.mp hs with hs | hs
    · exact hss2 s (m1 s hs)
    · rcases List.mem_cons.mp hs with rfl | hs
      · exact c2
      · exact hss2 s (m2 s hs)
  have hwa : (w1 ++ c :: w2).all (frB (s3 a b 0 fc) (s3 a b 1 fc)) = false := List.all_eq_false.mpr ⟨c, by simp, by simp [cf]⟩
  have hwl : (w1 ++ c :: w2).length ≤ 1000 := by
    rw [List.length_append, List.length_cons]
    omega
  refine ⟨by rw [List.length_map]; omega, by rw [List.length_map, List.length_map]; omega, ?_⟩
  clear ew e1 e2
  generalize w1 ++ c :: w2 = ws at hwm hwa hwl ⊢
  ((try walk_at "dx44"); repeat (walk_at "one" <;> (try walk_at "dx44")))
  intro i i0 i1
  obtain ⟨d, hd1, hbad⟩ := pick_at (xs := [PyData.int (-1), PyData.int 10, PyData.bool true, PyData.none, PyData.str "0"]) (k := fun d => ¬ isNum d 0 9 = true) i0 (by simpa using i1) fun d hd => by
    simp only [List.mem_cons, List.not_mem_nil, or_false] at hd
    rcases hd with rfl | rfl | rfl | rfl | rfl <;> simp [isNum]
  refine ⟨d, (at_nn i0).trans hd1, ?_⟩
  ((try walk_at "dx44"); repeat (walk_at "one" <;> (try walk_at "dx44")))
  refine ⟨⟨V, hwm⟩, p, f, k, rfl, by omega, hwf, ?_⟩
  refine ⟨hwa, ⟨V, hss2⟩, p, f, k, rfl, by omega, hwf, ?_⟩
  rw [if_neg hbad]
  ((try walk_at "dx44"); repeat (walk_at "one" <;> (try walk_at "dx44")))
  refine ⟨⟨V, hwm⟩, p, f, k, rfl, by omega, hwf, ?_⟩
  rw [if_neg hbad]
  ((try walk_at "dx44"); repeat (walk_at "one" <;> (try walk_at "dx44")))
  refine ⟨⟨V, hss2⟩, p, f, k, rfl, by omega, hwf, ?_⟩
  rw [if_pos hall]
  rintro _ ⟨⟩ gs2 hgl2 hg2
  ((try walk_at "dx44"); repeat (walk_at "one" <;> (try walk_at "dx44")))
  refine ⟨gs2, rfl, hg2.same hfr hd, kk _⟩
def tabAt (o : Obj) : Addr := match o.data with
  | .fields vs => match (vs[11]? : Option Value) with
    | some (.ref a) => a
    | _ => 0
  | _ => 0
theorem all_mk {ts : List Addr} {K : PySem.W.Frag} {h : Heap} {mg : Str → Option Value} {fa : Addr} (X : K.In h) (G : h.Ns mainGlobals mg) (hfa : mg "law" = some (.ref fa)) {f_0 f_1 f_2 f_3 f_4 f_5 f_6 f_7 f_8 f_9 f_10 f_11 f_12 f_13 f_14 f_15 f_16 f_17 f_18 f_19 f_20 f_21 f_22 f_23 f_24 f_25 f_26 : Addr}
    {od0 an0 : Option Addr} {sl0 : Array (Option Value)} {oc0 kV0 dc0 pm0 cd0 ct0 : Value}
    (n0 : PySem.W.nsIn K mainGlobals "is_number" = some (some (.ref f_0))) (l0 : K.lookup f_0 = some ⟨oc0, od0, .func (PySem.W.fnOf "is_number" "is_number" (defArgs s_is_number) (defBody s_is_number) (defScope s_is_number) .none kV0 dc0 pm0 an0 cd0 ct0), sl0⟩) (c0 : PySem.W.codeIn K cd0 "is_number" = true) (k0 : PySem.W.keepIn K (.ref f_0) = true)
    {od1 an1 : Option Addr} {sl1 : Array (Option Value)} {oc1 kV1 dc1 pm1 cd1 ct1 : Value}
    (n1 : PySem.W.nsIn K mainGlobals "has" = some (some (.ref f_1))) (l1 : K.lookup f_1 = some ⟨oc1, od1, .func (PySem.W.fnOf "has" "has" (defArgs s_has) (defBody s_has) (defScope s_has) .none kV1 dc1 pm1 an1 cd1 ct1), sl1⟩) (c1 : PySem.W.codeIn K cd1 "has" = true) (k1 : PySem.W.keepIn K (.ref f_1) = true)
    {od2 an2 : Option Addr} {sl2 : Array (Option Value)} {oc2 kV2 dc2 pm2 cd2 ct2 : Value}
    (n2 : PySem.W.nsIn K mainGlobals "need_weight" = some (some (.ref f_2))) (l2 : K.lookup f_2 = some ⟨oc2, od2, .func (PySem.W.fnOf "need_weight" "need_weight" (defArgs s_need_weight) (defBody s_need_weight) (defScope s_need_weight) .none kV2 dc2 pm2 an2 cd2 ct2), sl2⟩) (c2 : PySem.W.codeIn K cd2 "need_weight" = true) (k2 : PySem.W.keepIn K (.ref f_2) = true)
    {od3 an3 : Option Addr} {sl3 : Array (Option Value)} {oc3 kV3 dc3 pm3 ct3 : Value} {cA3 : Addr} {oC3 : Obj}
    (n3 : PySem.W.nsIn K mainGlobals "by_sheet" = some (some (.ref f_3))) (l3 : K.lookup f_3 = some ⟨oc3, od3, .func (PySem.W.fnOf "by_sheet" "by_sheet" (defArgs s_by_sheet) (defBody s_by_sheet) (defScope s_by_sheet) .none kV3 dc3 pm3 an3 (.ref cA3) ct3), sl3⟩) (c3 : PySem.W.codeIn K (.ref cA3) "by_sheet" = true) (k3 : PySem.W.keepIn K (.ref f_3) = true)
    (q3 : K.lookup cA3 = some oC3) (h3 : PySem.W.codeHdIn K cA3 (tabAt oC3) = true) (g3 : mainGlobals ≠ tabAt oC3) (o3 : K.lookup (tabAt oC3) = none) (m3 : tabAt oC3 ∈ ts)
    {od4 an4 : Option Addr} {sl4 : Array (Option Value)} {oc4 kV4 dc4 pm4 ct4 : Value} {cA4 : Addr} {oC4 : Obj}
    (n4 : PySem.W.nsIn K mainGlobals "dearer" = some (some (.ref f_4))) (l4 : K.lookup f_4 = some ⟨oc4, od4, .func (PySem.W.fnOf "dearer" "dearer" (defArgs s_dearer) (defBody s_dearer) (defScope s_dearer) .none kV4 dc4 pm4 an4 (.ref cA4) ct4), sl4⟩) (c4 : PySem.W.codeIn K (.ref cA4) "dearer" = true) (k4 : PySem.W.keepIn K (.ref f_4) = true)
    (q4 : K.lookup cA4 = some oC4) (h4 : PySem.W.codeHdIn K cA4 (tabAt oC4) = true) (g4 : mainGlobals ≠ tabAt oC4) (o4 : K.lookup (tabAt oC4) = none) (m4 : tabAt oC4 ∈ ts)
    {od5 an5 : Option Addr} {sl5 : Array (Option Value)} {oc5 kV5 dc5 pm5 ct5 : Value} {cA5 : Addr} {oC5 : Obj}
    (n5 : PySem.W.nsIn K mainGlobals "heavier" = some (some (.ref f_5))) (l5 : K.lookup f_5 = some ⟨oc5, od5, .func (PySem.W.fnOf "heavier" "heavier" (defArgs s_heavier) (defBody s_heavier) (defScope s_heavier) .none kV5 dc5 pm5 an5 (.ref cA5) ct5), sl5⟩) (c5 : PySem.W.codeIn K (.ref cA5) "heavier" = true) (k5 : PySem.W.keepIn K (.ref f_5) = true)
    (q5 : K.lookup cA5 = some oC5) (h5 : PySem.W.codeHdIn K cA5 (tabAt oC5) = true) (g5 : mainGlobals ≠ tabAt oC5) (o5 : K.lookup (tabAt oC5) = none) (m5 : tabAt oC5 ∈ ts)
    {od6 an6 : Option Addr} {sl6 : Array (Option Value)} {oc6 kV6 dc6 pm6 cd6 ct6 : Value}
    (n6 : PySem.W.nsIn K mainGlobals "steps" = some (some (.ref f_6))) (l6 : K.lookup f_6 = some ⟨oc6, od6, .func (PySem.W.fnOf "steps" "steps" (defArgs s_steps) (defBody s_steps) (defScope s_steps) .none kV6 dc6 pm6 an6 cd6 ct6), sl6⟩) (c6 : PySem.W.codeIn K cd6 "steps" = true) (k6 : PySem.W.keepIn K (.ref f_6) = true)
    {od7 an7 : Option Addr} {sl7 : Array (Option Value)} {oc7 kV7 dc7 pm7 cd7 ct7 : Value}
    (n7 : PySem.W.nsIn K mainGlobals "is_free" = some (some (.ref f_7))) (l7 : K.lookup f_7 = some ⟨oc7, od7, .func (PySem.W.fnOf "is_free" "is_free" (defArgs s_is_free) (defBody s_is_free) (defScope s_is_free) .none kV7 dc7 pm7 an7 cd7 ct7), sl7⟩) (c7 : PySem.W.codeIn K cd7 "is_free" = true) (k7 : PySem.W.keepIn K (.ref f_7) = true)
    {od8 an8 : Option Addr} {sl8 : Array (Option Value)} {oc8 kV8 dc8 pm8 cd8 ct8 : Value}
    (n8 : PySem.W.nsIn K mainGlobals "need_free" = some (some (.ref f_8))) (l8 : K.lookup f_8 = some ⟨oc8, od8, .func (PySem.W.fnOf "need_free" "need_free" (defArgs s_need_free) (defBody s_need_free) (defScope s_need_free) .none kV8 dc8 pm8 an8 cd8 ct8), sl8⟩) (c8 : PySem.W.codeIn K cd8 "need_free" = true) (k8 : PySem.W.keepIn K (.ref f_8) = true)
    {od9 an9 : Option Addr} {sl9 : Array (Option Value)} {oc9 kV9 dc9 pm9 cd9 ct9 : Value}
    (n9 : PySem.W.nsIn K mainGlobals "free_steps" = some (some (.ref f_9))) (l9 : K.lookup f_9 = some ⟨oc9, od9, .func (PySem.W.fnOf "free_steps" "free_steps" (defArgs s_free_steps) (defBody s_free_steps) (defScope s_free_steps) .none kV9 dc9 pm9 an9 cd9 ct9), sl9⟩) (c9 : PySem.W.codeIn K cd9 "free_steps" = true) (k9 : PySem.W.keepIn K (.ref f_9) = true)
    {od10 an10 : Option Addr} {sl10 : Array (Option Value)} {oc10 kV10 dc10 pm10 cd10 ct10 : Value}
    (n10 : PySem.W.nsIn K mainGlobals "step_price" = some (some (.ref f_10))) (l10 : K.lookup f_10 = some ⟨oc10, od10, .func (PySem.W.fnOf "step_price" "step_price" (defArgs s_step_price) (defBody s_step_price) (defScope s_step_price) .none kV10 dc10 pm10 an10 cd10 ct10), sl10⟩) (c10 : PySem.W.codeIn K cd10 "step_price" = true) (k10 : PySem.W.keepIn K (.ref f_10) = true)
    {od11 an11 : Option Addr} {sl11 : Array (Option Value)} {oc11 kV11 dc11 pm11 cd11 ct11 : Value}
    (n11 : PySem.W.nsIn K mainGlobals "waves" = some (some (.ref f_11))) (l11 : K.lookup f_11 = some ⟨oc11, od11, .func (PySem.W.fnOf "waves" "waves" (defArgs s_waves) (defBody s_waves) (defScope s_waves) .none kV11 dc11 pm11 an11 cd11 ct11), sl11⟩) (c11 : PySem.W.codeIn K cd11 "waves" = true) (k11 : PySem.W.keepIn K (.ref f_11) = true)
    {od12 an12 : Option Addr} {sl12 : Array (Option Value)} {oc12 kV12 dc12 pm12 cd12 ct12 : Value}
    (n12 : PySem.W.nsIn K mainGlobals "_law_cell_at" = some (some (.ref f_12))) (l12 : K.lookup f_12 = some ⟨oc12, od12, .func (PySem.W.fnOf "_law_cell_at" "_law_cell_at" (defArgs s_law_cell_at) (defBody s_law_cell_at) (defScope s_law_cell_at) .none kV12 dc12 pm12 an12 cd12 ct12), sl12⟩) (c12 : PySem.W.codeIn K cd12 "_law_cell_at" = true) (k12 : PySem.W.keepIn K (.ref f_12) = true)
    {od13 an13 : Option Addr} {sl13 : Array (Option Value)} {oc13 kV13 dc13 pm13 cd13 ct13 : Value}
    (n13 : PySem.W.nsIn K mainGlobals "_law_state" = some (some (.ref f_13))) (l13 : K.lookup f_13 = some ⟨oc13, od13, .func (PySem.W.fnOf "_law_state" "_law_state" (defArgs s_law_state) (defBody s_law_state) (defScope s_law_state) .none kV13 dc13 pm13 an13 cd13 ct13), sl13⟩) (c13 : PySem.W.codeIn K cd13 "_law_state" = true) (k13 : PySem.W.keepIn K (.ref f_13) = true)
    {od14 an14 : Option Addr} {sl14 : Array (Option Value)} {oc14 kV14 dc14 pm14 cd14 ct14 : Value}
    (n14 : PySem.W.nsIn K mainGlobals "_law_next" = some (some (.ref f_14))) (l14 : K.lookup f_14 = some ⟨oc14, od14, .func (PySem.W.fnOf "_law_next" "_law_next" (defArgs s_law_next) (defBody s_law_next) (defScope s_law_next) .none kV14 dc14 pm14 an14 cd14 ct14), sl14⟩) (c14 : PySem.W.codeIn K cd14 "_law_next" = true) (k14 : PySem.W.keepIn K (.ref f_14) = true)
    {od15 an15 : Option Addr} {sl15 : Array (Option Value)} {oc15 kV15 dc15 pm15 cd15 ct15 : Value}
    (n15 : PySem.W.nsIn K mainGlobals "_law_size" = some (some (.ref f_15))) (l15 : K.lookup f_15 = some ⟨oc15, od15, .func (PySem.W.fnOf "_law_size" "_law_size" (defArgs s_law_size) (defBody s_law_size) (defScope s_law_size) .none kV15 dc15 pm15 an15 cd15 ct15), sl15⟩) (c15 : PySem.W.codeIn K cd15 "_law_size" = true) (k15 : PySem.W.keepIn K (.ref f_15) = true)
    {od16 an16 : Option Addr} {sl16 : Array (Option Value)} {oc16 kV16 dc16 pm16 cd16 ct16 : Value}
    (n16 : PySem.W.nsIn K mainGlobals "_law_floor" = some (some (.ref f_16))) (l16 : K.lookup f_16 = some ⟨oc16, od16, .func (PySem.W.fnOf "_law_floor" "_law_floor" (defArgs s_law_floor) (defBody s_law_floor) (defScope s_law_floor) .none kV16 dc16 pm16 an16 cd16 ct16), sl16⟩) (c16 : PySem.W.codeIn K cd16 "_law_floor" = true) (k16 : PySem.W.keepIn K (.ref f_16) = true)
    {od17 an17 : Option Addr} {sl17 : Array (Option Value)} {oc17 kV17 dc17 pm17 cd17 ct17 : Value}
    (n17 : PySem.W.nsIn K mainGlobals "_law_view" = some (some (.ref f_17))) (l17 : K.lookup f_17 = some ⟨oc17, od17, .func (PySem.W.fnOf "_law_view" "_law_view" (defArgs s_law_view) (defBody s_law_view) (defScope s_law_view) .none kV17 dc17 pm17 an17 cd17 ct17), sl17⟩) (c17 : PySem.W.codeIn K cd17 "_law_view" = true) (k17 : PySem.W.keepIn K (.ref f_17) = true)
    {od18 an18 : Option Addr} {sl18 : Array (Option Value)} {oc18 kV18 dc18 pm18 cd18 ct18 : Value}
    (n18 : PySem.W.nsIn K mainGlobals "_law_some" = some (some (.ref f_18))) (l18 : K.lookup f_18 = some ⟨oc18, od18, .func (PySem.W.fnOf "_law_some" "_law_some" (defArgs s_law_some) (defBody s_law_some) (defScope s_law_some) .none kV18 dc18 pm18 an18 cd18 ct18), sl18⟩) (c18 : PySem.W.codeIn K cd18 "_law_some" = true) (k18 : PySem.W.keepIn K (.ref f_18) = true)
    {od19 an19 : Option Addr} {sl19 : Array (Option Value)} {oc19 kV19 dc19 pm19 cd19 ct19 : Value}
    (n19 : PySem.W.nsIn K mainGlobals "_law_near_steps" = some (some (.ref f_19))) (l19 : K.lookup f_19 = some ⟨oc19, od19, .func (PySem.W.fnOf "_law_near_steps" "_law_near_steps" (defArgs s_law_near_steps) (defBody s_law_near_steps) (defScope s_law_near_steps) .none kV19 dc19 pm19 an19 cd19 ct19), sl19⟩) (c19 : PySem.W.codeIn K cd19 "_law_near_steps" = true) (k19 : PySem.W.keepIn K (.ref f_19) = true)
    {od20 an20 : Option Addr} {sl20 : Array (Option Value)} {oc20 kV20 dc20 pm20 ct20 : Value} {cA20 : Addr} {oC20 : Obj}
    (n20 : PySem.W.nsIn K mainGlobals "_law_weigh" = some (some (.ref f_20))) (l20 : K.lookup f_20 = some ⟨oc20, od20, .func (PySem.W.fnOf "_law_weigh" "_law_weigh" (defArgs s_law_weigh) (defBody s_law_weigh) (defScope s_law_weigh) .none kV20 dc20 pm20 an20 (.ref cA20) ct20), sl20⟩) (c20 : PySem.W.codeIn K (.ref cA20) "_law_weigh" = true) (k20 : PySem.W.keepIn K (.ref f_20) = true)
    (q20 : K.lookup cA20 = some oC20) (h20 : PySem.W.codeHdIn K cA20 (tabAt oC20) = true) (g20 : mainGlobals ≠ tabAt oC20) (o20 : K.lookup (tabAt oC20) = none) (m20 : tabAt oC20 ∈ ts)
    {od21 an21 : Option Addr} {sl21 : Array (Option Value)} {oc21 kV21 dc21 pm21 cd21 ct21 : Value}
    (n21 : PySem.W.nsIn K mainGlobals "_law_step_price" = some (some (.ref f_21))) (l21 : K.lookup f_21 = some ⟨oc21, od21, .func (PySem.W.fnOf "_law_step_price" "_law_step_price" (defArgs s_law_step_price) (defBody s_law_step_price) (defScope s_law_step_price) .none kV21 dc21 pm21 an21 cd21 ct21), sl21⟩) (c21 : PySem.W.codeIn K cd21 "_law_step_price" = true) (k21 : PySem.W.keepIn K (.ref f_21) = true)
    {od22 an22 : Option Addr} {sl22 : Array (Option Value)} {oc22 kV22 dc22 pm22 cd22 ct22 : Value}
    (n22 : PySem.W.nsIn K mainGlobals "_law_least" = some (some (.ref f_22))) (l22 : K.lookup f_22 = some ⟨oc22, od22, .func (PySem.W.fnOf "_law_least" "_law_least" (defArgs s_law_least) (defBody s_law_least) (defScope s_law_least) .none kV22 dc22 pm22 an22 cd22 ct22), sl22⟩) (c22 : PySem.W.codeIn K cd22 "_law_least" = true) (k22 : PySem.W.keepIn K (.ref f_22) = true)
    {od23 an23 : Option Addr} {sl23 : Array (Option Value)} {oc23 kV23 dc23 pm23 cd23 ct23 : Value}
    (n23 : PySem.W.nsIn K mainGlobals "_law_alone" = some (some (.ref f_23))) (l23 : K.lookup f_23 = some ⟨oc23, od23, .func (PySem.W.fnOf "_law_alone" "_law_alone" (defArgs s_law_alone) (defBody s_law_alone) (defScope s_law_alone) .none kV23 dc23 pm23 an23 cd23 ct23), sl23⟩) (c23 : PySem.W.codeIn K cd23 "_law_alone" = true) (k23 : PySem.W.keepIn K (.ref f_23) = true)
    {od24 an24 : Option Addr} {sl24 : Array (Option Value)} {oc24 kV24 dc24 pm24 cd24 ct24 : Value}
    (n24 : PySem.W.nsIn K mainGlobals "_law_word" = some (some (.ref f_24))) (l24 : K.lookup f_24 = some ⟨oc24, od24, .func (PySem.W.fnOf "_law_word" "_law_word" (defArgs s_law_word) (defBody s_law_word) (defScope s_law_word) .none kV24 dc24 pm24 an24 cd24 ct24), sl24⟩) (c24 : PySem.W.codeIn K cd24 "_law_word" = true) (k24 : PySem.W.keepIn K (.ref f_24) = true)
    {od25 an25 : Option Addr} {sl25 : Array (Option Value)} {oc25 kV25 dc25 pm25 cd25 ct25 : Value}
    (n25 : PySem.W.nsIn K mainGlobals "_law_told" = some (some (.ref f_25))) (l25 : K.lookup f_25 = some ⟨oc25, od25, .func (PySem.W.fnOf "_law_told" "_law_told" (defArgs s_law_told) (defBody s_law_told) (defScope s_law_told) .none kV25 dc25 pm25 an25 cd25 ct25), sl25⟩) (c25 : PySem.W.codeIn K cd25 "_law_told" = true) (k25 : PySem.W.keepIn K (.ref f_25) = true)
    {od26 an26 : Option Addr} {sl26 : Array (Option Value)} {oc26 kV26 dc26 pm26 cd26 ct26 : Value}
    (n26 : PySem.W.nsIn K mainGlobals "law" = some (some (.ref f_26))) (l26 : K.lookup f_26 = some ⟨oc26, od26, .func (PySem.W.fnOf "law" "law" (defArgs s_law) (defBody s_law) (defScope s_law) .none kV26 dc26 pm26 an26 cd26 ct26), sl26⟩) (c26 : PySem.W.codeIn K cd26 "law" = true) (k26 : PySem.W.keepIn K (.ref f_26) = true)
    (nd_tabs : [tabAt oC3, tabAt oC4, tabAt oC5, tabAt oC20].Nodup)
    {c_BoardError : Addr} (gx_BoardError : PySem.W.nsIn K mainGlobals "BoardError" = some (some (.ref c_BoardError)))
    {c_NoBytes : Addr} (gx_NoBytes : PySem.W.nsIn K mainGlobals "NoBytes" = some (some (.ref c_NoBytes)))
    {c_NoDeed : Addr} (gx_NoDeed : PySem.W.nsIn K mainGlobals "NoDeed" = some (some (.ref c_NoDeed)))
    {c_NoDrawing : Addr} (gx_NoDrawing : PySem.W.nsIn K mainGlobals "NoDrawing" = some (some (.ref c_NoDrawing)))
    {c_NoOrder : Addr} (gx_NoOrder : PySem.W.nsIn K mainGlobals "NoOrder" = some (some (.ref c_NoOrder)))
    {c_NoPart : Addr} (gx_NoPart : PySem.W.nsIn K mainGlobals "NoPart" = some (some (.ref c_NoPart)))
    {c_NoSize : Addr} (gx_NoSize : PySem.W.nsIn K mainGlobals "NoSize" = some (some (.ref c_NoSize)))
    {c_NoSpot : Addr} (gx_NoSpot : PySem.W.nsIn K mainGlobals "NoSpot" = some (some (.ref c_NoSpot)))
    {c_NoText : Addr} (gx_NoText : PySem.W.nsIn K mainGlobals "NoText" = some (some (.ref c_NoText)))
    {c_NoTie : Addr} (gx_NoTie : PySem.W.nsIn K mainGlobals "NoTie" = some (some (.ref c_NoTie)))
    {c_NoTurn : Addr} (gx_NoTurn : PySem.W.nsIn K mainGlobals "NoTurn" = some (some (.ref c_NoTurn)))
    {c_NoWay : Addr} (gx_NoWay : PySem.W.nsIn K mainGlobals "NoWay" = some (some (.ref c_NoWay)))
    {c_NoWeight : Addr} (gx_NoWeight : PySem.W.nsIn K mainGlobals "NoWeight" = some (some (.ref c_NoWeight)))
    {c_NoWord : Addr} (gx_NoWord : PySem.W.nsIn K mainGlobals "NoWord" = some (some (.ref c_NoWord)))
    {c_OffFloor : Addr} (gx_OffFloor : PySem.W.nsIn K mainGlobals "OffFloor" = some (some (.ref c_OffFloor)))
    {c_OnShut : Addr} (gx_OnShut : PySem.W.nsIn K mainGlobals "OnShut" = some (some (.ref c_OnShut)))
    {c_Overlap : Addr} (gx_Overlap : PySem.W.nsIn K mainGlobals "Overlap" = some (some (.ref c_Overlap)))
    {c_TooMany : Addr} (gx_TooMany : PySem.W.nsIn K mainGlobals "TooMany" = some (some (.ref c_TooMany)))
    {c_TooNear : Addr} (gx_TooNear : PySem.W.nsIn K mainGlobals "TooNear" = some (some (.ref c_TooNear)))
    (hd_BoardError : PySem.W.hasDictIn K c_BoardError = true)
    (xt_BoardError : PySem.W.typeIn K (.ref c_BoardError) = some (.type "type"))
    (hd_NoBytes : PySem.W.hasDictIn K c_NoBytes = true)
    (xt_NoBytes : PySem.W.typeIn K (.ref c_NoBytes) = some (.type "type"))
    (hd_NoDeed : PySem.W.hasDictIn K c_NoDeed = true)
    (xt_NoDeed : PySem.W.typeIn K (.ref c_NoDeed) = some (.type "type"))
    (hd_NoDrawing : PySem.W.hasDictIn K c_NoDrawing = true)
    (xt_NoDrawing : PySem.W.typeIn K (.ref c_NoDrawing) = some (.type "type"))
    (hd_NoOrder : PySem.W.hasDictIn K c_NoOrder = true)
    (xt_NoOrder : PySem.W.typeIn K (.ref c_NoOrder) = some (.type "type"))
    (hd_NoPart : PySem.W.hasDictIn K c_NoPart = true)
    (xt_NoPart : PySem.W.typeIn K (.ref c_NoPart) = some (.type "type"))
    (hd_NoSize : PySem.W.hasDictIn K c_NoSize = true)
    (xt_NoSize : PySem.W.typeIn K (.ref c_NoSize) = some (.type "type"))
    (hd_NoSpot : PySem.W.hasDictIn K c_NoSpot = true)
    (xt_NoSpot : PySem.W.typeIn K (.ref c_NoSpot) = some (.type "type"))
    (hd_NoText : PySem.W.hasDictIn K c_NoText = true)
    (xt_NoText : PySem.W.typeIn K (.ref c_NoText) = some (.type "type"))
    (hd_NoTie : PySem.W.hasDictIn K c_NoTie = true)
    (xt_NoTie : PySem.W.typeIn K (.ref c_NoTie) = some (.type "type"))
    (hd_NoTurn : PySem.W.hasDictIn K c_NoTurn = true)
    (xt_NoTurn : PySem.W.typeIn K (.ref c_NoTurn) = some (.type "type"))
    (hd_NoWay : PySem.W.hasDictIn K c_NoWay = true)
    (xt_NoWay : PySem.W.typeIn K (.ref c_NoWay) = some (.type "type"))
    (hd_NoWeight : PySem.W.hasDictIn K c_NoWeight = true)
    (xt_NoWeight : PySem.W.typeIn K (.ref c_NoWeight) = some (.type "type"))
    (hd_NoWord : PySem.W.hasDictIn K c_NoWord = true)
    (xt_NoWord : PySem.W.typeIn K (.ref c_NoWord) = some (.type "type"))
    (hd_OffFloor : PySem.W.hasDictIn K c_OffFloor = true)
    (xt_OffFloor : PySem.W.typeIn K (.ref c_OffFloor) = some (.type "type"))
    (hd_OnShut : PySem.W.hasDictIn K c_OnShut = true)
    (xt_OnShut : PySem.W.typeIn K (.ref c_OnShut) = some (.type "type"))
    (hd_Overlap : PySem.W.hasDictIn K c_Overlap = true)
    (xt_Overlap : PySem.W.typeIn K (.ref c_Overlap) = some (.type "type"))
    (hd_TooMany : PySem.W.hasDictIn K c_TooMany = true)
    (xt_TooMany : PySem.W.typeIn K (.ref c_TooMany) = some (.type "type"))
    (hd_TooNear : PySem.W.hasDictIn K c_TooNear = true)
    (xt_TooNear : PySem.W.typeIn K (.ref c_TooNear) = some (.type "type"))
    (xb_BoardError : PySem.W.subIn K (.ref c_BoardError) (.type "BaseException") = some true)
    (xx_NoSpot : PySem.W.excIn K c_NoSpot [.type "ValueError", .type "Exception", .type "BaseException", .type "object"] "ValueError.__new__" = true)
    (xk_NoSpot : PySem.W.keepIn K (.ref c_NoSpot) = true)
    (xb_NoSpot : PySem.W.subIn K (.ref c_NoSpot) (.type "BaseException") = some true)
    (xe_NoSpot : ExcC K c_NoSpot)
    (sb_NoSpot_BoardError : PySem.W.subIn K (.ref c_NoSpot) (.ref c_BoardError) = some true)
    (ne_NoSpot_NoBytes : c_NoSpot ≠ c_NoBytes)
    (sb_NoSpot_NoBytes : PySem.W.subIn K (.ref c_NoSpot) (.ref c_NoBytes) = some false)
    (ne_NoSpot_NoDeed : c_NoSpot ≠ c_NoDeed)
    (sb_NoSpot_NoDeed : PySem.W.subIn K (.ref c_NoSpot) (.ref c_NoDeed) = some false)
    (ne_NoSpot_NoDrawing : c_NoSpot ≠ c_NoDrawing)
    (sb_NoSpot_NoDrawing : PySem.W.subIn K (.ref c_NoSpot) (.ref c_NoDrawing) = some false)
    (ne_NoSpot_NoOrder : c_NoSpot ≠ c_NoOrder)
    (sb_NoSpot_NoOrder : PySem.W.subIn K (.ref c_NoSpot) (.ref c_NoOrder) = some false)
    (ne_NoSpot_NoPart : c_NoSpot ≠ c_NoPart)
    (sb_NoSpot_NoPart : PySem.W.subIn K (.ref c_NoSpot) (.ref c_NoPart) = some false)
    (ne_NoSpot_NoSize : c_NoSpot ≠ c_NoSize)
    (sb_NoSpot_NoSize : PySem.W.subIn K (.ref c_NoSpot) (.ref c_NoSize) = some false)
    (ne_NoSpot_NoText : c_NoSpot ≠ c_NoText)
    (sb_NoSpot_NoText : PySem.W.subIn K (.ref c_NoSpot) (.ref c_NoText) = some false)
    (ne_NoSpot_NoTie : c_NoSpot ≠ c_NoTie)
    (sb_NoSpot_NoTie : PySem.W.subIn K (.ref c_NoSpot) (.ref c_NoTie) = some false)
    (ne_NoSpot_NoTurn : c_NoSpot ≠ c_NoTurn)
    (sb_NoSpot_NoTurn : PySem.W.subIn K (.ref c_NoSpot) (.ref c_NoTurn) = some false)
    (ne_NoSpot_NoWay : c_NoSpot ≠ c_NoWay)
    (sb_NoSpot_NoWay : PySem.W.subIn K (.ref c_NoSpot) (.ref c_NoWay) = some false)
    (ne_NoSpot_NoWeight : c_NoSpot ≠ c_NoWeight)
    (sb_NoSpot_NoWeight : PySem.W.subIn K (.ref c_NoSpot) (.ref c_NoWeight) = some false)
    (ne_NoSpot_NoWord : c_NoSpot ≠ c_NoWord)
    (sb_NoSpot_NoWord : PySem.W.subIn K (.ref c_NoSpot) (.ref c_NoWord) = some false)
    (ne_NoSpot_OffFloor : c_NoSpot ≠ c_OffFloor)
    (sb_NoSpot_OffFloor : PySem.W.subIn K (.ref c_NoSpot) (.ref c_OffFloor) = some false)
    (ne_NoSpot_OnShut : c_NoSpot ≠ c_OnShut)
    (sb_NoSpot_OnShut : PySem.W.subIn K (.ref c_NoSpot) (.ref c_OnShut) = some false)
    (ne_NoSpot_Overlap : c_NoSpot ≠ c_Overlap)
    (sb_NoSpot_Overlap : PySem.W.subIn K (.ref c_NoSpot) (.ref c_Overlap) = some false)
    (ne_NoSpot_TooMany : c_NoSpot ≠ c_TooMany)
    (sb_NoSpot_TooMany : PySem.W.subIn K (.ref c_NoSpot) (.ref c_TooMany) = some false)
    (ne_NoSpot_TooNear : c_NoSpot ≠ c_TooNear)
    (sb_NoSpot_TooNear : PySem.W.subIn K (.ref c_NoSpot) (.ref c_TooNear) = some false)
    (sb_NoSpot_ValueError : PySem.W.subIn K (.ref c_NoSpot) (.type "ValueError") = some true)
    (xx_NoWeight : PySem.W.excIn K c_NoWeight [.type "ValueError", .type "Exception", .type "BaseException", .type "object"] "ValueError.__new__" = true)
    (xk_NoWeight : PySem.W.keepIn K (.ref c_NoWeight) = true)
    (xb_NoWeight : PySem.W.subIn K (.ref c_NoWeight) (.type "BaseException") = some true)
    (xe_NoWeight : ExcC K c_NoWeight)
    (sb_NoWeight_BoardError : PySem.W.subIn K (.ref c_NoWeight) (.ref c_BoardError) = some true)
    (ne_NoWeight_NoBytes : c_NoWeight ≠ c_NoBytes)
    (sb_NoWeight_NoBytes : PySem.W.subIn K (.ref c_NoWeight) (.ref c_NoBytes) = some false)
    (ne_NoWeight_NoDeed : c_NoWeight ≠ c_NoDeed)
    (sb_NoWeight_NoDeed : PySem.W.subIn K (.ref c_NoWeight) (.ref c_NoDeed) = some false)
    (ne_NoWeight_NoDrawing : c_NoWeight ≠ c_NoDrawing)
    (sb_NoWeight_NoDrawing : PySem.W.subIn K (.ref c_NoWeight) (.ref c_NoDrawing) = some false)
    (ne_NoWeight_NoOrder : c_NoWeight ≠ c_NoOrder)
    (sb_NoWeight_NoOrder : PySem.W.subIn K (.ref c_NoWeight) (.ref c_NoOrder) = some false)
    (ne_NoWeight_NoPart : c_NoWeight ≠ c_NoPart)
    (sb_NoWeight_NoPart : PySem.W.subIn K (.ref c_NoWeight) (.ref c_NoPart) = some false)
    (ne_NoWeight_NoSize : c_NoWeight ≠ c_NoSize)
    (sb_NoWeight_NoSize : PySem.W.subIn K (.ref c_NoWeight) (.ref c_NoSize) = some false)
    (ne_NoWeight_NoSpot : c_NoWeight ≠ c_NoSpot)
    (sb_NoWeight_NoSpot : PySem.W.subIn K (.ref c_NoWeight) (.ref c_NoSpot) = some false)
    (ne_NoWeight_NoText : c_NoWeight ≠ c_NoText)
    (sb_NoWeight_NoText : PySem.W.subIn K (.ref c_NoWeight) (.ref c_NoText) = some false)
    (ne_NoWeight_NoTie : c_NoWeight ≠ c_NoTie)
    (sb_NoWeight_NoTie : PySem.W.subIn K (.ref c_NoWeight) (.ref c_NoTie) = some false)
    (ne_NoWeight_NoTurn : c_NoWeight ≠ c_NoTurn)
    (sb_NoWeight_NoTurn : PySem.W.subIn K (.ref c_NoWeight) (.ref c_NoTurn) = some false)
    (ne_NoWeight_NoWay : c_NoWeight ≠ c_NoWay)
    (sb_NoWeight_NoWay : PySem.W.subIn K (.ref c_NoWeight) (.ref c_NoWay) = some false)
    (ne_NoWeight_NoWord : c_NoWeight ≠ c_NoWord)
    (sb_NoWeight_NoWord : PySem.W.subIn K (.ref c_NoWeight) (.ref c_NoWord) = some false)
    (ne_NoWeight_OffFloor : c_NoWeight ≠ c_OffFloor)
    (sb_NoWeight_OffFloor : PySem.W.subIn K (.ref c_NoWeight) (.ref c_OffFloor) = some false)
    (ne_NoWeight_OnShut : c_NoWeight ≠ c_OnShut)
    (sb_NoWeight_OnShut : PySem.W.subIn K (.ref c_NoWeight) (.ref c_OnShut) = some false)
    (ne_NoWeight_Overlap : c_NoWeight ≠ c_Overlap)
    (sb_NoWeight_Overlap : PySem.W.subIn K (.ref c_NoWeight) (.ref c_Overlap) = some false)
    (ne_NoWeight_TooMany : c_NoWeight ≠ c_TooMany)
    (sb_NoWeight_TooMany : PySem.W.subIn K (.ref c_NoWeight) (.ref c_TooMany) = some false)
    (ne_NoWeight_TooNear : c_NoWeight ≠ c_TooNear)
    (sb_NoWeight_TooNear : PySem.W.subIn K (.ref c_NoWeight) (.ref c_TooNear) = some false)
    (sb_NoWeight_ValueError : PySem.W.subIn K (.ref c_NoWeight) (.type "ValueError") = some true)
    (z_ValueError : PySem.W.nsIn K mainGlobals "ValueError" = some none)
    (z_bool : PySem.W.nsIn K mainGlobals "bool" = some none)
    (z_dict : PySem.W.nsIn K mainGlobals "dict" = some none)
    (z_int : PySem.W.nsIn K mainGlobals "int" = some none)
    (z_isinstance : PySem.W.nsIn K mainGlobals "isinstance" = some none)
    (z_len : PySem.W.nsIn K mainGlobals "len" = some none)
    (z_list : PySem.W.nsIn K mainGlobals "list" = some none)
    (z_max : PySem.W.nsIn K mainGlobals "max" = some none)
    (z_min : PySem.W.nsIn K mainGlobals "min" = some none)
    (z_range : PySem.W.nsIn K mainGlobals "range" = some none)
    (z_sorted : PySem.W.nsIn K mainGlobals "sorted" = some none)
    (z_sum : PySem.W.nsIn K mainGlobals "sum" = some none)
    (z_tuple : PySem.W.nsIn K mainGlobals "tuple" = some none)
    {tk_GREATEST : Tok} (w_GREATEST : PySem.W.nsIn K mainGlobals "GREATEST" = some (some (.int 9 tk_GREATEST)))
    : ∃ T : Top K mg, T.a_law = fa ∧ (∀ (s : Shared) (v : Value), BindsTo s T.fd_law ⟨[v], []⟩ [("_law_script", v)]) ∧ (∀ p ∈ [(T.c_by_sheet, T.P_by_sheet), (T.c_dearer, T.P_dearer), (T.c_heavier, T.P_heavier), (T.c_law_weigh, T.P_law_weigh)], p.2 ∈ ts ∧ K.lookup p.2 = none ∧ PySem.W.codeHdIn K p.1 p.2 = true) ∧ ((tabsOf T).map (·.1)).Nodup := by
  have e := hfa.symm.trans (PySem.W.mg_of X G n26)
  cases e
  exact ⟨{ a_is_number := f_0, fd_is_number := _, F_is_number := fun_mk (st := s_is_number) l0 c0 k0, m_is_number := PySem.W.mg_of X G n0, b_is_number := ((fun_mk (st := s_is_number) l0 c0 k0).binds (ps := ["thing", "least", "most"]) fun _ _ _ _ _ _ us hl => match us, hl with | [_, _, _], _ => rfl), a_has := f_1, fd_has := _, F_has := fun_mk (st := s_has) l1 c1 k1, m_has := PySem.W.mg_of X G n1, b_has := ((fun_mk (st := s_has) l1 c1 k1).binds (ps := ["sheet", "x", "y"]) fun _ _ _ _ _ _ us hl => match us, hl with | [_, _, _], _ => rfl), a_need_weight := f_2, fd_need_weight := _, F_need_weight := fun_mk (st := s_need_weight) l2 c2 k2, m_need_weight := PySem.W.mg_of X G n2, b_need_weight := ((fun_mk (st := s_need_weight) l2 c2 k2).binds (ps := ["thing", "least"]) fun _ _ _ _ _ _ us hl => match us, hl with | [_, _], _ => rfl), a_by_sheet := f_3, fd_by_sheet := _, c_by_sheet := cA3, P_by_sheet := tabAt oC3, F_by_sheet := funC_mk (st := s_by_sheet) l3 c3, kp_by_sheet := k3, hd_by_sheet := h3, gp_by_sheet := g3, m_by_sheet := PySem.W.mg_of X G n3, b_by_sheet := ((fun_mk (st := s_by_sheet) l3 c3 k3).binds (ps := ["front", "back"]) fun _ _ _ _ _ _ us hl => match us, hl with | [_, _], _ => rfl), a_dearer := f_4, fd_dearer := _, c_dearer := cA4, P_dearer := tabAt oC4, F_dearer := funC_mk (st := s_dearer) l4 c4, kp_dearer := k4, hd_dearer := h4, gp_dearer := g4, m_dearer := PySem.W.mg_of X G n4, b_dearer := ((fun_mk (st := s_dearer) l4 c4 k4).binds (ps := ["weigh", "spots", "more"]) fun _ _ _ _ _ _ us hl => match us, hl with | [_, _, _], _ => rfl), a_heavier := f_5, fd_heavier := _, c_heavier := cA5, P_heavier := tabAt oC5, F_heavier := funC_mk (st := s_heavier) l5 c5, kp_heavier := k5, hd_heavier := h5, gp_heavier := g5, m_heavier := PySem.W.mg_of X G n5, b_heavier := ((fun_mk (st := s_heavier) l5 c5 k5).binds (ps := ["one", "other"]) fun _ _ _ _ _ _ us hl => match us, hl with | [_, _], _ => rfl), a_steps := f_6, fd_steps := _, F_steps := fun_mk (st := s_steps) l6 c6 k6, m_steps := PySem.W.mg_of X G n6, b_steps := ((fun_mk (st := s_steps) l6 c6 k6).binds (ps := ["size", "spot"]) fun _ _ _ _ _ _ us hl => match us, hl with | [_, _], _ => rfl), a_is_free := f_7, fd_is_free := _, F_is_free := fun_mk (st := s_is_free) l7 c7 k7, m_is_free := PySem.W.mg_of X G n7, b_is_free := ((fun_mk (st := s_is_free) l7 c7 k7).binds (ps := ["view", "spot"]) fun _ _ _ _ _ _ us hl => match us, hl with | [_, _], _ => rfl), a_need_free := f_8, fd_need_free := _, F_need_free := fun_mk (st := s_need_free) l8 c8 k8, m_need_free := PySem.W.mg_of X G n8, b_need_free := ((fun_mk (st := s_need_free) l8 c8 k8).binds (ps := ["view", "spots"]) fun _ _ _ _ _ _ us hl => match us, hl with | [_, _], _ => rfl), a_free_steps := f_9, fd_free_steps := _, F_free_steps := fun_mk (st := s_free_steps) l9 c9 k9, m_free_steps := PySem.W.mg_of X G n9, b_free_steps := ((fun_mk (st := s_free_steps) l9 c9 k9).binds (ps := ["view", "spot"]) fun _ _ _ _ _ _ us hl => match us, hl with | [_, _], _ => rfl), a_step_price := f_10, fd_step_price := _, F_step_price := fun_mk (st := s_step_price) l10 c10 k10, m_step_price := PySem.W.mg_of X G n10, b_step_price := ((fun_mk (st := s_step_price) l10 c10 k10).binds (ps := ["spot", "ahead", "weigh", "hole"]) fun _ _ _ _ _ _ us hl => match us, hl with | [_, _, _, _], _ => rfl), a_waves := f_11, fd_waves := _, F_waves := fun_mk (st := s_waves) l11 c11 k11, m_waves := PySem.W.mg_of X G n11, b_waves := ((fun_mk (st := s_waves) l11 c11 k11).binds (ps := ["view", "targets", "weigh", "hole"]) fun _ _ _ _ _ _ us hl => match us, hl with | [_, _, _, _], _ => rfl), a_law_cell_at := f_12, fd_law_cell_at := _, F_law_cell_at := fun_mk (st := s_law_cell_at) l12 c12 k12, m_law_cell_at := PySem.W.mg_of X G n12, b_law_cell_at := ((fun_mk (st := s_law_cell_at) l12 c12 k12).binds (ps := ["_law_script", "_law_k"]) fun _ _ _ _ _ _ us hl => match us, hl with | [_, _], _ => rfl), a_law_state := f_13, fd_law_state := _, F_law_state := fun_mk (st := s_law_state) l13 c13 k13, m_law_state := PySem.W.mg_of X G n13, b_law_state := ((fun_mk (st := s_law_state) l13 c13 k13).binds (ps := ["_law_cell", "_law_k"]) fun _ _ _ _ _ _ us hl => match us, hl with | [_, _], _ => rfl), a_law_next := f_14, fd_law_next := _, F_law_next := fun_mk (st := s_law_next) l14 c14 k14, m_law_next := PySem.W.mg_of X G n14, b_law_next := ((fun_mk (st := s_law_next) l14 c14 k14).binds (ps := ["_law_state_here", "_law_size_here"]) fun _ _ _ _ _ _ us hl => match us, hl with | [_, _], _ => rfl), a_law_size := f_15, fd_law_size := _, F_law_size := fun_mk (st := s_law_size) l15 c15 k15, m_law_size := PySem.W.mg_of X G n15, b_law_size := ((fun_mk (st := s_law_size) l15 c15 k15).binds (ps := ["_law_state_here"]) fun _ _ _ _ _ _ us hl => match us, hl with | [_], _ => rfl), a_law_floor := f_16, fd_law_floor := _, F_law_floor := fun_mk (st := s_law_floor) l16 c16 k16, m_law_floor := PySem.W.mg_of X G n16, b_law_floor := ((fun_mk (st := s_law_floor) l16 c16 k16).binds (ps := ["_law_size_here"]) fun _ _ _ _ _ _ us hl => match us, hl with | [_], _ => rfl), a_law_view := f_17, fd_law_view := _, F_law_view := fun_mk (st := s_law_view) l17 c17 k17, m_law_view := PySem.W.mg_of X G n17, b_law_view := ((fun_mk (st := s_law_view) l17 c17 k17).binds (ps := ["_law_state_here", "_law_size_here"]) fun _ _ _ _ _ _ us hl => match us, hl with | [_, _], _ => rfl), a_law_some := f_18, fd_law_some := _, F_law_some := fun_mk (st := s_law_some) l18 c18 k18, m_law_some := PySem.W.mg_of X G n18, b_law_some := ((fun_mk (st := s_law_some) l18 c18 k18).binds (ps := ["_law_state_here", "_law_free", "_law_most"]) fun _ _ _ _ _ _ us hl => match us, hl with | [_, _, _], _ => rfl), a_law_near_steps := f_19, fd_law_near_steps := _, F_law_near_steps := fun_mk (st := s_law_near_steps) l19 c19 k19, m_law_near_steps := PySem.W.mg_of X G n19, b_law_near_steps := ((fun_mk (st := s_law_near_steps) l19 c19 k19).binds (ps := ["_law_size_here", "_law_spot"]) fun _ _ _ _ _ _ us hl => match us, hl with | [_, _], _ => rfl), a_law_weigh := f_20, fd_law_weigh := _, c_law_weigh := cA20, P_law_weigh := tabAt oC20, F_law_weigh := funC_mk (st := s_law_weigh) l20 c20, kp_law_weigh := k20, hd_law_weigh := h20, gp_law_weigh := g20, m_law_weigh := PySem.W.mg_of X G n20, b_law_weigh := ((fun_mk (st := s_law_weigh) l20 c20 k20).binds (ps := ["_law_state_here", "_law_size_here"]) fun _ _ _ _ _ _ us hl => match us, hl with | [_, _], _ => rfl), a_law_step_price := f_21, fd_law_step_price := _, F_law_step_price := fun_mk (st := s_law_step_price) l21 c21 k21, m_law_step_price := PySem.W.mg_of X G n21, b_law_step_price := ((fun_mk (st := s_law_step_price) l21 c21 k21).binds (ps := ["_law_due", "_law_hole", "_law_spot", "_law_ahead"]) fun _ _ _ _ _ _ us hl => match us, hl with | [_, _, _, _], _ => rfl), a_law_least := f_22, fd_law_least := _, F_law_least := fun_mk (st := s_law_least) l22 c22 k22, m_law_least := PySem.W.mg_of X G n22, b_law_least := ((fun_mk (st := s_law_least) l22 c22 k22).binds (ps := ["_law_size_here", "_law_free", "_law_targets", "_law_due", "_law_hole"]) fun _ _ _ _ _ _ us hl => match us, hl with | [_, _, _, _, _], _ => rfl), a_law_alone := f_23, fd_law_alone := _, F_law_alone := fun_mk (st := s_law_alone) l23 c23 k23, m_law_alone := PySem.W.mg_of X G n23, b_law_alone := ((fun_mk (st := s_law_alone) l23 c23 k23).binds (ps := ["_law_e"]) fun _ _ _ _ _ _ us hl => match us, hl with | [_], _ => rfl), a_law_word := f_24, fd_law_word := _, F_law_word := fun_mk (st := s_law_word) l24 c24 k24, m_law_word := PySem.W.mg_of X G n24, b_law_word := ((fun_mk (st := s_law_word) l24 c24 k24).binds (ps := ["_law_view_here", "_law_targets", "_law_weigh_here", "_law_hole"]) fun _ _ _ _ _ _ us hl => match us, hl with | [_, _, _, _], _ => rfl), a_law_told := f_25, fd_law_told := _, F_law_told := fun_mk (st := s_law_told) l25 c25 k25, m_law_told := PySem.W.mg_of X G n25, b_law_told := ((fun_mk (st := s_law_told) l25 c25 k25).binds (ps := ["_law_found", "_law_due"]) fun _ _ _ _ _ _ us hl => match us, hl with | [_, _], _ => rfl), a_law := fa, fd_law := _, F_law := fun_mk (st := s_law) l26 c26 k26, m_law := PySem.W.mg_of X G n26, b_law := ((fun_mk (st := s_law) l26 c26 k26).binds (ps := ["_law_script"]) fun _ _ _ _ _ _ us hl => match us, hl with | [_], _ => rfl), c_BoardError := c_BoardError, gx_BoardError := PySem.W.mg_of X G gx_BoardError, c_NoBytes := c_NoBytes, gx_NoBytes := PySem.W.mg_of X G gx_NoBytes, c_NoDeed := c_NoDeed, gx_NoDeed := PySem.W.mg_of X G gx_NoDeed, c_NoDrawing := c_NoDrawing, gx_NoDrawing := PySem.W.mg_of X G gx_NoDrawing, c_NoOrder := c_NoOrder, gx_NoOrder := PySem.W.mg_of X G gx_NoOrder, c_NoPart := c_NoPart, gx_NoPart := PySem.W.mg_of X G gx_NoPart, c_NoSize := c_NoSize, gx_NoSize := PySem.W.mg_of X G gx_NoSize, c_NoSpot := c_NoSpot, gx_NoSpot := PySem.W.mg_of X G gx_NoSpot, c_NoText := c_NoText, gx_NoText := PySem.W.mg_of X G gx_NoText, c_NoTie := c_NoTie, gx_NoTie := PySem.W.mg_of X G gx_NoTie, c_NoTurn := c_NoTurn, gx_NoTurn := PySem.W.mg_of X G gx_NoTurn, c_NoWay := c_NoWay, gx_NoWay := PySem.W.mg_of X G gx_NoWay, c_NoWeight := c_NoWeight, gx_NoWeight := PySem.W.mg_of X G gx_NoWeight, c_NoWord := c_NoWord, gx_NoWord := PySem.W.mg_of X G gx_NoWord, c_OffFloor := c_OffFloor, gx_OffFloor := PySem.W.mg_of X G gx_OffFloor, c_OnShut := c_OnShut, gx_OnShut := PySem.W.mg_of X G gx_OnShut, c_Overlap := c_Overlap, gx_Overlap := PySem.W.mg_of X G gx_Overlap, c_TooMany := c_TooMany, gx_TooMany := PySem.W.mg_of X G gx_TooMany, c_TooNear := c_TooNear, gx_TooNear := PySem.W.mg_of X G gx_TooNear, hd_BoardError := hd_BoardError, xt_BoardError := xt_BoardError, hd_NoBytes := hd_NoBytes, xt_NoBytes := xt_NoBytes, hd_NoDeed := hd_NoDeed, xt_NoDeed := xt_NoDeed, hd_NoDrawing := hd_NoDrawing, xt_NoDrawing := xt_NoDrawing, hd_NoOrder := hd_NoOrder, xt_NoOrder := xt_NoOrder, hd_NoPart := hd_NoPart, xt_NoPart := xt_NoPart, hd_NoSize := hd_NoSize, xt_NoSize := xt_NoSize, hd_NoSpot := hd_NoSpot, xt_NoSpot := xt_NoSpot, hd_NoText := hd_NoText, xt_NoText := xt_NoText, hd_NoTie := hd_NoTie, xt_NoTie := xt_NoTie, hd_NoTurn := hd_NoTurn, xt_NoTurn := xt_NoTurn, hd_NoWay := hd_NoWay, xt_NoWay := xt_NoWay, hd_NoWeight := hd_NoWeight, xt_NoWeight := xt_NoWeight, hd_NoWord := hd_NoWord, xt_NoWord := xt_NoWord, hd_OffFloor := hd_OffFloor, xt_OffFloor := xt_OffFloor, hd_OnShut := hd_OnShut, xt_OnShut := xt_OnShut, hd_Overlap := hd_Overlap, xt_Overlap := xt_Overlap, hd_TooMany := hd_TooMany, xt_TooMany := xt_TooMany, hd_TooNear := hd_TooNear, xt_TooNear := xt_TooNear, xb_BoardError := xb_BoardError, xx_NoSpot := xx_NoSpot, xk_NoSpot := xk_NoSpot, xb_NoSpot := xb_NoSpot, xe_NoSpot := xe_NoSpot, sb_NoSpot_BoardError := sb_NoSpot_BoardError, ne_NoSpot_NoBytes := ne_NoSpot_NoBytes, sb_NoSpot_NoBytes := sb_NoSpot_NoBytes, ne_NoSpot_NoDeed := ne_NoSpot_NoDeed, sb_NoSpot_NoDeed := sb_NoSpot_NoDeed, ne_NoSpot_NoDrawing := ne_NoSpot_NoDrawing, sb_NoSpot_NoDrawing := sb_NoSpot_NoDrawing, ne_NoSpot_NoOrder := ne_NoSpot_NoOrder, sb_NoSpot_NoOrder := sb_NoSpot_NoOrder, ne_NoSpot_NoPart := ne_NoSpot_NoPart, sb_NoSpot_NoPart := sb_NoSpot_NoPart, ne_NoSpot_NoSize := ne_NoSpot_NoSize, sb_NoSpot_NoSize := sb_NoSpot_NoSize, ne_NoSpot_NoText := ne_NoSpot_NoText, sb_NoSpot_NoText := sb_NoSpot_NoText, ne_NoSpot_NoTie := ne_NoSpot_NoTie, sb_NoSpot_NoTie := sb_NoSpot_NoTie, ne_NoSpot_NoTurn := ne_NoSpot_NoTurn, sb_NoSpot_NoTurn := sb_NoSpot_NoTurn, ne_NoSpot_NoWay := ne_NoSpot_NoWay, sb_NoSpot_NoWay := sb_NoSpot_NoWay, ne_NoSpot_NoWeight := ne_NoSpot_NoWeight, sb_NoSpot_NoWeight := sb_NoSpot_NoWeight, ne_NoSpot_NoWord := ne_NoSpot_NoWord, sb_NoSpot_NoWord := sb_NoSpot_NoWord, ne_NoSpot_OffFloor := ne_NoSpot_OffFloor, sb_NoSpot_OffFloor := sb_NoSpot_OffFloor, ne_NoSpot_OnShut := ne_NoSpot_OnShut, sb_NoSpot_OnShut := sb_NoSpot_OnShut, ne_NoSpot_Overlap := ne_NoSpot_Overlap, sb_NoSpot_Overlap := sb_NoSpot_Overlap, ne_NoSpot_TooMany := ne_NoSpot_TooMany, sb_NoSpot_TooMany := sb_NoSpot_TooMany, ne_NoSpot_TooNear := ne_NoSpot_TooNear, sb_NoSpot_TooNear := sb_NoSpot_TooNear, sb_NoSpot_ValueError := sb_NoSpot_ValueError, xx_NoWeight := xx_NoWeight, xk_NoWeight := xk_NoWeight, xb_NoWeight := xb_NoWeight, xe_NoWeight := xe_NoWeight, sb_NoWeight_BoardError := sb_NoWeight_BoardError, ne_NoWeight_NoBytes := ne_NoWeight_NoBytes, sb_NoWeight_NoBytes := sb_NoWeight_NoBytes, ne_NoWeight_NoDeed := ne_NoWeight_NoDeed, sb_NoWeight_NoDeed := sb_NoWeight_NoDeed, ne_NoWeight_NoDrawing := ne_NoWeight_NoDrawing, sb_NoWeight_NoDrawing := sb_NoWeight_NoDrawing, ne_NoWeight_NoOrder := ne_NoWeight_NoOrder, sb_NoWeight_NoOrder := sb_NoWeight_NoOrder, ne_NoWeight_NoPart := ne_NoWeight_NoPart, sb_NoWeight_NoPart := sb_NoWeight_NoPart, ne_NoWeight_NoSize := ne_NoWeight_NoSize, sb_NoWeight_NoSize := sb_NoWeight_NoSize, ne_NoWeight_NoSpot := ne_NoWeight_NoSpot, sb_NoWeight_NoSpot := sb_NoWeight_NoSpot, ne_NoWeight_NoText := ne_NoWeight_NoText, sb_NoWeight_NoText := sb_NoWeight_NoText, ne_NoWeight_NoTie := ne_NoWeight_NoTie, sb_NoWeight_NoTie := sb_NoWeight_NoTie, ne_NoWeight_NoTurn := ne_NoWeight_NoTurn, sb_NoWeight_NoTurn := sb_NoWeight_NoTurn, ne_NoWeight_NoWay := ne_NoWeight_NoWay, sb_NoWeight_NoWay := sb_NoWeight_NoWay, ne_NoWeight_NoWord := ne_NoWeight_NoWord, sb_NoWeight_NoWord := sb_NoWeight_NoWord, ne_NoWeight_OffFloor := ne_NoWeight_OffFloor, sb_NoWeight_OffFloor := sb_NoWeight_OffFloor, ne_NoWeight_OnShut := ne_NoWeight_OnShut, sb_NoWeight_OnShut := sb_NoWeight_OnShut, ne_NoWeight_Overlap := ne_NoWeight_Overlap, sb_NoWeight_Overlap := sb_NoWeight_Overlap, ne_NoWeight_TooMany := ne_NoWeight_TooMany, sb_NoWeight_TooMany := sb_NoWeight_TooMany, ne_NoWeight_TooNear := ne_NoWeight_TooNear, sb_NoWeight_TooNear := sb_NoWeight_TooNear, sb_NoWeight_ValueError := sb_NoWeight_ValueError, n_ValueError := PySem.W.mg_none_of X G z_ValueError, n_bool := PySem.W.mg_none_of X G z_bool, n_dict := PySem.W.mg_none_of X G z_dict, n_int := PySem.W.mg_none_of X G z_int, n_isinstance := PySem.W.mg_none_of X G z_isinstance, n_len := PySem.W.mg_none_of X G z_len, n_list := PySem.W.mg_none_of X G z_list, n_max := PySem.W.mg_none_of X G z_max, n_min := PySem.W.mg_none_of X G z_min, n_range := PySem.W.mg_none_of X G z_range, n_sorted := PySem.W.mg_none_of X G z_sorted, n_sum := PySem.W.mg_none_of X G z_sum, n_tuple := PySem.W.mg_none_of X G z_tuple, g_GREATEST := ⟨_, PySem.W.mg_of X G w_GREATEST⟩ }, rfl, fun s v => .of_eq rfl, (fun p hp => by simp only [List.mem_cons, List.not_mem_nil, or_false] at hp; rcases hp with rfl | rfl | rfl | rfl; exact ⟨m3, o3, h3⟩; exact ⟨m4, o4, h4⟩; exact ⟨m5, o5, h5⟩; exact ⟨m20, o20, h20⟩), nd_tabs⟩
theorem walk {l : PySem.W.OpenLaw} {q : Program} {loose : List Str} {XP : (Str → Option Value) → Heap → Prop} {YP : World → Heap → Prop} {d : DefRec} {K : Params → PySem.W.Frag} {ts : List Addr} (hn : l.most = some 63) (hdf : d.params.defaults = [])
    (hY : ∀ (w : World) (h : Heap), YP w h → (K w.params).In h ∧ ∀ Pt ∈ ts, h.get? Pt = some { cls := .none, data := .fields #[] })
    (F : ∀ (w : World) (mg : Str → Option Value) (fa : Addr) (h : Heap), (K w.params).In h → h.Ns mainGlobals mg → mg d.name = some (.ref fa) →
      ∃ T : Top (K w.params) mg, T.a_law = fa ∧ (∀ (s : Shared) (u : Value), BindsTo s T.fd_law ⟨[u], []⟩ [("_law_script", u)]) ∧ (∀ p ∈ [(T.c_by_sheet, T.P_by_sheet), (T.c_dearer, T.P_dearer), (T.c_heavier, T.P_heavier), (T.c_law_weigh, T.P_law_weigh)], p.2 ∈ ts ∧ (K w.params).lookup p.2 = none ∧ PySem.W.codeHdIn (K w.params) p.1 p.2 = true) ∧ ((tabsOf T).map (·.1)).Nodup) :
    PySem.W.WalkO q loose XP YP l.row.toRowW d [] (fun f vs => PySem.call f vs) :=
  walk_tab (n := 63) (k := 17) (x := "_law_script") (K := K) hn (by decide) hdf ⟨rfl, by decide, by decide⟩ rfl hY
    (fun w mg fa h X G hm => by
      obtain ⟨T, rfl, hb, hc, nd⟩ := F w mg fa h X G hm
      exact ⟨T.fd_law, tabsOf T, [(T.c_by_sheet, T.P_by_sheet), (T.c_dearer, T.P_dearer), (T.c_heavier, T.P_heavier), (T.c_law_weigh, T.P_law_weigh)], by simp, nd, by simp [tabsOf], hc, hb, fun base _ _ B => ok_law T B⟩)
    fun _ _ _ _ _ z => cx_no z
end
end B
set_option maxRecDepth 100000 in
set_option maxHeartbeats 0 in
theorem PySem.Challenge.cw_boardlay_k32_waves_holds : PySem.Challenge.rw_boardlay_k32_waves.Holds := by
  w_on; o_law; k_head; (case hw => w_witness2)
  k_fill
  refine B.walk (l := PySem.Challenge.rw_boardlay_k32_waves) rfl rfl (fun w h Y => ⟨PySem.W.km_in_of Y, PySem.W.km_tabs_of Y⟩) ?F
  case F =>
    intro w mg fa h KX G hmg
    refine' B.all_mk KX G hmg ?n0 ?l0 ?c0 ?k0 ?n1 ?l1 ?c1 ?k1 ?n2 ?l2 ?c2 ?k2 ?n3 ?l3 ?c3 ?k3 ?q3 ?h3 ?g3 ?o3 ?m3 ?n4 ?l4 ?c4 ?k4 ?q4 ?h4 ?g4 ?o4 ?m4 ?n5 ?l5 ?c5 ?k5 ?q5 ?h5 ?g5 ?o5 ?m5 ?n6 ?l6 ?c6 ?k6 ?n7 ?l7 ?c7 ?k7 ?n8 ?l8 ?c8 ?k8 ?n9 ?l9 ?c9 ?k9 ?n10 ?l10 ?c10 ?k10 ?n11 ?l11 ?c11 ?k11 ?n12 ?l12 ?c12 ?k12 ?n13 ?l13 ?c13 ?k13 ?n14 ?l14 ?c14 ?k14 ?n15 ?l15 ?c15 ?k15 ?n16 ?l16 ?c16 ?k16 ?n17 ?l17 ?c17 ?k17 ?n18 ?l18 ?c18 ?k18 ?n19 ?l19 ?c19 ?k19 ?n20 ?l20 ?c20 ?k20 ?q20 ?h20 ?g20 ?o20 ?m20 ?n21 ?l21 ?c21 ?k21 ?n22 ?l22 ?c22 ?k22 ?n23 ?l23 ?c23 ?k23 ?n24 ?l24 ?c24 ?k24 ?n25 ?l25 ?c25 ?k25 ?n26 ?l26 ?c26 ?k26 ?nd_tabs ?gx_BoardError ?gx_NoBytes ?gx_NoDeed ?gx_NoDrawing ?gx_NoOrder ?gx_NoPart ?gx_NoSize ?gx_NoSpot ?gx_NoText ?gx_NoTie ?gx_NoTurn ?gx_NoWay ?gx_NoWeight ?gx_NoWord ?gx_OffFloor ?gx_OnShut ?gx_Overlap ?gx_TooMany ?gx_TooNear ?hd_BoardError ?xt_BoardError ?hd_NoBytes ?xt_NoBytes ?hd_NoDeed ?xt_NoDeed ?hd_NoDrawing ?xt_NoDrawing ?hd_NoOrder ?xt_NoOrder ?hd_NoPart ?xt_NoPart ?hd_NoSize ?xt_NoSize ?hd_NoSpot ?xt_NoSpot ?hd_NoText ?xt_NoText ?hd_NoTie ?xt_NoTie ?hd_NoTurn ?xt_NoTurn ?hd_NoWay ?xt_NoWay ?hd_NoWeight ?xt_NoWeight ?hd_NoWord ?xt_NoWord ?hd_OffFloor ?xt_OffFloor ?hd_OnShut ?xt_OnShut ?hd_Overlap ?xt_Overlap ?hd_TooMany ?xt_TooMany ?hd_TooNear ?xt_TooNear ?xb_BoardError ?xx_NoSpot ?xk_NoSpot ?xb_NoSpot ?xe_NoSpot ?sb_NoSpot_BoardError ?ne_NoSpot_NoBytes ?sb_NoSpot_NoBytes ?ne_NoSpot_NoDeed ?sb_NoSpot_NoDeed ?ne_NoSpot_NoDrawing ?sb_NoSpot_NoDrawing ?ne_NoSpot_NoOrder ?sb_NoSpot_NoOrder ?ne_NoSpot_NoPart ?sb_NoSpot_NoPart ?ne_NoSpot_NoSize ?sb_NoSpot_NoSize ?ne_NoSpot_NoText ?sb_NoSpot_NoText ?ne_NoSpot_NoTie ?sb_NoSpot_NoTie ?ne_NoSpot_NoTurn ?sb_NoSpot_NoTurn ?ne_NoSpot_NoWay ?sb_NoSpot_NoWay ?ne_NoSpot_NoWeight ?sb_NoSpot_NoWeight ?ne_NoSpot_NoWord ?sb_NoSpot_NoWord ?ne_NoSpot_OffFloor ?sb_NoSpot_OffFloor ?ne_NoSpot_OnShut ?sb_NoSpot_OnShut ?ne_NoSpot_Overlap ?sb_NoSpot_Overlap ?ne_NoSpot_TooMany ?sb_NoSpot_TooMany ?ne_NoSpot_TooNear ?sb_NoSpot_TooNear ?sb_NoSpot_ValueError ?xx_NoWeight ?xk_NoWeight ?xb_NoWeight ?xe_NoWeight ?sb_NoWeight_BoardError ?ne_NoWeight_NoBytes ?sb_NoWeight_NoBytes ?ne_NoWeight_NoDeed ?sb_NoWeight_NoDeed ?ne_NoWeight_NoDrawing ?sb_NoWeight_NoDrawing ?ne_NoWeight_NoOrder ?sb_NoWeight_NoOrder ?ne_NoWeight_NoPart ?sb_NoWeight_NoPart ?ne_NoWeight_NoSize ?sb_NoWeight_NoSize ?ne_NoWeight_NoSpot ?sb_NoWeight_NoSpot ?ne_NoWeight_NoText ?sb_NoWeight_NoText ?ne_NoWeight_NoTie ?sb_NoWeight_NoTie ?ne_NoWeight_NoTurn ?sb_NoWeight_NoTurn ?ne_NoWeight_NoWay ?sb_NoWeight_NoWay ?ne_NoWeight_NoWord ?sb_NoWeight_NoWord ?ne_NoWeight_OffFloor ?sb_NoWeight_OffFloor ?ne_NoWeight_OnShut ?sb_NoWeight_OnShut ?ne_NoWeight_Overlap ?sb_NoWeight_Overlap ?ne_NoWeight_TooMany ?sb_NoWeight_TooMany ?ne_NoWeight_TooNear ?sb_NoWeight_TooNear ?sb_NoWeight_ValueError ?z_ValueError ?z_bool ?z_dict ?z_int ?z_isinstance ?z_len ?z_list ?z_max ?z_min ?z_range ?z_sorted ?z_sum ?z_tuple ?w_GREATEST
    (case gx_BoardError => k_is); (case gx_NoBytes => k_is); (case gx_NoDeed => k_is); (case gx_NoDrawing => k_is); (case gx_NoOrder => k_is); (case gx_NoPart => k_is)
    (case gx_NoSize => k_is); (case gx_NoSpot => k_is); (case gx_NoText => k_is); (case gx_NoTie => k_is); (case gx_NoTurn => k_is); (case gx_NoWay => k_is)
    (case gx_NoWeight => k_is); (case gx_NoWord => k_is); (case gx_OffFloor => k_is); (case gx_OnShut => k_is); (case gx_Overlap => k_is); (case gx_TooMany => k_is)
    (case gx_TooNear => k_is); (case n0 => k_is); (case l0 => k_is); (case c0 => k_is); (case k0 => k_is); (case n1 => k_is)
    (case l1 => k_is); (case c1 => k_is); (case k1 => k_is); (case n2 => k_is); (case l2 => k_is); (case c2 => k_is)
    (case k2 => k_is); (case n3 => k_is); (case l3 => k_is); (case c3 => k_is); (case k3 => k_is); (case q3 => k_is)
    (case h3 => first | rfl | decide +kernel); (case g3 => decide); (case o3 => first | rfl | decide +kernel); (case m3 => decide); (case n4 => k_is); (case l4 => k_is)
    (case c4 => k_is); (case k4 => k_is); (case q4 => k_is); (case h4 => first | rfl | decide +kernel); (case g4 => decide); (case o4 => first | rfl | decide +kernel)
    (case m4 => decide); (case n5 => k_is); (case l5 => k_is); (case c5 => k_is); (case k5 => k_is); (case q5 => k_is)
    (case h5 => first | rfl | decide +kernel); (case g5 => decide); (case o5 => first | rfl | decide +kernel); (case m5 => decide); (case n6 => k_is); (case l6 => k_is)
    (case c6 => k_is); (case k6 => k_is); (case n7 => k_is); (case l7 => k_is); (case c7 => k_is); (case k7 => k_is)
    (case n8 => k_is); (case l8 => k_is); (case c8 => k_is); (case k8 => k_is); (case n9 => k_is); (case l9 => k_is)
    (case c9 => k_is); (case k9 => k_is); (case n10 => k_is); (case l10 => k_is); (case c10 => k_is); (case k10 => k_is)
    (case n11 => k_is); (case l11 => k_is); (case c11 => k_is); (case k11 => k_is); (case n12 => k_is); (case l12 => k_is)
    (case c12 => k_is); (case k12 => k_is); (case n13 => k_is); (case l13 => k_is); (case c13 => k_is); (case k13 => k_is)
    (case n14 => k_is); (case l14 => k_is); (case c14 => k_is); (case k14 => k_is); (case n15 => k_is); (case l15 => k_is)
    (case c15 => k_is); (case k15 => k_is); (case n16 => k_is); (case l16 => k_is); (case c16 => k_is); (case k16 => k_is)
    (case n17 => k_is); (case l17 => k_is); (case c17 => k_is); (case k17 => k_is); (case n18 => k_is); (case l18 => k_is)
    (case c18 => k_is); (case k18 => k_is); (case n19 => k_is); (case l19 => k_is); (case c19 => k_is); (case k19 => k_is)
    (case n20 => k_is); (case l20 => k_is); (case c20 => k_is); (case k20 => k_is); (case q20 => k_is); (case h20 => first | rfl | decide +kernel)
    (case g20 => decide); (case o20 => first | rfl | decide +kernel); (case m20 => decide); (case n21 => k_is); (case l21 => k_is); (case c21 => k_is)
    (case k21 => k_is); (case n22 => k_is); (case l22 => k_is); (case c22 => k_is); (case k22 => k_is); (case n23 => k_is)
    (case l23 => k_is); (case c23 => k_is); (case k23 => k_is); (case n24 => k_is); (case l24 => k_is); (case c24 => k_is)
    (case k24 => k_is); (case n25 => k_is); (case l25 => k_is); (case c25 => k_is); (case k25 => k_is); (case n26 => k_is)
    (case l26 => k_is); (case c26 => k_is); (case k26 => k_is); (case nd_tabs => decide); (case hd_BoardError => k_is); (case xt_BoardError => k_is)
    (case hd_NoBytes => k_is); (case xt_NoBytes => k_is); (case hd_NoDeed => k_is); (case xt_NoDeed => k_is); (case hd_NoDrawing => k_is); (case xt_NoDrawing => k_is)
    (case hd_NoOrder => k_is); (case xt_NoOrder => k_is); (case hd_NoPart => k_is); (case xt_NoPart => k_is); (case hd_NoSize => k_is); (case xt_NoSize => k_is)
    (case hd_NoSpot => k_is); (case xt_NoSpot => k_is); (case hd_NoText => k_is); (case xt_NoText => k_is); (case hd_NoTie => k_is); (case xt_NoTie => k_is)
    (case hd_NoTurn => k_is); (case xt_NoTurn => k_is); (case hd_NoWay => k_is); (case xt_NoWay => k_is); (case hd_NoWeight => k_is); (case xt_NoWeight => k_is)
    (case hd_NoWord => k_is); (case xt_NoWord => k_is); (case hd_OffFloor => k_is); (case xt_OffFloor => k_is); (case hd_OnShut => k_is); (case xt_OnShut => k_is)
    (case hd_Overlap => k_is); (case xt_Overlap => k_is); (case hd_TooMany => k_is); (case xt_TooMany => k_is); (case hd_TooNear => k_is); (case xt_TooNear => k_is)
    (case xb_BoardError => k_is); (case xx_NoSpot => k_exc); (case xk_NoSpot => k_is); (case xb_NoSpot => k_is); (case xe_NoSpot => constructor <;> k_is); (case sb_NoSpot_BoardError => k_is)
    (case ne_NoSpot_NoBytes => decide); (case sb_NoSpot_NoBytes => k_is); (case ne_NoSpot_NoDeed => decide); (case sb_NoSpot_NoDeed => k_is); (case ne_NoSpot_NoDrawing => decide); (case sb_NoSpot_NoDrawing => k_is)
    (case ne_NoSpot_NoOrder => decide); (case sb_NoSpot_NoOrder => k_is); (case ne_NoSpot_NoPart => decide); (case sb_NoSpot_NoPart => k_is); (case ne_NoSpot_NoSize => decide); (case sb_NoSpot_NoSize => k_is)
    (case ne_NoSpot_NoText => decide); (case sb_NoSpot_NoText => k_is); (case ne_NoSpot_NoTie => decide); (case sb_NoSpot_NoTie => k_is); (case ne_NoSpot_NoTurn => decide); (case sb_NoSpot_NoTurn => k_is)
    (case ne_NoSpot_NoWay => decide); (case sb_NoSpot_NoWay => k_is); (case ne_NoSpot_NoWeight => decide); (case sb_NoSpot_NoWeight => k_is); (case ne_NoSpot_NoWord => decide); (case sb_NoSpot_NoWord => k_is)
    (case ne_NoSpot_OffFloor => decide); (case sb_NoSpot_OffFloor => k_is); (case ne_NoSpot_OnShut => decide); (case sb_NoSpot_OnShut => k_is); (case ne_NoSpot_Overlap => decide); (case sb_NoSpot_Overlap => k_is)
    (case ne_NoSpot_TooMany => decide); (case sb_NoSpot_TooMany => k_is); (case ne_NoSpot_TooNear => decide); (case sb_NoSpot_TooNear => k_is); (case sb_NoSpot_ValueError => k_is); (case xx_NoWeight => k_exc)
    (case xk_NoWeight => k_is); (case xb_NoWeight => k_is); (case xe_NoWeight => constructor <;> k_is); (case sb_NoWeight_BoardError => k_is); (case ne_NoWeight_NoBytes => decide); (case sb_NoWeight_NoBytes => k_is)
    (case ne_NoWeight_NoDeed => decide); (case sb_NoWeight_NoDeed => k_is); (case ne_NoWeight_NoDrawing => decide); (case sb_NoWeight_NoDrawing => k_is); (case ne_NoWeight_NoOrder => decide); (case sb_NoWeight_NoOrder => k_is)
    (case ne_NoWeight_NoPart => decide); (case sb_NoWeight_NoPart => k_is); (case ne_NoWeight_NoSize => decide); (case sb_NoWeight_NoSize => k_is); (case ne_NoWeight_NoSpot => decide); (case sb_NoWeight_NoSpot => k_is)
    (case ne_NoWeight_NoText => decide); (case sb_NoWeight_NoText => k_is); (case ne_NoWeight_NoTie => decide); (case sb_NoWeight_NoTie => k_is); (case ne_NoWeight_NoTurn => decide); (case sb_NoWeight_NoTurn => k_is)
    (case ne_NoWeight_NoWay => decide); (case sb_NoWeight_NoWay => k_is); (case ne_NoWeight_NoWord => decide); (case sb_NoWeight_NoWord => k_is); (case ne_NoWeight_OffFloor => decide); (case sb_NoWeight_OffFloor => k_is)
    (case ne_NoWeight_OnShut => decide); (case sb_NoWeight_OnShut => k_is); (case ne_NoWeight_Overlap => decide); (case sb_NoWeight_Overlap => k_is); (case ne_NoWeight_TooMany => decide); (case sb_NoWeight_TooMany => k_is)
    (case ne_NoWeight_TooNear => decide); (case sb_NoWeight_TooNear => k_is); (case sb_NoWeight_ValueError => k_is); (case z_ValueError => k_is); (case z_bool => k_is); (case z_dict => k_is)
    (case z_int => k_is); (case z_isinstance => k_is); (case z_len => k_is); (case z_list => k_is); (case z_max => k_is); (case z_min => k_is)
    (case z_range => k_is); (case z_sorted => k_is); (case z_sum => k_is); (case z_tuple => k_is); (case w_GREATEST => k_is)
