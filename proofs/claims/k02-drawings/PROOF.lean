import PyProof.Rows.All
import Wide.All
import OpenK.AllK
import Wide.FinOn
import HandS.ForMost
import HandS.ForExc
import HandS.Walk
import HandS.Lambda
import HandS.ExcOwn
import HandS.CallSlots
import HandS.TupAny
import HandS.TupMul
import HandS.IsInst
import HandS.Deep
import HandS.WordsDict
import HandS.Text
import HandS.ExcIs
import KE.KExcIs
import HandS.Defaults
import HandS.Zip
import HandS.Conv
import HandS.TupLen
import HandS.DictTup
import HandS.Small
import PyProof.Rows.BitMore
import KE.KDictCopyH
import KE.KDictKeyed
import KE.KDictPairs
import PyProof.DictMoreH
import KE.SortData
import HandS.SortInts
import KE.GoesEnum
import KE.DataFind
import HandS.Style
import HandS.ListItems
import HandS.TupSets
import HandS.SetKeys
import HandS.TryOnly
import HandS.NestedK
import HandS.EndTab
import KE.KEqDict
import HandS.DictEq
import HandS.SortKw
import KE.DataMinMax
import HandS.SetTxt0
import HandS.SuiteRaise
import HandS.Iter
import HandS.More
import PyProof.StrOps2
import HandS.Flt
import HandS.ExcInit
import HandS.ClsMeth
import HandS.ExcField
import HandS.Comp
import HandS.FStr
import HandS.RaiseMore
import PySem.Challenge.RW_boardlay_k02_drawings
set_option Elab.async false
set_option linter.all false
set_option maxRecDepth 100000
set_option maxHeartbeats 4000000
/-! The data layer: contracts over plain data instead of heaps. -/
namespace DL
open PySem L2
/-- an exception: its class, its fields (of a class with an own __init__) -/
structure Exn where
  c : Addr
  fs : Option (List (Str × PyData))
/-- a value that stays what it is, whatever comes behind -/
structure Per where
  φ : PySem.W.Frag → Hp → V → Prop
  mono : ∀ {K : PySem.W.Frag} {F F' : Hp} {v : V}, Same F F' → φ K F v → φ K F' v
/-- what a node of a tree is -/
inductive Knd where
  | lst
  | tup
  | dck (ks : List Key)
  | dct (ks : List (List Key))
  | ins (C : Addr) (fs : List Str)
  | gho
/-- what a cell owns, its parts told by their addresses -/
inductive Tree where
  | dat (d : PyData)
  | per (c : Per)
  | nod (k : Knd) (b : Addr) (ts : List Tree)
/-- a value as the contracts see it: data, a cell of the store, a list that nobody else has, any other -/
inductive EV where
  | dat (d : PyData)
  | loc (n : Nat)
  | new (xs : List PyData)
  | raw (v : V)
  | exc (x : Exn)
  | ro (xs : List PyData)
  | newd (kvs : List (List Key × PyData))
  | newk (kvs : List (Key × PyData))
  | at (n : Nat) (p : List Nat) (b : Addr)
  | newo (t : Tree)
  | per (c : Per)
/-- a cell: a list that may change, one that may not any more, a dict -/
inductive Cell where
  | lst (xs : List PyData)
  | frz (xs : List PyData)
  | dct (kvs : List (List Key × PyData))
  | dck (kvs : List (Key × PyData))
  | abs (P : List PyData → Prop)
  | tab (P : Addr) (nm : Str)
  | own (t : Tree)
  | dead
abbrev Mu := List Cell
abbrev DEnv := List (Option EV)
/-- dicts' keys: ints and texts, or tuples of such -/
def keyD : Key → PyData
  | .inl i => .int i
  | .inr x => .str x
/-- a key's text can be laid -/
def keyOk : Key → Prop
  | .inl _ => True
  | .inr x => PyData.strOk x = true
/-- the keys are alike -/
def sameT (ks : List (List Key × V)) (kvs : List (List Key × PyData)) : Prop := ks.map (·.1) = kvs.map (·.1) ∧ ∀ p ∈ kvs, ∀ k ∈ p.1, keyOk k
def sameK (ks : List (Key × V)) (kvs : List (Key × PyData)) : Prop := ks.map (·.1) = kvs.map (·.1) ∧ ∀ p ∈ kvs, keyOk p.1
/-- .. as data -/
def kvT (kvs : List (List Key × PyData)) : List (PyData × PyData) := kvs.map fun p => (.tuple (p.1.map keyD), p.2)
def kvK (kvs : List (Key × PyData)) : List (PyData × PyData) := kvs.map fun p => (keyD p.1, p.2)
mutual
/-- a value that is data, in the still part F of the heap -/
inductive DR (K : PySem.W.Frag) (F : Hp) : V → PyData → Prop
  | non : DR K F .non .none
  | bl (b : Bool) : DR K F (.bl b) (.bool b)
  | int (i : Int) : DR K F (.int i) (.int i)
  | str (x : Str) : PyData.strOk x = true → DR K F (.str x) (.str x)
  | lst {a : Addr} {vs : List V} {ds : List PyData} : F a = some (.lst vs) → DRs K F vs ds → DR K F (.ref a) (.list ds)
  | tup {a : Addr} {vs : List V} {ds : List PyData} : F a = some (.tup vs) → DRs K F vs ds → DR K F (.ref a) (.tuple ds)
  | dcT {a : Addr} {od : Obj} {ks : List (List Key × V)} {kvs : List (List Key × PyData)} {d : List (PyData × PyData)} : F a = some (.frz od (.dT ks)) → sameT ks kvs → DRs K F (ks.map (·.2)) (kvs.map (·.2)) → d = kvT kvs → DR K F (.ref a) (.dict d)
  | dcK {a : Addr} {od : Obj} {ks : List (Key × V)} {kvs : List (Key × PyData)} {d : List (PyData × PyData)} : F a = some (.frz od (.dK ks)) → sameK ks kvs → DRs K F (ks.map (·.2)) (kvs.map (·.2)) → d = kvK kvs → kvs ≠ [] → DR K F (.ref a) (.dict d)
inductive DRs (K : PySem.W.Frag) (F : Hp) : List V → List PyData → Prop
  | nil : DRs K F [] []
  | cons {v : V} {vs : List V} {d : PyData} {ds : List PyData} : DR K F v d → DRs K F vs ds → DRs K F (v :: vs) (d :: ds)
end
mutual
theorem DR.mono {K : PySem.W.Frag} {F F' : Hp} (e : Same F F') : ∀ {v : V} {d : PyData}, DR K F v d → DR K F' v d
  | _, _, .non => .non
  | _, _, .bl b => .bl b
  | _, _, .int i => .int i
  | _, _, .str x h => .str x h
  | _, _, .lst h hs => .lst (e _ _ h) (DRs.mono e hs)
  | _, _, .tup h hs => .tup (e _ _ h) (DRs.mono e hs)
  | _, _, .dcT h k hs e' => .dcT (e _ _ h) k (DRs.mono e hs) e'
  | _, _, .dcK h k hs e' n' => .dcK (e _ _ h) k (DRs.mono e hs) e' n'
theorem DRs.mono {K : PySem.W.Frag} {F F' : Hp} (e : Same F F') : ∀ {vs : List V} {ds : List PyData}, DRs K F vs ds → DRs K F' vs ds
  | _, _, .nil => .nil
  | _, _, .cons h hs => .cons (DR.mono e h) (DRs.mono e hs)
end
mutual
/-- no dict in it -/
def noD : PyData → Bool
  | .dict _ => false
  | .list xs => noDs xs
  | .tuple xs => noDs xs
  | .none => true
  | .bool _ => true
  | .int _ => true
  | .str _ => true
def noDs : List PyData → Bool
  | [] => true
  | x :: xs => noD x && noDs xs
end
mutual
theorem DR.dp {K : PySem.W.Frag} {F : Hp} : ∀ {v : V} {d : PyData}, DR K F v d → noD d = true → Dp K F v d
  | _, _, .non, _ => .non
  | _, _, .bl b, _ => .bl b
  | _, _, .int i, _ => .int i
  | _, _, .str x _, _ => .str x
  | _, _, .lst h hs, n => .lst (SqL.of h) (DRs.dp hs (by simpa [noD] using n))
  | _, _, .tup h hs, n => .tup (SqT.of h) (DRs.dp hs (by simpa [noD] using n))
  | _, _, .dcT _ _ _ _, n => by simp [noD] at n
  | _, _, .dcK _ _ _ _ _, n => by simp [noD] at n
theorem DRs.dp {K : PySem.W.Frag} {F : Hp} : ∀ {vs : List V} {ds : List PyData}, DRs K F vs ds → noDs ds = true → DpAll K F vs ds
  | _, _, .nil, _ => .nil
  | _, _, .cons h hs, n => .cons (DR.dp h (by simp [noDs] at n; exact n.1)) (DRs.dp hs (by simp [noDs] at n; exact n.2))
end
mutual
theorem DR.lay {K : PySem.W.Frag} {F : Hp} : ∀ {v : V} {d : PyData}, DR K F v d → noD d = true → d.canLay0 = true
  | _, _, .non, _ => by simp [PyData.canLay0]
  | _, _, .bl b, _ => by simp [PyData.canLay0]
  | _, _, .int i, _ => by simp [PyData.canLay0]
  | _, _, .str x h, _ => by simpa [PyData.canLay0] using h
  | _, _, .lst h hs, n => by simpa [PyData.canLay0] using DRs.lay hs (by simpa [noD] using n)
  | _, _, .tup h hs, n => by simpa [PyData.canLay0] using DRs.lay hs (by simpa [noD] using n)
  | _, _, .dcT _ _ _ _, n => by simp [noD] at n
  | _, _, .dcK _ _ _ _ _, n => by simp [noD] at n
theorem DRs.lay {K : PySem.W.Frag} {F : Hp} : ∀ {vs : List V} {ds : List PyData}, DRs K F vs ds → noDs ds = true → PyData.canLayAll0 ds = true
  | _, _, .nil, _ => by simp [PyData.canLayAll0]
  | _, _, .cons h hs, n => by
    simp [noDs] at n
    simp [PyData.canLayAll0, DR.lay h n.1, DRs.lay hs n.2]
end
theorem DRs.length {K : PySem.W.Frag} {F : Hp} : ∀ {vs : List V} {ds : List PyData}, DRs K F vs ds → vs.length = ds.length
  | _, _, .nil => rfl
  | _, _, .cons _ hs => by rw [List.length_cons, List.length_cons, DRs.length hs]
theorem DRs.append {K : PySem.W.Frag} {F : Hp} : ∀ {vs ws : List V} {ds es : List PyData}, DRs K F vs ds → DRs K F ws es → DRs K F (vs ++ ws) (ds ++ es)
  | _, _, _, _, .nil, s => s
  | _, _, _, _, .cons h hs, s => .cons h (DRs.append hs s)
theorem DRs.get {K : PySem.W.Frag} {F : Hp} : ∀ {vs : List V} {ds : List PyData} {i : Nat} {d : PyData}, DRs K F vs ds → ds[i]? = some d → ∃ v, vs[i]? = some v ∧ DR K F v d
  | _, _, _, _, .nil, e => by simp at e
  | _, _, 0, _, .cons h _, e => by simp at e; subst e; exact ⟨_, rfl, h⟩
  | _, _, i + 1, d, .cons _ hs, e => by
    obtain ⟨v, h1, h2⟩ := DRs.get (i := i) (d := d) hs (by simpa using e)
    exact ⟨v, by simpa using h1, h2⟩
theorem DRs.getV {K : PySem.W.Frag} {F : Hp} : ∀ {vs : List V} {ds : List PyData} {i : Nat} {v : V}, DRs K F vs ds → vs[i]? = some v → ∃ d, ds[i]? = some d ∧ DR K F v d
  | _, _, _, _, .nil, e => by simp at e
  | _, _, 0, _, .cons h _, e => by simp at e; subst e; exact ⟨_, rfl, h⟩
  | _, _, i + 1, v, .cons _ hs, e => by
    obtain ⟨d, h1, h2⟩ := DRs.getV (i := i) (v := v) hs (by simpa using e)
    exact ⟨d, by simpa using h1, h2⟩
theorem DRs.set {K : PySem.W.Frag} {F : Hp} {v : V} {d : PyData} (r : DR K F v d) : ∀ {vs : List V} {ds : List PyData} (i : Nat), DRs K F vs ds → DRs K F (vs.set i v) (ds.set i d)
  | _, _, _, .nil => .nil
  | _, _, 0, .cons _ hs => .cons r hs
  | _, _, i + 1, .cons h hs => .cons h (DRs.set r i hs)
theorem DRs.take {K : PySem.W.Frag} {F : Hp} : ∀ {vs : List V} {ds : List PyData} (i : Nat), DRs K F vs ds → DRs K F (vs.take i) (ds.take i)
  | _, _, 0, _ => .nil
  | _, _, _ + 1, .nil => .nil
  | _, _, i + 1, .cons h hs => .cons h (DRs.take i hs)
theorem DRs.drop {K : PySem.W.Frag} {F : Hp} : ∀ {vs : List V} {ds : List PyData} (i : Nat), DRs K F vs ds → DRs K F (vs.drop i) (ds.drop i)
  | _, _, 0, h => h
  | _, _, _ + 1, .nil => .nil
  | _, _, i + 1, .cons _ hs => DRs.drop i hs
/-! trees -/
mutual
/-- the addresses of a tree's own parts -/
def addrs : Tree → List Addr
  | .dat _ => []
  | .per _ => []
  | .nod _ b ts => b :: addrsL ts
def addrsL : List Tree → List Addr
  | [] => []
  | t :: ts => addrs t ++ addrsL ts
end
theorem addrs_dat {d : PyData} : addrs (.dat d) = [] := by rw [addrs]
theorem addrs_per {d : Per} : addrs (.per d) = [] := by rw [addrs]
theorem addrs_nod {k : Knd} {b : Addr} {ts : List Tree} : addrs (.nod k b ts) = b :: addrsL ts := by rw [addrs]
theorem addrsL_nil : addrsL [] = [] := by rw [addrsL]
theorem addrsL_cons {t : Tree} {ts : List Tree} : addrsL (t :: ts) = addrs t ++ addrsL ts := by rw [addrsL]
/-- what stands at a node's address -/
def HeapIs (H : Hp) (b : Addr) : Knd → List V → Prop
  | .lst, vs => H b = some (.lst vs)
  | .tup, vs => H b = some (.tup vs)
  | .dck ks, vs => H b = some (.dK (ks.zip vs)) ∧ ks.length = vs.length ∧ ks.Nodup ∧ ∀ k ∈ ks, keyOk k
  | .dct ks, vs => H b = some (.dT (ks.zip vs)) ∧ ks.length = vs.length ∧ ks.Nodup ∧ ∀ k ∈ ks, ∀ x ∈ k, keyOk x
  | .ins C fs, vs => ∃ dx, H b = some (.ins C dx (fs.zip vs)) ∧ fs.length = vs.length
  | .gho, _ => ∃ o, H b = some o ∧ ∀ ws, o ≠ .tup ws
theorem HeapIs.congr {H H' : Hp} {b : Addr} {k : Knd} {vs : List V} (h : HeapIs H b k vs) (e : H' b = H b) : HeapIs H' b k vs := by
  cases k with
  | lst => exact e.trans h
  | tup => exact e.trans h
  | dck ks => exact ⟨e.trans h.1, h.2⟩
  | dct ks => exact ⟨e.trans h.1, h.2⟩
  | ins C fs => obtain ⟨dx, h1, h2⟩ := h; exact ⟨dx, e.trans h1, h2⟩
  | gho => obtain ⟨o, h1, h2⟩ := h; exact ⟨o, e.trans h1, h2⟩
theorem HeapIs.here {H : Hp} {b : Addr} {k : Knd} {vs : List V} (h : HeapIs H b k vs) : H b ≠ none := by
  cases k with
  | lst => intro z; rw [show H b = some (.lst vs) from h] at z; cases z
  | tup => intro z; rw [show H b = some (.tup vs) from h] at z; cases z
  | dck ks => intro z; rw [h.1] at z; cases z
  | dct ks => intro z; rw [h.1] at z; cases z
  | ins C fs => obtain ⟨dx, h1, h2⟩ := h; intro z; rw [h1] at z; cases z
  | gho => obtain ⟨o, h1, h2⟩ := h; intro z; rw [h1] at z; cases z
def isTupK : Knd → Prop
  | .tup => True
  | _ => False
mutual
/-- a value that is the root of a tree -/
inductive TreeR (K : PySem.W.Frag) (F H : Hp) : V → Tree → Prop
  | dat {v : V} {d : PyData} : DR K F v d → TreeR K F H v (.dat d)
  | per {v : V} {c : Per} : c.φ K F v → TreeR K F H v (.per c)
  | nod {k : Knd} {b : Addr} {vs : List V} {ts : List Tree} : HeapIs H b k vs → (isTupK k ∨ F b = none) → TreesR K F H vs ts → TreeR K F H (.ref b) (.nod k b ts)
inductive TreesR (K : PySem.W.Frag) (F H : Hp) : List V → List Tree → Prop
  | nil : TreesR K F H [] []
  | cons {v : V} {vs : List V} {t : Tree} {ts : List Tree} : TreeR K F H v t → TreesR K F H vs ts → TreesR K F H (v :: vs) (t :: ts)
end
/-- F grows, nothing at the tree's own addresses changes -/
def Keeps (F H F' H' : Hp) (a : Addr) : Prop := H' a = H a ∧ (F a = none → (∀ vs, H a ≠ some (.tup vs)) → F' a = none)
mutual
theorem TreeR.keeps {K : PySem.W.Frag} {F H F' H' : Hp} (e : Same F F') : ∀ {v : V} {t : Tree}, TreeR K F H v t → (∀ a ∈ addrs t, Keeps F H F' H' a) → TreeR K F' H' v t
  | _, _, .dat h, _ => .dat (h.mono e)
  | _, _, .per (c := c) h, _ => .per (c.mono e h)
  | _, _, .nod (k := k) (b := b) (vs := vs) (ts := ts) h n hs, q => by
    have q0 := q b (by rw [addrs_nod]; exact List.mem_cons_self)
    refine .nod (h.congr q0.1) ?_ (TreesR.keeps e hs fun a ha => q a (by rw [addrs_nod]; exact List.mem_cons_of_mem _ ha))
    rcases n with n | n
    · exact .inl n
    · cases k with
      | tup => exact .inl trivial
      | lst => exact .inr (q0.2 n fun ws z => by rw [show H b = some (.lst vs) from h] at z; cases z)
      | dck ks => exact .inr (q0.2 n fun ws z => by rw [h.1] at z; cases z)
      | dct ks => exact .inr (q0.2 n fun ws z => by rw [h.1] at z; cases z)
      | ins C fs => exact .inr (q0.2 n fun ws z => by obtain ⟨dx, h1, h2⟩ := h; rw [h1] at z; cases z)
      | gho => exact .inr (q0.2 n fun ws z => by obtain ⟨o, h1, h2⟩ := h; rw [h1] at z; cases z; exact h2 _ rfl)
theorem TreesR.keeps {K : PySem.W.Frag} {F H F' H' : Hp} (e : Same F F') : ∀ {vs : List V} {ts : List Tree}, TreesR K F H vs ts → (∀ a ∈ addrsL ts, Keeps F H F' H' a) → TreesR K F' H' vs ts
  | _, _, .nil, _ => .nil
  | _, _, .cons h hs, q => .cons (TreeR.keeps e h fun a ha => q a (by rw [addrsL_cons]; exact List.mem_append_left _ ha)) (TreesR.keeps e hs fun a ha => q a (by rw [addrsL_cons]; exact List.mem_append_right _ ha))
end
mutual
theorem TreeR.live {K : PySem.W.Frag} {F H : Hp} : ∀ {v : V} {t : Tree}, TreeR K F H v t → ∀ a ∈ addrs t, H a ≠ none
  | _, _, .dat _, a, ha => by rw [addrs_dat] at ha; cases ha
  | _, _, .per _, a, ha => by rw [addrs_per] at ha; cases ha
  | _, _, .nod h _ hs, a, ha => by
    rw [addrs_nod] at ha
    rcases List.mem_cons.mp ha with rfl | ha
    · exact h.here
    · exact TreesR.live hs a ha
theorem TreesR.live {K : PySem.W.Frag} {F H : Hp} : ∀ {vs : List V} {ts : List Tree}, TreesR K F H vs ts → ∀ a ∈ addrsL ts, H a ≠ none
  | _, _, .nil, a, ha => by rw [addrsL_nil] at ha; cases ha
  | _, _, .cons h hs, a, ha => by
    rw [addrsL_cons] at ha
    rcases List.mem_append.mp ha with ha | ha
    · exact TreeR.live h a ha
    · exact TreesR.live hs a ha
end
/-- a world: the tracked heap, its still part, where the cells lie, what each owns -/
structure Wd where
  H : Hp
  F : Hp
  L : Nat → Addr
  O : Nat → Addr → Prop
/-- the addresses that a cell of the first N owns -/
abbrev NL (s : Wd) (N : Nat) (a : Addr) : Prop := ∀ m, m < N → ¬ s.O m a
/-- a table of code objects at P, each of the name nm -/
structure TabAt (F H : Hp) (a : Addr) (nm : Str) : Prop where
  nf : F a = none
  ex : ∃ ps : Array Value, H a = some (.tbl ps) ∧ TriplesOk ps.toList ∧ ∀ (pos : Pos) (cv : Value), codeAmong pos ps.toList = some cv → ∃ c, cv = .ref c ∧ F c = some (LamX.CodeO c nm)
theorem TabAt.to {F H F' H' : Hp} {a : Addr} {nm : Str} (h : TabAt F H a nm) (e : Same F F') (hf : F' a = none) (hh : ∀ ps, H a = some (.tbl ps) → H' a = some (.tbl ps)) : TabAt F' H' a nm := by
  obtain ⟨_, ps, h1, h2, h3⟩ := h
  refine ⟨hf, ps, hh _ h1, h2, fun pos cv hc => ?_⟩
  obtain ⟨c, e1, e2⟩ := h3 pos cv hc
  exact ⟨c, e1, e _ _ e2⟩
def CellAt (K : PySem.W.Frag) (s : Wd) (a : Addr) : Cell → Prop
  | .lst xs => s.F a = none ∧ ∃ vs, s.H a = some (.lst vs) ∧ DRs K s.F vs xs
  | .frz xs => ∃ vs, s.F a = some (.lst vs) ∧ DRs K s.F vs xs
  | .dct kvs => s.F a = none ∧ ∃ ks : List (List Key × V), s.H a = some (.dT ks) ∧ sameT ks kvs ∧ DRs K s.F (ks.map (·.2)) (kvs.map (·.2))
  | .dck kvs => s.F a = none ∧ ∃ ks : List (Key × V), s.H a = some (.dK ks) ∧ sameK ks kvs ∧ DRs K s.F (ks.map (·.2)) (kvs.map (·.2))
  | .abs P => ∃ xs, P xs ∧ s.F a = none ∧ ∃ vs, s.H a = some (.lst vs) ∧ DRs K s.F vs xs
  | .tab P nm => a = P ∧ TabAt s.F s.H a nm
  | .own _ => s.H a ≠ none
  | .dead => s.H a ≠ none
/-- the tree that cell n owns -/
structure OwnAt (K : PySem.W.Frag) (s : Wd) (n : Nat) (t : Tree) : Prop where
  is : TreeR K s.F s.H (.ref (s.L n)) t
  nd : (addrs t).Nodup
  own : ∀ a ∈ addrs t, s.O n a
structure Rep (K : PySem.W.Frag) (s : Wd) (μ : Mu) : Prop where
  sub : Same s.F s.H
  cell : ∀ n c, μ[n]? = some c → CellAt K s (s.L n) c
  dis : ∀ m n a, m < μ.length → n < μ.length → s.O m a → s.O n a → m = n
  root : ∀ n, n < μ.length → s.O n (s.L n)
  live : ∀ n a, n < μ.length → s.O n a → s.H a ≠ none
  tree : ∀ n t, μ[n]? = some (.own t) → OwnAt K s n t
theorem Rep.inj {K : PySem.W.Frag} {s : Wd} {μ : Mu} (R : Rep K s μ) (m n : Nat) (hm : m < μ.length) (hn : n < μ.length) (e : s.L m = s.L n) : m = n :=
  R.dis m n (s.L m) hm hn (R.root m hm) (by rw [e]; exact R.root n hn)
theorem Rep.rootNe {K : PySem.W.Frag} {s : Wd} {μ : Mu} (R : Rep K s μ) {p : Addr} (h : NL s μ.length p) : ∀ m, m < μ.length → s.L m ≠ p := fun m hm e => h m hm (e ▸ R.root m hm)
theorem CellAt.here {K : PySem.W.Frag} {s : Wd} {a : Addr} {c : Cell} (h : CellAt K s a c) (sub : Same s.F s.H) : s.H a ≠ none := by
  cases c with
  | lst xs => obtain ⟨_, vs, e, _⟩ := h; rw [e]; simp
  | frz xs => obtain ⟨vs, e, _⟩ := h; rw [sub _ _ e]; simp
  | dct kvs =>
    obtain ⟨_, ks, e, _⟩ := h
    rw [e]; simp
  | dck kvs =>
    obtain ⟨_, ks, e, _⟩ := h
    rw [e]; simp
  | abs P => obtain ⟨xs, _, _, vs, e, _⟩ := h; rw [e]; simp
  | tab P nm => obtain ⟨_, _, ps, e, _⟩ := h; rw [e]; simp
  | own t => exact h
  | dead => exact h
theorem Rep.here {K : PySem.W.Frag} {s : Wd} {μ : Mu} (R : Rep K s μ) {n : Nat} (h : n < μ.length) : s.H (s.L n) ≠ none := R.live n _ h (R.root n h)
/-- from s with N cells to s' with N' -/
structure Ext (s : Wd) (N : Nat) (s' : Wd) (N' : Nat) : Prop where
  f : Same s.F s'.F
  l : ∀ n, n < N → s'.L n = s.L n
  le : N ≤ N'
  keep : ∀ a o, s.H a = some o → NL s N a → s'.H a = some o
  fnew : ∀ a, s.F a = none → NL s N a → s.H a ≠ none → (∀ vs, s.H a ≠ some (.tup vs)) → s'.F a = none
  lnew : ∀ n, N ≤ n → n < N' → s.H (s'.L n) = none
  onew : ∀ n a, n < N' → s'.O n a → s.H a = none ∨ (n < N ∧ s.O n a)
  alive : ∀ a, s.H a ≠ none → s'.H a ≠ none
theorem Ext.refl (s : Wd) (N : Nat) : Ext s N s N := ⟨fun _ _ h => h, fun _ _ => rfl, Nat.le_refl _, fun _ _ h _ => h, fun _ h _ _ _ => h, fun n h1 h2 => absurd h1 (Nat.not_le_of_lt h2), fun n a h1 h2 => .inr ⟨h1, h2⟩, fun _ h => h⟩
theorem Ext.out {s s1 : Wd} {N N1 : Nat} (a : Ext s N s1 N1) {c : Addr} (hc : s.H c ≠ none) (hn : NL s N c) : NL s1 N1 c := fun n hn1 e => by
  rcases a.onew n c hn1 e with h | ⟨h1, h2⟩
  · exact hc h
  · exact hn n h1 h2
theorem Ext.trans {s s1 s2 : Wd} {N N1 N2 : Nat} (a : Ext s N s1 N1) (b : Ext s1 N1 s2 N2) (_h1 : ∀ n, n < N1 → s1.H (s1.L n) ≠ none) : Ext s N s2 N2 := by
  refine ⟨fun x o h => b.f x o (a.f x o h), fun n h => (b.l n (Nat.lt_of_lt_of_le h a.le)).trans (a.l n h), Nat.le_trans a.le b.le, fun x o h hn => b.keep x o (a.keep x o h hn) (a.out (by rw [h]; simp) hn), fun x hf hn hx ht => ?_, fun n hn hn2 => ?_, fun n x hn hx => ?_, fun x h => b.alive x (a.alive x h)⟩
  · have kx : ∀ o, s.H x = some o → s1.H x = some o := fun o q => a.keep x o q hn
    refine b.fnew x (a.fnew x hf hn hx ht) (a.out hx hn) ?_ ?_
    · exact a.alive x hx
    · cases q : s.H x with
      | none => exact absurd q hx
      | some o =>
        intro vs z
        rw [kx o q] at z
        exact ht vs (by rw [q]; exact z)
  · by_cases h : n < N1
    · rw [b.l n h]
      exact a.lnew n hn h
    · have q := b.lnew n (Nat.le_of_not_lt h) hn2
      cases e : s.H (s2.L n) with
      | none => rfl
      | some o => exact absurd q (a.alive _ (by rw [e]; simp))
  · rcases b.onew n x hn hx with h | ⟨h1, h2⟩
    · left
      cases e : s.H x with
      | none => rfl
      | some o => exact absurd h (a.alive _ (by rw [e]; simp))
    · exact a.onew n x h1 h2
/-- an exception's object -/
def excO (a : Addr) (cls : Value) (d : Option Addr) : HO := .ext fun h => ∃ (oe : Obj) (vs : Array Value), h.get? a = some oe ∧ Zc cls d oe ∧ oe.data = .fields vs
def excAt (K : PySem.W.Frag) (s : Wd) (v : V) (x : Exn) : Prop := ∃ a d, v = .ref a ∧ s.F a = some (excO a (.ref x.c) d) ∧ (x.fs = none → d = none) ∧ ∀ fs, x.fs = some fs → ∃ dd vs, d = some dd ∧ s.F dd = some (.xd vs) ∧ vs.map (·.1) = fs.map (·.1) ∧ DRs K s.F (vs.map (·.2)) (fs.map (·.2))
/-- a value as it is seen in a world with N cells -/
def VR (K : PySem.W.Frag) (s : Wd) (N : Nat) (v : V) : EV → Prop
  | .dat d => DR K s.F v d
  | .loc n => n < N ∧ v = .ref (s.L n)
  | .new xs => ∃ p vs, v = .ref p ∧ s.H p = some (.lst vs) ∧ s.F p = none ∧ NL s N p ∧ DRs K s.F vs xs
  | .raw u => v = u
  | .exc x => excAt K s v x
  | .ro xs => ∃ a vs, v = .ref a ∧ SqL K s.F a vs ∧ DRs K s.F vs xs
  | .newd kvs => ∃ p ks, v = .ref p ∧ s.H p = some (.dT ks) ∧ s.F p = none ∧ NL s N p ∧ sameT ks kvs ∧ DRs K s.F (ks.map (·.2)) (kvs.map (·.2))
  | .newk kvs => ∃ p ks, v = .ref p ∧ s.H p = some (.dK ks) ∧ s.F p = none ∧ NL s N p ∧ sameK ks kvs ∧ DRs K s.F (ks.map (·.2)) (kvs.map (·.2))
  | .at _ _ b => v = .ref b
  | .newo t => (∃ p, v = .ref p ∧ p ∈ addrs t) ∧ TreeR K s.F s.H v t ∧ (addrs t).Nodup ∧ ∀ a ∈ addrs t, NL s N a
  | .per c => c.φ K s.F v
theorem VR.ext {K : PySem.W.Frag} {s s' : Wd} {N N' : Nat} {v : V} {e : EV} (h : VR K s N v e) (x : Ext s N s' N') : VR K s' N' v e := by
  cases e with
  | dat d => exact DR.mono x.f h
  | loc n => exact ⟨Nat.lt_of_lt_of_le h.1 x.le, by rw [x.l n h.1]; exact h.2⟩
  | new xs =>
    obtain ⟨p, vs, e1, e2, e3, e4, e5⟩ := h
    exact ⟨p, vs, e1, x.keep p _ e2 e4, x.fnew p e3 e4 (by rw [e2]; simp) (by intro vs z; rw [e2] at z; cases z), x.out (by rw [e2]; simp) e4, e5.mono x.f⟩
  | raw u => exact h
  | exc y =>
    obtain ⟨a, d, e1, e2, e3, e4⟩ := h
    refine ⟨a, d, e1, x.f _ _ e2, e3, fun fs hf => ?_⟩
    obtain ⟨dd, vs, h1, h2, h3, h4⟩ := e4 fs hf
    exact ⟨dd, vs, h1, x.f _ _ h2, h3, h4.mono x.f⟩
  | ro xs =>
    obtain ⟨a, vs, e1, e2, e3⟩ := h
    exact ⟨a, vs, e1, x.f.seq e2, e3.mono x.f⟩
  | newd kvs =>
    obtain ⟨p, ks, e1, e2, e3, e4, e5, e6⟩ := h
    exact ⟨p, ks, e1, x.keep p _ e2 e4, x.fnew p e3 e4 (by rw [e2]; simp) (by intro vs z; rw [e2] at z; cases z), x.out (by rw [e2]; simp) e4, e5, e6.mono x.f⟩
  | newk kvs =>
    obtain ⟨p, ks, e1, e2, e3, e4, e5, e6⟩ := h
    exact ⟨p, ks, e1, x.keep p _ e2 e4, x.fnew p e3 e4 (by rw [e2]; simp) (by intro vs z; rw [e2] at z; cases z), x.out (by rw [e2]; simp) e4, e5, e6.mono x.f⟩
  | «at» n p b => exact h
  | newo t =>
    obtain ⟨e1, e2, e3, e4⟩ := h
    refine ⟨e1, e2.keeps x.f fun a ha => ⟨?_, fun hf ht => x.fnew a hf (e4 a ha) (e2.live a ha) ht⟩, e3, fun a ha => x.out (e2.live a ha) (e4 a ha)⟩
    cases q : s.H a with
    | none => exact absurd q (e2.live a ha)
    | some o => exact x.keep a o q (e4 a ha)
  | per c => exact c.mono x.f h
/-- a list that nobody else has was not there ahead -/
def Frsh (H : Hp) (v : V) : EV → Prop
  | .new _ => ∀ p, v = .ref p → H p = none
  | .newd _ => ∀ p, v = .ref p → H p = none
  | .newk _ => ∀ p, v = .ref p → H p = none
  | .newo t => ∀ a ∈ addrs t, H a = none
  | _ => True
theorem Ext.wasNone {s s1 : Wd} {N N1 : Nat} (x : Ext s N s1 N1) {p : Addr} (h : s1.H p = none) : s.H p = none := by
  cases e : s.H p with
  | none => rfl
  | some o => exact absurd h (x.alive p (by rw [e]; simp))
theorem Frsh.back {s s1 : Wd} {N N1 : Nat} {v : V} {e : EV} {K : PySem.W.Frag} (x : Ext s N s1 N1) (h : Frsh s1.H v e) (_r : ∀ n, n < N1 → s1.H (s1.L n) ≠ none) : Frsh s.H v e := by
  cases e with
  | new xs => exact fun p hp => x.wasNone (h p hp)
  | newd xs => exact fun p hp => x.wasNone (h p hp)
  | newk xs => exact fun p hp => x.wasNone (h p hp)
  | newo t => exact fun a ha => x.wasNone (h a ha)
  | _ => trivial
/-- the slots -/
structure ER (K : PySem.W.Frag) (s : Wd) (N : Nat) (σ : L2.St) (η : DEnv) : Prop where
  len : σ.length = η.length
  get : ∀ (i : Nat) (e : EV), η[i]? = some (some e) → ∃ v, σ[i]? = some (some v) ∧ VR K s N v e
theorem ER.ext {K : PySem.W.Frag} {s s' : Wd} {N N' : Nat} {σ : L2.St} {η : DEnv} (h : ER K s N σ η) (x : Ext s N s' N') : ER K s' N' σ η :=
  ⟨h.len, fun i e q => let ⟨v, h1, h2⟩ := h.get i e q; ⟨v, h1, h2.ext x⟩⟩
theorem ER.set {K : PySem.W.Frag} {s : Wd} {N : Nat} {σ : L2.St} {η : DEnv} (h : ER K s N σ η) (i : Nat) {v : V} {e : EV} (r : VR K s N v e) : ER K s N (σ.set i (some v)) (η.set i (some e)) := by
  refine ⟨by simp [h.len], fun j e' q => ?_⟩
  by_cases hj : i = j
  · subst hj
    by_cases hl : i < η.length
    · rw [List.getElem?_set_self hl] at q
      cases q
      exact ⟨v, List.getElem?_set_self (by rw [h.len]; exact hl), r⟩
    · rw [List.getElem?_eq_none (by simpa using hl)] at q
      cases q
  · rw [List.getElem?_set_ne hj] at q
    obtain ⟨w, h1, h2⟩ := h.get j e' q
    exact ⟨w, by rw [List.getElem?_set_ne hj]; exact h1, h2⟩
theorem ER.wipe1 {K : PySem.W.Frag} {s : Wd} {N : Nat} {σ : L2.St} {η : DEnv} (h : ER K s N σ η) (i : Nat) : ER K s N (σ.set i none) (η.set i none) := by
  refine ⟨by simp [h.len], fun j e' q => ?_⟩
  by_cases hj : i = j
  · subst hj
    by_cases hl : i < η.length
    · rw [List.getElem?_set_self hl] at q
      cases q
    · rw [List.getElem?_eq_none (by simpa using hl)] at q
      cases q
  · rw [List.getElem?_set_ne hj] at q
    obtain ⟨w, h1, h2⟩ := h.get j e' q
    exact ⟨w, by rw [List.getElem?_set_ne hj]; exact h1, h2⟩
def wipeD (η : DEnv) : List Nat → DEnv
  | [] => η
  | v :: vs => (wipeD η vs).set v none
theorem ER.wipe {K : PySem.W.Frag} {s : Wd} {N : Nat} {σ : L2.St} {η : DEnv} (h : ER K s N σ η) : ∀ vs : List Nat, ER K s N (L2.wipe σ vs) (wipeD η vs)
  | [] => h
  | v :: vs => by
    unfold L2.wipe wipeD
    exact (ER.wipe h vs).wipe1 v
/-- fewer slots are known -/
theorem ER.sub {K : PySem.W.Frag} {s : Wd} {N : Nat} {σ : L2.St} {η η' : DEnv} (h : ER K s N σ η) (hl : η'.length = η.length) (hs : ∀ (i : Nat) (e : EV), η'[i]? = some (some e) → η[i]? = some (some e)) : ER K s N σ η' :=
  ⟨by rw [h.len, hl], fun i e q => h.get i e (hs i e q)⟩
/-! ### making cells, making still -/
section
variable {K : PySem.W.Frag} {s0 s : Wd} {N0 : Nat} {μ : Mu}
theorem cell_still {s : Wd} {a b : Addr} {o : HO} {c : Cell} (h : CellAt K s b c) (ne : b ≠ a) (hn : s.F a = none) : CellAt K { s with F := upd s.F a o } b c := by
  have e : Same s.F (upd s.F a o) := fun x o' q => by rw [upd_ne (ne_of_none q hn)]; exact q
  cases c with
  | lst xs => obtain ⟨h1, ws, h2, h3⟩ := h; exact ⟨(upd_ne ne).trans h1, ws, h2, h3.mono e⟩
  | frz xs => obtain ⟨ws, h2, h3⟩ := h; exact ⟨ws, e _ _ h2, h3.mono e⟩
  | dct kvs =>
    obtain ⟨h1, ks, h2, h3, h4⟩ := h
    exact ⟨(upd_ne ne).trans h1, ks, h2, h3, h4.mono e⟩
  | dck kvs =>
    obtain ⟨h1, ks, h2, h3, h4⟩ := h
    exact ⟨(upd_ne ne).trans h1, ks, h2, h3, h4.mono e⟩
  | abs P => obtain ⟨xs, hP, h1, ws, h2, h3⟩ := h; exact ⟨xs, hP, (upd_ne ne).trans h1, ws, h2, h3.mono e⟩
  | tab P nm => exact ⟨h.1, h.2.to e ((upd_ne ne).trans h.2.nf) fun _ z => z⟩
  | own t => exact h
  | dead => exact h
/-- the trees when the world changes beside them -/
theorem OwnAt.keeps {s' : Wd} {n : Nat} {t : Tree} (h : OwnAt K s n t) (e : Same s.F s'.F) (hL : s'.L n = s.L n) (hO : ∀ a, s.O n a → s'.O n a) (k : ∀ a, s.O n a → Keeps s.F s.H s'.F s'.H a) : OwnAt K s' n t :=
  ⟨by rw [hL]; exact h.is.keeps e fun a ha => k a (h.own a ha), h.nd, fun a ha => hO a (h.own a ha)⟩
theorem keeps_same {F H : Hp} {a : Addr} : Keeps F H F H a := ⟨rfl, fun h _ => h⟩
/-- the still part grows at one address that no cell's tree has, or by a tuple -/
theorem keeps_F {F H : Hp} {a b : Addr} {o : HO} (h : a ≠ b ∨ ∃ vs, H b = some (.tup vs)) : Keeps F H (upd F b o) H a := ⟨rfl, fun hf ht => by
  rcases h with h | ⟨vs, h⟩
  · rw [upd_ne h]; exact hf
  · by_cases e : a = b
    · rw [e] at ht; exact absurd h (ht vs)
    · rw [upd_ne e]; exact hf⟩
/-- a list that nobody else has becomes still -/
theorem still_new {p : Addr} {vs : List V} {xs : List PyData} (R : Rep K s μ) (x : Ext s0 N0 s μ.length) (hp : s.H p = some (.lst vs)) (hf : s.F p = none) (hl : NL s μ.length p) (hd : DRs K s.F vs xs) (h0 : s0.H p = none) :
    Rep K { s with F := upd s.F p (.lst vs) } μ ∧ Ext s0 N0 { s with F := upd s.F p (.lst vs) } μ.length ∧ DR K (upd s.F p (.lst vs)) (.ref p) (.list xs) := by
  have e : Same s.F (upd s.F p (.lst vs)) := fun y o q => by rw [upd_ne (ne_of_none q hf)]; exact q
  refine ⟨⟨fun a o q => ?_, fun n c q => cell_still (R.cell n c q) (R.rootNe hl n (List.getElem?_eq_some_iff.mp q).1) hf, R.dis, R.root, R.live, fun n t q => (R.tree n t q).keeps e rfl (fun _ z => z) fun a ha => keeps_F (.inl fun z => hl n (List.getElem?_eq_some_iff.mp q).1 (z ▸ ha))⟩, ⟨fun a o q => e a o (x.f a o q), x.l, x.le, x.keep, fun a h1 h2 h3 h4 => ?_, x.lnew, x.onew, x.alive⟩, .lst upd_same (hd.mono e)⟩
  · have q' : upd s.F p (.lst vs) a = some o := q
    by_cases ha : a = p
    · subst ha
      rw [upd_same] at q'
      cases q'
      exact hp
    · rw [upd_ne ha] at q'
      exact R.sub a o q'
  · have ha : a ≠ p := fun z => h3 (z ▸ h0)
    show upd s.F p (.lst vs) a = none
    rw [upd_ne ha]
    exact x.fnew a h1 h2 h3 h4
theorem CellAt.atL {K : PySem.W.Frag} {s : Wd} {L' : Nat → Addr} {O' : Nat → Addr → Prop} {a : Addr} {c : Cell} (h : CellAt K s a c) : CellAt K { s with L := L', O := O' } a c := by
  cases c <;> exact h
/-- the world with one cell more, at p, owning S -/
abbrev newL (s : Wd) (N : Nat) (p : Addr) (S : Addr → Prop) : Wd := { s with L := fun n => if n = N then p else s.L n, O := fun n a => if n = N then S a else s.O n a }
theorem newL_L {s : Wd} {N : Nat} {p : Addr} {S : Addr → Prop} : (newL s N p S).L N = p := by
  show (if N = N then p else _) = p
  rw [if_pos rfl]
theorem newL_Ln {s : Wd} {N n : Nat} {p : Addr} {S : Addr → Prop} (h : n ≠ N) : (newL s N p S).L n = s.L n := by
  show (if n = N then p else _) = _
  rw [if_neg h]
theorem newL_O {s : Wd} {N : Nat} {p a : Addr} {S : Addr → Prop} : (newL s N p S).O N a = S a := by
  show (if N = N then S a else _) = _
  rw [if_pos rfl]
theorem newL_On {s : Wd} {N n : Nat} {p a : Addr} {S : Addr → Prop} (h : n ≠ N) : (newL s N p S).O n a = s.O n a := by
  show (if n = N then S a else _) = _
  rw [if_neg h]
theorem upd_live {H : Hp} {p a : Addr} {o : HO} (h : H a ≠ none) : upd H p o a ≠ none := by
  by_cases e : a = p
  · rw [e, upd_same]; simp
  · rw [upd_ne e]; exact h
/-- the world changes, the cells lie as they lay -/
theorem Rep.of {H' F' : Hp} {μ' : Mu} (R : Rep K s μ) (hlen : μ'.length = μ.length) (hs : Same F' H') (hc : ∀ n c, μ'[n]? = some c → CellAt K { s with H := H', F := F' } (s.L n) c) (ha : ∀ a, s.H a ≠ none → H' a ≠ none)
    (hT : ∀ n t, μ'[n]? = some (.own t) → OwnAt K { s with H := H', F := F' } n t) : Rep K { s with H := H', F := F' } μ' :=
  ⟨hs, hc, fun m n a h1 h2 => R.dis m n a (hlen ▸ h1) (hlen ▸ h2), fun n h => R.root n (hlen ▸ h), fun n a h z => ha a (R.live n a (hlen ▸ h) z), hT⟩
/-- .. trees beside what changes -/
theorem Rep.beside {H' F' : Hp} (R : Rep K s μ) (e : Same s.F F') (k : ∀ n a, n < μ.length → s.O n a → Keeps s.F s.H F' H' a) : ∀ n t, μ[n]? = some (.own t) → OwnAt K { s with H := H', F := F' } n t := fun n t q =>
  (R.tree n t q).keeps (s' := { s with H := H', F := F' }) e rfl (fun _ z => z) fun a ha => k n a (List.getElem?_eq_some_iff.mp q).1 ha
theorem keeps_put {F H : Hp} {a p : Addr} {o : HO} (h : a ≠ p) : Keeps F H F (upd H p o) a := ⟨upd_ne h, fun z _ => z⟩
theorem keeps_putF {F H : Hp} {a p : Addr} {o o' : HO} (h : a ≠ p) : Keeps F H (upd F p o') (upd H p o) a := ⟨upd_ne h, fun z _ => by rw [upd_ne h]; exact z⟩
/-- .. becomes a cell -/
theorem cell_newG {p : Addr} {c : Cell} (S : Addr → Prop) (R : Rep K s μ) (x : Ext s0 N0 s μ.length) (hC : CellAt K s p c) (hS : ∀ a, S a → s.H a ≠ none ∧ NL s μ.length a ∧ s0.H a = none) (hp : S p) (hT : ∀ t, c = .own t → TreeR K s.F s.H (.ref p) t ∧ (addrs t).Nodup ∧ ∀ a ∈ addrs t, S a) :
    Rep K (newL s μ.length p S) (μ ++ [c]) ∧ Ext s0 N0 (newL s μ.length p S) (μ ++ [c]).length := by
  have lt2 : ∀ n, n < (μ ++ [c]).length → n ≠ μ.length → n < μ.length := fun n h h2 => by simp at h; omega
  have at2 : ∀ {n c'}, (μ ++ [c])[n]? = some c' → n ≠ μ.length → μ[n]? = some c' := fun {n c'} q h => by
    rw [List.getElem?_append_left (lt2 n (List.getElem?_eq_some_iff.mp q).1 h)] at q
    exact q
  refine ⟨⟨R.sub, fun n c' q => ?_, fun m n a hm hn h1 h2 => ?_, fun n hn => ?_, fun n a hn ha => ?_, fun n t q => ?_⟩, ⟨x.f, fun n hn => ?_, by simp; exact Nat.le_trans x.le (Nat.le_succ _), x.keep, x.fnew, fun n h1 h2 => ?_, fun n a hn ha => ?_, x.alive⟩⟩
  · by_cases hn : n = μ.length
    · subst hn
      simp at q
      subst q
      rw [newL_L]
      exact hC.atL
    · rw [newL_Ln hn]
      exact (R.cell n c' (at2 q hn)).atL
  · by_cases e1 : m = μ.length
    · by_cases e2 : n = μ.length
      · omega
      · rw [e1, newL_O] at h1
        rw [newL_On e2] at h2
        exact absurd h2 ((hS a h1).2.1 n (lt2 n hn e2))
    · by_cases e2 : n = μ.length
      · rw [e2, newL_O] at h2
        rw [newL_On e1] at h1
        exact absurd h1 ((hS a h2).2.1 m (lt2 m hm e1))
      · rw [newL_On e1] at h1
        rw [newL_On e2] at h2
        exact R.dis m n a (lt2 m hm e1) (lt2 n hn e2) h1 h2
  · by_cases e : n = μ.length
    · rw [e, newL_L, newL_O]; exact hp
    · rw [newL_Ln e, newL_On e]; exact R.root n (lt2 n hn e)
  · by_cases e : n = μ.length
    · rw [e, newL_O] at ha; exact (hS a ha).1
    · rw [newL_On e] at ha; exact R.live n a (lt2 n hn e) ha
  · by_cases e : n = μ.length
    · subst e
      simp at q
      obtain ⟨t1, t2, t3⟩ := hT t q
      exact ⟨by rw [newL_L]; exact t1, t2, fun a ha => by rw [newL_O]; exact t3 a ha⟩
    · exact (R.tree n t (at2 q e)).keeps (fun _ _ z => z) (newL_Ln e) (fun a z => by rw [newL_On e]; exact z) fun a _ => keeps_same
  · rw [newL_Ln (by have := x.le; omega)]
    exact x.l n hn
  · by_cases e : n = μ.length
    · rw [e, newL_L]; exact (hS p hp).2.2
    · rw [newL_Ln e]; exact x.lnew n h1 (lt2 n h2 e)
  · by_cases e : n = μ.length
    · rw [e, newL_O] at ha; exact .inl (hS a ha).2.2
    · rw [newL_On e] at ha; exact x.onew n a (lt2 n hn e) ha
theorem cell_newC {p : Addr} {c : Cell} (R : Rep K s μ) (x : Ext s0 N0 s μ.length) (hC : CellAt K s p c) (hl : NL s μ.length p) (h0 : s0.H p = none) (hn : ∀ t, c ≠ .own t := by intro t z; cases z) :
    Rep K (newL s μ.length p (· = p)) (μ ++ [c]) ∧ Ext s0 N0 (newL s μ.length p (· = p)) (μ ++ [c]).length :=
  cell_newG _ R x hC (fun a ha => by subst ha; exact ⟨hC.here R.sub, hl, h0⟩) rfl fun t e => absurd e (hn t)
theorem cell_new {p : Addr} {vs : List V} {xs : List PyData} (R : Rep K s μ) (x : Ext s0 N0 s μ.length) (hp : s.H p = some (.lst vs)) (hf : s.F p = none) (hl : NL s μ.length p) (hd : DRs K s.F vs xs) (h0 : s0.H p = none) :
    Rep K (newL s μ.length p (· = p)) (μ ++ [.lst xs]) ∧ Ext s0 N0 (newL s μ.length p (· = p)) (μ ++ [Cell.lst xs]).length := cell_newC R x ⟨hf, vs, hp, hd⟩ hl h0
/-- a tree that nobody else has becomes a cell -/
theorem cell_newO {p : Addr} {t : Tree} (R : Rep K s μ) (x : Ext s0 N0 s μ.length) (hp : p ∈ addrs t) (ht : TreeR K s.F s.H (.ref p) t) (hn : (addrs t).Nodup) (hl : ∀ a ∈ addrs t, NL s μ.length a) (h0 : ∀ a ∈ addrs t, s0.H a = none) :
    Rep K (newL s μ.length p (· ∈ addrs t)) (μ ++ [.own t]) ∧ Ext s0 N0 (newL s μ.length p (· ∈ addrs t)) (μ ++ [Cell.own t]).length :=
  cell_newG _ R x (ht.live p hp) (fun a ha => ⟨ht.live a ha, hl a ha, h0 a ha⟩) hp fun t' e => by cases e; exact ⟨ht, hn, fun _ z => z⟩
/-- a cell becomes still -/
theorem still_cell {n : Nat} {xs : List PyData} (R : Rep K s μ) (x : Ext s0 N0 s μ.length) (hn : μ[n]? = some (.lst xs)) :
    ∃ F', Rep K { s with F := F' } (μ.set n (.frz xs)) ∧ Ext s0 N0 { s with F := F' } (μ.set n (.frz xs)).length ∧ DR K F' (.ref (s.L n)) (.list xs) := by
  obtain ⟨hf, vs, hp, hd⟩ := R.cell n _ hn
  have hlt := (List.getElem?_eq_some_iff.mp hn).1
  have e : Same s.F (upd s.F (s.L n) (.lst vs)) := fun y o q => by rw [upd_ne (ne_of_none q hf)]; exact q
  refine ⟨upd s.F (s.L n) (.lst vs), ⟨fun a o q => ?_, fun m c q => ?_, fun m n a hm hn => R.dis m n a (by simpa using hm) (by simpa using hn), fun n hn => R.root n (by simpa using hn), fun n a hn => R.live n a (by simpa using hn), fun m t q => ?_⟩, ⟨fun a o q => e a o (x.f a o q), x.l, by rw [List.length_set]; exact x.le, x.keep, fun a h1 h2 h3 h4 => ?_, fun i h1 h2 => x.lnew i h1 (by simpa using h2), fun i a h1 => x.onew i a (by simpa using h1), x.alive⟩, .lst upd_same (hd.mono e)⟩
  · by_cases ha : a = s.L n
    · subst ha
      have q' : upd s.F (s.L n) (.lst vs) (s.L n) = some o := q
      rw [upd_same] at q'
      cases q'
      exact hp
    · have q' : upd s.F (s.L n) (.lst vs) a = some o := q
      rw [upd_ne ha] at q'
      exact R.sub a o q'
  · by_cases hm : n = m
    · subst hm
      rw [List.getElem?_set_self hlt] at q
      cases q
      exact ⟨vs, upd_same, hd.mono e⟩
    · rw [List.getElem?_set_ne hm] at q
      exact cell_still (R.cell m c q) (fun z => hm (R.inj m n (List.getElem?_eq_some_iff.mp q).1 hlt z).symm) hf
  · by_cases hm : n = m
    · subst hm
      rw [List.getElem?_set_self hlt] at q
      cases q
    · rw [List.getElem?_set_ne hm] at q
      exact (R.tree m t q).keeps e rfl (fun _ z => z) fun a ha => keeps_F (.inl fun z => hm (R.dis n m a hlt (List.getElem?_eq_some_iff.mp q).1 (by rw [z]; exact R.root n hlt) ha))
  · by_cases ha : a = s.L n
    · exfalso
      rcases x.onew n a hlt (by rw [ha]; exact R.root n hlt) with h5 | ⟨h5, h6⟩
      · exact h3 h5
      · exact h2 n h5 h6
    · show upd s.F (s.L n) (.lst vs) a = none
      rw [upd_ne ha]
      exact x.fnew a h1 h2 h3 h4
theorem CellAt.mutH {a b : Addr} {o : HO} {c : Cell} (h : CellAt K s a c) (ne : a ≠ b) : CellAt K { s with H := upd s.H b o } a c := by
  cases c with
  | lst xs => obtain ⟨h1, vs, h2, h3⟩ := h; exact ⟨h1, vs, (upd_ne ne).trans h2, h3⟩
  | frz xs => exact h
  | dct kvs => obtain ⟨h1, ks, h2, h3, h4⟩ := h; exact ⟨h1, ks, (upd_ne ne).trans h2, h3, h4⟩
  | dck kvs => obtain ⟨h1, ks, h2, h3, h4⟩ := h; exact ⟨h1, ks, (upd_ne ne).trans h2, h3, h4⟩
  | abs P => obtain ⟨xs, hP, h1, vs, h2, h3⟩ := h; exact ⟨xs, hP, h1, vs, (upd_ne ne).trans h2, h3⟩
  | tab P nm => exact ⟨h.1, h.2.to (fun _ _ z => z) h.2.nf fun _ z => (upd_ne ne).trans z⟩
  | own t => exact upd_live h
  | dead => exact upd_live h
theorem get_set_ne {m n : Nat} {c c2 : Cell} (hm : n ≠ m) (q : (μ.set n c)[m]? = some c2) : μ[m]? = some c2 := by rwa [List.getElem?_set_ne hm] at q
/-- a cell that owns no tree is written -/
theorem mut_g {n : Nat} {c' : Cell} {o : HO} (R : Rep K s μ) (x : Ext s0 N0 s μ.length) (hlt : n < μ.length) (hf : s.F (s.L n) = none) (hc : CellAt K { s with H := upd s.H (s.L n) o } (s.L n) c') (ho : ∀ t, c' ≠ .own t) :
    Rep K { s with H := upd s.H (s.L n) o } (μ.set n c') ∧ Ext s0 N0 { s with H := upd s.H (s.L n) o } (μ.set n c').length := by
  refine ⟨R.of (by simp) (fun a u q => ?_) (fun m c2 q => ?_) (fun a h => upd_live h) (fun m t q => ?_), ⟨x.f, x.l, by rw [List.length_set]; exact x.le, fun a u q hL => ?_, x.fnew, fun i h1 h2 => x.lnew i h1 (by simpa using h2), fun i a h1 => x.onew i a (by simpa using h1), fun a h => upd_live (x.alive a h)⟩⟩
  · have q' : s.F a = some u := q
    show upd s.H (s.L n) o a = some u
    rw [upd_ne (ne_of_none q' hf)]
    exact R.sub a u q'
  · by_cases hm : n = m
    · subst hm
      rw [List.getElem?_set_self hlt] at q
      cases q
      exact hc
    · exact (R.cell m c2 (get_set_ne hm q)).mutH fun z => hm (R.inj m n (List.getElem?_eq_some_iff.mp (get_set_ne hm q)).1 hlt z).symm
  · by_cases hm : n = m
    · subst hm
      rw [List.getElem?_set_self hlt] at q
      cases q
      exact absurd rfl (ho t)
    · have q' := get_set_ne hm q
      have hm' := (List.getElem?_eq_some_iff.mp q').1
      exact (R.tree m t q').keeps (s' := { s with H := upd s.H (s.L n) o }) (fun _ _ z => z) rfl (fun _ z => z) fun a ha => keeps_put fun z => hm (R.dis m n a hm' hlt ha (by rw [z]; exact R.root n hlt)).symm
  · have q' := x.keep a u q hL
    show upd s.H (s.L n) o a = some u
    rw [upd_ne fun z => x.out (by rw [q]; simp) hL n hlt (by rw [z]; exact R.root n hlt)]
    exact q'
/-- only the first N cells are kept -/
theorem Rep.take (R : Rep K s μ) (N : Nat) : Rep K s (μ.take N) := by
  have at2 : ∀ {n c}, (μ.take N)[n]? = some c → μ[n]? = some c := fun {n c} q => by
    rw [List.getElem?_take] at q
    split at q
    · exact q
    · cases q
  have lt2 : ∀ {n}, n < (μ.take N).length → n < μ.length := fun {n} h => by rw [List.length_take] at h; omega
  exact ⟨R.sub, fun n c q => R.cell n c (at2 q), fun m n a hm hn => R.dis m n a (lt2 hm) (lt2 hn), fun n hn => R.root n (lt2 hn), fun n a hn => R.live n a (lt2 hn), fun n t q => R.tree n t (at2 q)⟩
theorem Ext.take {N N' : Nat} (x : Ext s0 N0 s N) (h1 : N0 ≤ N') (h2 : N' ≤ N) : Ext s0 N0 s N' := ⟨x.f, x.l, h1, x.keep, x.fnew, fun n a b => x.lnew n a (by omega), fun n a b => x.onew n a (by omega), x.alive⟩
end
/-! ### a tree's parts by their paths -/
def Tree.kid : Tree → Nat → Option Tree
  | .nod _ _ ts, i => ts[i]?
  | _, _ => none
def Tree.get : List Nat → Tree → Option Tree
  | [], t => some t
  | i :: p, t => match t.kid i with
    | some u => Tree.get p u
    | none => none
def Tree.put (u : Tree) : List Nat → Tree → Tree
  | [], _ => u
  | i :: p, .nod k b ts => match ts[i]? with
    | some c => .nod k b (ts.set i (Tree.put u p c))
    | none => .nod k b ts
  | _ :: _, t => t
section
variable {K : PySem.W.Frag} {F H F' H' : Hp}
theorem TreesR.get : ∀ {vs : List V} {ts : List Tree} {i : Nat} {c : Tree}, TreesR K F H vs ts → ts[i]? = some c → ∃ v, vs[i]? = some v ∧ TreeR K F H v c
  | _, _, _, _, .nil, h => by simp at h
  | _, _, 0, _, .cons r _, h => by simp at h; subst h; exact ⟨_, rfl, r⟩
  | _, _, i + 1, c, .cons _ rs, h => by
    obtain ⟨v, h1, h2⟩ := TreesR.get (i := i) (c := c) rs (by simpa using h)
    exact ⟨v, by simpa using h1, h2⟩
/-- a part is a tree -/
theorem TreeR.get : ∀ {p : List Nat} {v : V} {t u : Tree}, TreeR K F H v t → Tree.get p t = some u → ∃ w, TreeR K F H w u
  | [], v, t, u, r, h => by cases h; exact ⟨v, r⟩
  | i :: p, v, t, u, r, h => by
    unfold Tree.get at h
    cases r with
    | dat _ => simp [Tree.kid] at h
    | per _ => simp [Tree.kid] at h
    | @nod k b vs ts h1 h2 h3 =>
      cases hc : ts[i]? with
      | none => simp [Tree.kid, hc] at h
      | some c =>
        simp only [Tree.kid, hc] at h
        obtain ⟨w, _, r'⟩ := h3.get hc
        exact r'.get h
theorem TreeR.node {v : V} {k : Knd} {b : Addr} {ts : List Tree} (r : TreeR K F H v (.nod k b ts)) : v = .ref b ∧ ∃ vs, HeapIs H b k vs ∧ (isTupK k ∨ F b = none) ∧ TreesR K F H vs ts := by
  cases r with
  | nod h1 h2 h3 => exact ⟨rfl, _, h1, h2, h3⟩
end
def nodeAt (μ : Mu) (n : Nat) (p : List Nat) : Option Tree := match μ[n]? with
  | some (.own t) => Tree.get p t
  | _ => none
theorem nodeAt_ex {μ : Mu} {n : Nat} {p : List Nat} {u : Tree} (h : nodeAt μ n p = some u) : ∃ t, μ[n]? = some (.own t) ∧ Tree.get p t = some u := by
  unfold nodeAt at h
  split at h
  · exact ⟨_, by assumption, h⟩
  · cases h
section
variable {K : PySem.W.Frag} {s : Wd} {n : Nat} {μ : Mu} {p : List Nat} {k : Knd} {b : Addr} {ts : List Tree}
theorem node_is (R : Rep K s μ) (h : nodeAt μ n p = some (.nod k b ts)) : ∃ vs, HeapIs s.H b k vs ∧ (isTupK k ∨ s.F b = none) ∧ TreesR K s.F s.H vs ts := by
  obtain ⟨t, h1, h2⟩ := nodeAt_ex h
  obtain ⟨w, r⟩ := (R.tree n t h1).is.get h2
  exact r.node.2
end
/-- children that are data -/
def flatT : List Tree → Option (List PyData)
  | [] => some []
  | .dat d :: ts => (flatT ts).map (d :: ·)
  | _ :: _ => none
theorem flatT_ok {K : PySem.W.Frag} {F H : Hp} : ∀ {vs : List V} {ts : List Tree} {xs : List PyData}, TreesR K F H vs ts → flatT ts = some xs → DRs K F vs xs
  | _, _, _, .nil, h => by cases h; exact .nil
  | _, _, xs, .cons (t := t) r rs, h => by
    cases t with
    | dat d =>
      rename_i vs ts
      unfold flatT at h
      cases q : flatT ts with
      | none => rw [q] at h; cases h
      | some ys =>
        rw [q] at h
        cases h
        cases r with
        | dat r => exact .cons r (flatT_ok rs q)
    | per _ => cases h
    | nod _ _ _ => cases h
mutual
/-- a tree of lists, tuples and data -/
def datT : Tree → Option PyData
  | .dat d => some d
  | .per _ => none
  | .nod .lst _ ts => (datsT ts).map .list
  | .nod .tup _ ts => (datsT ts).map .tuple
  | .nod _ _ _ => none
def datsT : List Tree → Option (List PyData)
  | [] => some []
  | t :: ts => match datT t, datsT ts with
    | some d, some ds => some (d :: ds)
    | _, _ => none
end
theorem datT_dat {d : PyData} : datT (.dat d) = some d := by rw [datT]
theorem datT_lst {b : Addr} {ts : List Tree} : datT (.nod .lst b ts) = (datsT ts).map .list := by rw [datT]
theorem datT_tup {b : Addr} {ts : List Tree} : datT (.nod .tup b ts) = (datsT ts).map .tuple := by rw [datT]
theorem datsT_nil : datsT [] = some [] := by rw [datsT]
mutual
theorem datT_dp {K : PySem.W.Frag} {F H : Hp} (sub : Same F H) : ∀ {v : V} {t : Tree} {d : PyData}, TreeR K F H v t → datT t = some d → noD d = true → Dp K H v d ∧ d.canLay0 = true
  | _, _, _, .dat r, h, n => by
    rw [datT_dat] at h
    cases h
    exact ⟨(r.mono sub).dp n, r.lay n⟩
  | _, _, _, .per _, h, _ => by rw [datT] at h; cases h
  | _, _, d, .nod (k := k) (ts := ts) h1 _ h3, h, n => by
    cases k with
    | lst =>
      rw [datT_lst] at h
      cases q : datsT ts with
      | none => rw [q] at h; cases h
      | some ds =>
        rw [q] at h
        cases h
        obtain ⟨a1, a2⟩ := datsT_dp sub h3 q (by simpa [noD] using n)
        exact ⟨.lst (SqL.of h1) a1, by simpa [PyData.canLay0] using a2⟩
    | tup =>
      rw [datT_tup] at h
      cases q : datsT ts with
      | none => rw [q] at h; cases h
      | some ds =>
        rw [q] at h
        cases h
        obtain ⟨a1, a2⟩ := datsT_dp sub h3 q (by simpa [noD] using n)
        exact ⟨.tup (SqT.of h1) a1, by simpa [PyData.canLay0] using a2⟩
    | dck ks => rw [datT] at h <;> first | cases h | (intro z; cases z)
    | dct ks => rw [datT] at h <;> first | cases h | (intro z; cases z)
    | ins C fs => rw [datT] at h <;> first | cases h | (intro z; cases z)
    | gho => rw [datT] at h <;> first | cases h | (intro z; cases z)
theorem datsT_dp {K : PySem.W.Frag} {F H : Hp} (sub : Same F H) : ∀ {vs : List V} {ts : List Tree} {ds : List PyData}, TreesR K F H vs ts → datsT ts = some ds → noDs ds = true → DpAll K H vs ds ∧ PyData.canLayAll0 ds = true
  | _, _, _, .nil, h, _ => by
    rw [datsT_nil] at h
    cases h
    exact ⟨.nil, by simp [PyData.canLayAll0]⟩
  | _, _, ds, .cons (t := t) (ts := ts) r rs, h, n => by
    rw [datsT] at h
    cases q : datT t with
    | none => rw [q] at h; cases h
    | some d =>
      cases q2 : datsT ts with
      | none => rw [q, q2] at h; cases h
      | some es =>
        rw [q, q2] at h
        cases h
        simp [noDs] at n
        obtain ⟨a1, a2⟩ := datT_dp sub r q n.1
        obtain ⟨b1, b2⟩ := datsT_dp sub rs q2 n.2
        exact ⟨.cons a1 b1, by simp [PyData.canLayAll0, a2, b2]⟩
end
/-! ### parts put into trees -/
section
open PySem.Spec PyProof.Rows
theorem addrsL_get {ts : List Tree} {i : Nat} {c : Tree} (h : ts[i]? = some c) : ∀ a ∈ addrs c, a ∈ addrsL ts := by
  induction ts generalizing i with
  | nil => simp at h
  | cons t ts ih =>
    intro a ha
    rw [addrsL_cons]
    cases i with
    | zero => simp at h; subst h; exact List.mem_append_left _ ha
    | succ i => exact List.mem_append_right _ (ih (by simpa using h) a ha)
theorem addrs_get : ∀ {p : List Nat} {t u : Tree}, Tree.get p t = some u → ∀ a ∈ addrs u, a ∈ addrs t
  | [], t, u, h, a, ha => by cases h; exact ha
  | i :: p, t, u, h, a, ha => by
    unfold Tree.get at h
    cases t with
    | dat d => simp [Tree.kid] at h
    | per d => simp [Tree.kid] at h
    | nod k b ts =>
      cases hc : ts[i]? with
      | none => simp [Tree.kid, hc] at h
      | some c =>
        simp only [Tree.kid, hc] at h
        rw [addrs_nod]
        exact List.mem_cons_of_mem _ (addrsL_get hc a (addrs_get h a ha))
section
variable {K : PySem.W.Frag} {F H F' H' : Hp}
theorem TreesR.length : ∀ {vs : List V} {ts : List Tree}, TreesR K F H vs ts → vs.length = ts.length
  | _, _, .nil => rfl
  | _, _, .cons _ rs => by rw [List.length_cons, List.length_cons, rs.length]
theorem TreesR.append : ∀ {vs ws : List V} {ts us : List Tree}, TreesR K F H vs ts → TreesR K F H ws us → TreesR K F H (vs ++ ws) (ts ++ us)
  | _, _, _, _, .nil, s => s
  | _, _, _, _, .cons r rs, s => .cons r (rs.append s)
theorem TreesR.set : ∀ {vs : List V} {ts : List Tree} {v : V} {t : Tree} (i : Nat), TreesR K F H vs ts → TreeR K F H v t → TreesR K F H (vs.set i v) (ts.set i t)
  | _, _, _, _, _, .nil, _ => .nil
  | _, _, _, _, 0, .cons _ rs, r => .cons r rs
  | _, _, _, _, i + 1, .cons h rs, r => .cons h (rs.set i r)
/-- the others of a row when one is another -/
theorem TreesR.put (e : Same F F') : ∀ {vs : List V} {ts : List Tree} {i : Nat} {c c' : Tree}, TreesR K F H vs ts → (addrsL ts).Nodup → ts[i]? = some c → (∀ v, vs[i]? = some v → TreeR K F' H' v c') → (∀ a ∈ addrsL ts, a ∉ addrs c → Keeps F H F' H' a) → TreesR K F' H' vs (ts.set i c')
  | _, _, _, _, _, .nil, _, h, _, _ => by simp at h
  | v :: vs, t :: ts, 0, c, c', .cons r rs, nd, h, hv, q => by
    simp at h
    subst h
    rw [addrsL_cons] at nd q
    have nd' := List.nodup_append.mp nd
    exact .cons (hv v rfl) (rs.keeps e fun a ha => q a (List.mem_append_right _ ha) fun z => nd'.2.2 a z a ha rfl)
  | v :: vs, t :: ts, i + 1, c, c', .cons r rs, nd, h, hv, q => by
    rw [addrsL_cons] at nd q
    have nd' := List.nodup_append.mp nd
    have hc : ts[i]? = some c := by simpa using h
    refine .cons (r.keeps e fun a ha => q a (List.mem_append_left _ ha) fun z => nd'.2.2 a ha a (addrsL_get hc a z) rfl) (TreesR.put e rs nd'.2.1 hc (fun w hw => hv w (by simpa using hw)) fun a ha => q a (List.mem_append_right _ ha))
/-- a tree when one of its parts is another -/
theorem TreeR.put (e : Same F F') : ∀ {p : List Nat} {v : V} {t u u' : Tree}, TreeR K F H v t → (addrs t).Nodup → Tree.get p t = some u → (∀ w, TreeR K F H w u → TreeR K F' H' w u') → (∀ a ∈ addrs t, a ∉ addrs u → Keeps F H F' H' a) → TreeR K F' H' v (Tree.put u' p t)
  | [], v, t, u, u', r, nd, h, hu, q => by cases h; exact hu v r
  | i :: p, v, t, u, u', r, nd, h, hu, q => by
    unfold Tree.get at h
    cases r with
    | dat _ => simp [Tree.kid] at h
    | per _ => simp [Tree.kid] at h
    | @nod k b vs ts h1 h2 h3 =>
      cases hc : ts[i]? with
      | none => simp [Tree.kid, hc] at h
      | some c =>
        simp only [Tree.kid, hc] at h
        unfold Tree.put
        simp only [hc]
        rw [addrs_nod] at nd q
        obtain ⟨nb, nts⟩ := List.nodup_cons.mp nd
        have hcu := addrs_get h
        have qb := q b List.mem_cons_self fun z => nb (addrsL_get hc b (hcu b z))
        obtain ⟨v0, hv0, r0⟩ := h3.get hc
        have ndc : (addrs c).Nodup := by
          clear hu q h qb r0 hv0 h3 hcu nd nb
          induction ts generalizing i with
          | nil => simp at hc
          | cons t ts ih =>
            rw [addrsL_cons] at nts
            have z := List.nodup_append.mp nts
            cases i with
            | zero => simp at hc; subst hc; exact z.1
            | succ i => exact ih _ (by simpa using hc) z.2.1
        refine .nod (h1.congr qb.1) ?_ (TreesR.put e h3 nts hc (fun w hw => ?_) fun a ha hn => q a (List.mem_cons_of_mem _ ha) fun z => hn (hcu a z))
        · rcases h2 with h2 | h2
          · exact .inl h2
          · cases k with
            | tup => exact .inl trivial
            | lst => exact .inr (qb.2 h2 fun ws z => by rw [show H b = some (.lst vs) from h1] at z; cases z)
            | dck ks => exact .inr (qb.2 h2 fun ws z => by rw [h1.1] at z; cases z)
            | dct ks => exact .inr (qb.2 h2 fun ws z => by rw [h1.1] at z; cases z)
            | ins C fs => exact .inr (qb.2 h2 fun ws z => by obtain ⟨dx, g1, g2⟩ := h1; rw [g1] at z; cases z)
            | gho => exact .inr (qb.2 h2 fun ws z => by obtain ⟨o, g1, g2⟩ := h1; rw [g1] at z; cases z; exact g2 _ rfl)
        · rw [hv0] at hw
          cases hw
          exact r0.put e ndc h hu fun a ha hn => q a (List.mem_cons_of_mem _ (addrsL_get hc a ha)) hn
end
theorem addrsL_set {i : Nat} {c c' : Tree} : ∀ {ts : List Tree}, ts[i]? = some c → (addrsL ts).Nodup → ∀ a ∈ addrsL (ts.set i c'), (a ∈ addrsL ts ∧ a ∉ addrs c) ∨ a ∈ addrs c' := by
  intro ts
  induction ts generalizing i with
  | nil => intro h; simp at h
  | cons t ts ih =>
    intro h nd a ha
    rw [addrsL_cons] at nd
    have z := List.nodup_append.mp nd
    cases i with
    | zero =>
      simp at h
      subst h
      rw [List.set_cons_zero, addrsL_cons] at ha
      rcases List.mem_append.mp ha with ha | ha
      · exact .inr ha
      · exact .inl ⟨by rw [addrsL_cons]; exact List.mem_append_right _ ha, fun y => z.2.2 a y a ha rfl⟩
    | succ i =>
      have hc : ts[i]? = some c := by simpa using h
      rw [List.set_cons_succ, addrsL_cons] at ha
      rcases List.mem_append.mp ha with ha | ha
      · exact .inl ⟨by rw [addrsL_cons]; exact List.mem_append_left _ ha, fun y => z.2.2 a ha a (addrsL_get hc a y) rfl⟩
      · rcases ih hc z.2.1 a ha with ⟨h1, h2⟩ | h1
        · exact .inl ⟨by rw [addrsL_cons]; exact List.mem_append_right _ h1, h2⟩
        · exact .inr h1
theorem nodupL_set {i : Nat} {c c' : Tree} : ∀ {ts : List Tree}, ts[i]? = some c → (addrsL ts).Nodup → (addrs c').Nodup → (∀ a ∈ addrs c', a ∈ addrsL ts → a ∈ addrs c) → (addrsL (ts.set i c')).Nodup := by
  intro ts
  induction ts generalizing i with
  | nil => intro h; simp at h
  | cons t ts ih =>
    intro h nd nc q
    rw [addrsL_cons] at nd q
    have z := List.nodup_append.mp nd
    cases i with
    | zero =>
      simp at h
      subst h
      rw [List.set_cons_zero, addrsL_cons]
      refine List.nodup_append.mpr ⟨nc, z.2.1, fun a ha b hb e => ?_⟩
      subst e
      exact z.2.2 a (q a ha (List.mem_append_right _ hb)) a hb rfl
    | succ i =>
      have hc : ts[i]? = some c := by simpa using h
      rw [List.set_cons_succ, addrsL_cons]
      refine List.nodup_append.mpr ⟨z.1, ih hc z.2.1 nc fun a ha hb => q a ha (List.mem_append_right _ hb), fun a ha b hb e => ?_⟩
      subst e
      rcases addrsL_set hc z.2.1 a hb with ⟨h1, _⟩ | h1
      · exact z.2.2 a ha a h1 rfl
      · exact z.2.2 a ha a (addrsL_get hc a (q a h1 (List.mem_append_left _ ha))) rfl
theorem nodup_get : ∀ {p : List Nat} {t u : Tree}, (addrs t).Nodup → Tree.get p t = some u → (addrs u).Nodup
  | [], t, u, nd, h => by cases h; exact nd
  | i :: p, t, u, nd, h => by
    unfold Tree.get at h
    cases t with
    | dat d => simp [Tree.kid] at h
    | per d => simp [Tree.kid] at h
    | nod k b ts =>
      cases hc : ts[i]? with
      | none => simp [Tree.kid, hc] at h
      | some c =>
        simp only [Tree.kid, hc] at h
        rw [addrs_nod] at nd
        have nts := (List.nodup_cons.mp nd).2
        refine nodup_get ?_ h
        clear h nd
        induction ts generalizing i with
        | nil => simp at hc
        | cons t ts ih =>
          rw [addrsL_cons] at nts
          have z := List.nodup_append.mp nts
          cases i with
          | zero => simp at hc; subst hc; exact z.1
          | succ i => exact ih _ (by simpa using hc) z.2.1
theorem addrs_put : ∀ {p : List Nat} {t u u' : Tree}, Tree.get p t = some u → (addrs t).Nodup → ∀ a ∈ addrs (Tree.put u' p t), (a ∈ addrs t ∧ a ∉ addrs u) ∨ a ∈ addrs u'
  | [], t, u, u', h, nd, a, ha => .inr ha
  | i :: p, t, u, u', h, nd, a, ha => by
    unfold Tree.get at h
    cases t with
    | dat d => simp [Tree.kid] at h
    | per d => simp [Tree.kid] at h
    | nod k b ts =>
      cases hc : ts[i]? with
      | none => simp [Tree.kid, hc] at h
      | some c =>
        simp only [Tree.kid, hc] at h
        unfold Tree.put at ha
        simp only [hc] at ha
        rw [addrs_nod] at nd ha ⊢
        obtain ⟨nb, nts⟩ := List.nodup_cons.mp nd
        have hcu := addrs_get h
        rcases List.mem_cons.mp ha with rfl | ha
        · exact .inl ⟨List.mem_cons_self, fun z => nb (addrsL_get hc _ (hcu _ z))⟩
        · rcases addrsL_set hc nts a ha with ⟨h1, h2⟩ | h1
          · exact .inl ⟨List.mem_cons_of_mem _ h1, fun z => h2 (hcu a z)⟩
          · have ndc : (addrs c).Nodup := nodup_get (p := [i]) (t := .nod k b ts) (u := c) (by rw [addrs_nod]; exact nd) (by simp [Tree.get, Tree.kid, hc])
            rcases addrs_put h ndc a h1 with ⟨h3, h4⟩ | h3
            · exact .inl ⟨List.mem_cons_of_mem _ (addrsL_get hc a h3), h4⟩
            · exact .inr h3
theorem nodup_put : ∀ {p : List Nat} {t u u' : Tree}, Tree.get p t = some u → (addrs t).Nodup → (addrs u').Nodup → (∀ a ∈ addrs u', a ∈ addrs t → a ∈ addrs u) → (addrs (Tree.put u' p t)).Nodup
  | [], t, u, u', h, nd, nu, q => nu
  | i :: p, t, u, u', h, nd, nu, q => by
    unfold Tree.get at h
    cases t with
    | dat d => simp [Tree.kid] at h
    | per d => simp [Tree.kid] at h
    | nod k b ts =>
      cases hc : ts[i]? with
      | none => simp [Tree.kid, hc] at h
      | some c =>
        simp only [Tree.kid, hc] at h
        unfold Tree.put
        simp only [hc]
        rw [addrs_nod] at q ⊢
        have nd0 := nd
        rw [addrs_nod] at nd
        obtain ⟨nb, nts⟩ := List.nodup_cons.mp nd
        have hcu := addrs_get h
        have ndc : (addrs c).Nodup := nodup_get (p := [i]) (t := .nod k b ts) (u := c) nd0 (by simp [Tree.get, Tree.kid, hc])
        have nup : (addrs (Tree.put u' p c)).Nodup := nodup_put h ndc nu fun a ha hb => q a ha (List.mem_cons_of_mem _ (addrsL_get hc a hb))
        have sub : ∀ a ∈ addrs (Tree.put u' p c), a ∈ addrsL ts → a ∈ addrs c := fun a ha hb => by
          rcases addrs_put h ndc a ha with ⟨h1, _⟩ | h1
          · exact h1
          · exact hcu a (q a h1 (List.mem_cons_of_mem _ hb))
        refine List.nodup_cons.mpr ⟨fun z => ?_, nodupL_set hc nts nup sub⟩
        rcases addrsL_set hc nts b z with ⟨h1, _⟩ | h1
        · exact nb h1
        · rcases addrs_put h ndc b h1 with ⟨h2, _⟩ | h2
          · exact nb (addrsL_get hc b h2)
          · exact nb (addrsL_get hc b (hcu b (q b h2 List.mem_cons_self)))
/-! ### a cell's parts -/
def putAt (μ : Mu) (n : Nat) (p : List Nat) (u : Tree) : Mu := match μ[n]? with
  | some (.own t) => μ.set n (.own (Tree.put u p t))
  | _ => μ
theorem putAt_len {μ : Mu} {n : Nat} {p : List Nat} {u : Tree} : (putAt μ n p u).length = μ.length := by
  unfold putAt
  split
  · exact List.length_set
  · rfl
section
variable {K : PySem.W.Frag} {s0 s : Wd} {N0 n : Nat} {μ : Mu} {p : List Nat} {k : Knd} {b : Addr} {ts : List Tree} {u : Tree}
/-- a cell's part is another: the world changes at its own addresses and at new ones -/
theorem own_put {H' F' : Hp} {u' : Tree} (R : Rep K s μ) (x : Ext s0 N0 s μ.length) (h : nodeAt μ n p = some u) (hu : ∀ w, TreeR K s.F s.H w u → TreeR K F' H' w u') (hn : (addrs u').Nodup)
    (hfr : ∀ a ∈ addrs u', a ∈ addrs u ∨ (NL s μ.length a ∧ s0.H a = none)) (sub : Same F' H') (e : Same s.F F') (hF : ∀ a, s.F a = none → F' a ≠ none → (∃ t, μ[n]? = some (.own t) ∧ a ∈ addrs t ∧ a ∈ addrs u))
    (hk : ∀ a, a ∉ addrs u → s.H a ≠ none → H' a = s.H a) (hal : ∀ a, s.H a ≠ none → H' a ≠ none) (hnew : ∀ a ∈ addrs u', H' a ≠ none) (hroot : p = [] → ∀ v, TreeR K F' H' v u' → ∃ a, v = .ref a ∧ a ∈ addrs u') :
    Rep K { s with H := H', F := F', O := fun m a => if m = n then s.O n a ∨ a ∈ addrs u' else s.O m a } (putAt μ n p u') ∧ Ext s0 N0 { s with H := H', F := F', O := fun m a => if m = n then s.O n a ∨ a ∈ addrs u' else s.O m a } (putAt μ n p u').length := by
  obtain ⟨t, h1, h2⟩ := nodeAt_ex h
  have T := R.tree n t h1
  have hlt := (List.getElem?_eq_some_iff.mp h1).1
  have hu_t : ∀ a ∈ addrs u, a ∈ addrs t := addrs_get h2
  have hu_O : ∀ a ∈ addrs u, s.O n a := fun a ha => T.own a (hu_t a ha)
  have ep : putAt μ n p u' = μ.set n (.own (Tree.put u' p t)) := by unfold putAt; rw [h1]
  have keep : ∀ a, a ∉ addrs u → s.H a ≠ none → Keeps s.F s.H F' H' a := fun a ha hl => ⟨hk a ha hl, fun hf _ => by
    cases q : F' a with
    | none => rfl
    | some o => obtain ⟨_, _, _, z⟩ := hF a hf (by rw [q]; simp); exact absurd z ha⟩
  have tr : TreeR K F' H' (.ref (s.L n)) (Tree.put u' p t) := T.is.put e T.nd h2 hu fun a ha hn => keep a hn (T.is.live a ha)
  have nd : (addrs (Tree.put u' p t)).Nodup := nodup_put h2 T.nd hn fun a ha hb => (hfr a ha).elim id fun z => absurd (T.own a hb) (z.1 n hlt)
  have ad : ∀ a ∈ addrs (Tree.put u' p t), s.O n a ∨ a ∈ addrs u' := fun a ha => (addrs_put h2 T.nd a ha).elim (fun z => .inl (T.own a z.1)) .inr
  have nO : ∀ m a, m < μ.length → m ≠ n → s.O m a → a ∉ addrs u := fun m a hm hmn ho ha => hmn (R.dis m n a hm hlt ho (hu_O a ha))
  rw [ep, List.length_set]
  refine ⟨⟨sub, fun m c q => ?_, fun i j a hi hj ha hb => ?_, fun m hm => ?_, fun m a hm ha => ?_, fun m t' q => ?_⟩, ⟨fun a o q => e a o (x.f a o q), x.l, x.le, fun a o q hL => ?_, fun a g1 g2 g3 g4 => ?_, x.lnew, fun i a hi ha => ?_, fun a ha => hal a (x.alive a ha)⟩⟩
  · by_cases hm : n = m
    · subst hm
      rw [List.getElem?_set_self hlt] at q
      cases q
      exact hal _ (R.here hlt)
    · have q' := get_set_ne hm q
      have hm' := (List.getElem?_eq_some_iff.mp q').1
      have C := R.cell m c q'
      have hne : s.L m ∉ addrs u := nO m _ hm' (fun z => hm z.symm) (R.root m hm')
      have kp := keep _ hne (R.here hm')
      cases c with
      | lst xs => obtain ⟨c1, vs, c2, c3⟩ := C; exact ⟨kp.2 c1 fun ws z => (by rw [c2] at z; cases z), vs, kp.1.trans c2, c3.mono e⟩
      | frz xs => obtain ⟨vs, c2, c3⟩ := C; exact ⟨vs, e _ _ c2, c3.mono e⟩
      | dct kvs => obtain ⟨c1, ks, c2, c3, c4⟩ := C; exact ⟨kp.2 c1 fun ws z => (by rw [c2] at z; cases z), ks, kp.1.trans c2, c3, c4.mono e⟩
      | dck kvs => obtain ⟨c1, ks, c2, c3, c4⟩ := C; exact ⟨kp.2 c1 fun ws z => (by rw [c2] at z; cases z), ks, kp.1.trans c2, c3, c4.mono e⟩
      | abs P => obtain ⟨xs, hP, c1, vs, c2, c3⟩ := C; exact ⟨xs, hP, kp.2 c1 fun ws z => (by rw [c2] at z; cases z), vs, kp.1.trans c2, c3.mono e⟩
      | tab P nm => exact ⟨C.1, C.2.to e (kp.2 C.2.nf fun ws z => (by obtain ⟨_, ps, c2, _⟩ := C.2; rw [c2] at z; cases z)) fun _ z => kp.1.trans z⟩
      | own t => exact hal _ C
      | dead => exact hal _ C
  · rw [List.length_set] at hi hj
    simp only at ha hb
    by_cases e1 : i = n
    · by_cases e2 : j = n
      · rw [e1, e2]
      · rw [if_pos e1] at ha
        rw [if_neg e2] at hb
        rcases ha with ha | ha
        · exact e1.trans (R.dis n j a hlt hj ha hb)
        · rcases hfr a ha with z | z
          · exact absurd z (nO j a hj e2 hb)
          · exact absurd hb (z.1 j hj)
    · by_cases e2 : j = n
      · rw [if_neg e1] at ha
        rw [if_pos e2] at hb
        rcases hb with hb | hb
        · exact (R.dis i n a hi hlt ha hb).trans e2.symm
        · rcases hfr a hb with z | z
          · exact absurd z (nO i a hi e1 ha)
          · exact absurd ha (z.1 i hi)
      · rw [if_neg e1] at ha
        rw [if_neg e2] at hb
        exact R.dis i j a hi hj ha hb
  · rw [List.length_set] at hm
    simp only
    by_cases e1 : m = n
    · rw [if_pos e1, e1]; exact .inl (R.root n hlt)
    · rw [if_neg e1]; exact R.root m hm
  · rw [List.length_set] at hm
    simp only at ha
    by_cases e1 : m = n
    · rw [if_pos e1] at ha
      exact ha.elim (fun z => hal a (R.live n a hlt z)) (hnew a)
    · rw [if_neg e1] at ha
      exact hal a (R.live m a hm ha)
  · by_cases hm : n = m
    · subst hm
      rw [List.getElem?_set_self hlt] at q
      cases q
      exact ⟨tr, nd, fun a ha => by simp only [if_true]; exact ad a ha⟩
    · have q' := get_set_ne hm q
      have hm' := (List.getElem?_eq_some_iff.mp q').1
      refine (R.tree m t' q').keeps e rfl (fun a z => ?_) fun a ha => keep a (nO m a hm' (fun z => hm z.symm) ha) (R.live m a hm' ha)
      simp only
      rw [if_neg (fun z => hm z.symm)]
      exact z
  · have q1 := x.keep a o q hL
    show H' a = some o
    rw [hk a (fun z => x.out (by rw [q]; simp) hL n hlt (hu_O a z)) (by rw [q1]; simp)]
    exact q1
  · show F' a = none
    cases qF : F' a with
    | none => rfl
    | some o =>
      obtain ⟨_, _, _, z⟩ := hF a (x.fnew a g1 g2 g3 g4) (by rw [qF]; simp)
      exact absurd (hu_O a z) (x.out g3 g2 n hlt)
  · simp only at ha
    by_cases e1 : i = n
    · rw [if_pos e1] at ha
      rw [e1]
      rcases ha with ha | ha
      · exact x.onew n a hlt ha
      · rcases hfr a ha with z | z
        · exact x.onew n a hlt (hu_O a z)
        · exact .inl z.2
    · rw [if_neg e1] at ha
      exact x.onew i a hi ha
end
end
end DL
set_option Elab.async false
set_option linter.all false
set_option maxRecDepth 100000
set_option maxHeartbeats 4000000
namespace DL
open PySem L2
abbrev PQ := EV → Mu → Prop
abbrev XQ := Exn → Mu → Prop
/-- what must hold of the slots and the store so that an expression gives what is wanted -/
abbrev TDE := DEnv → Mu → PQ → XQ → Prop
abbrev TDT := DEnv → Mu → (Bool → Mu → Prop) → XQ → Prop
abbrev TDA := DEnv → Mu → (List EV → Mu → Prop) → XQ → Prop
structure DEnds where
  nx : DEnv → Mu → Prop
  rt : EV → Mu → Prop
  bk : DEnv → Mu → Prop := fun _ _ => False
  ct : DEnv → Mu → Prop := fun _ _ => False
abbrev TDS := DEnds → XQ → DEnv → Mu → Prop
def XR (K : PySem.W.Frag) (s : Wd) (cls : Value) (d : Option Addr) (x : Exn) : Prop := cls = .ref x.c ∧ match x.fs, d with
  | none, none => True
  | some fs, some a => ∃ vs : List (Str × V), s.F a = some (.xd vs) ∧ vs.map (·.1) = fs.map (·.1) ∧ DRs K s.F (vs.map (·.2)) (fs.map (·.2))
  | _, _ => False
/-- the state of a body: world, store, slots -/
structure Sit (K : PySem.W.Frag) (s : Wd) (μ : Mu) (σ : L2.St) (η : DEnv) : Prop where
  rep : Rep K s μ
  er : ER K s μ.length σ η
def LE (K : PySem.W.Frag) (s : Wd) (N : Nat) (q : PQ) (Q : VK) : Prop := ∀ (e : EV) (μ' : Mu) (v : V) (s' : Wd), q e μ' → Ext s N s' μ'.length → Rep K s' μ' → VR K s' μ'.length v e → Frsh s.H v e → Q v s'.H
def LB (K : PySem.W.Frag) (s : Wd) (N : Nat) (q : Bool → Mu → Prop) (Q : Bool → Hp → Prop) : Prop := ∀ (b : Bool) (μ' : Mu) (s' : Wd), q b μ' → Ext s N s' μ'.length → Rep K s' μ' → Q b s'.H
inductive VRs (K : PySem.W.Frag) (s : Wd) (N : Nat) (H0 : Hp) : List V → List EV → Prop
  | nil : VRs K s N H0 [] []
  | cons {v : V} {vs : List V} {e : EV} {es : List EV} : VR K s N v e → Frsh H0 v e → VRs K s N H0 vs es → VRs K s N H0 (v :: vs) (e :: es)
def LA (K : PySem.W.Frag) (s : Wd) (N : Nat) (q : List EV → Mu → Prop) (Q : List V → Hp → Prop) : Prop := ∀ (es : List EV) (μ' : Mu) (vs : List V) (s' : Wd), q es μ' → Ext s N s' μ'.length → Rep K s' μ' → VRs K s' μ'.length s.H vs es → Q vs s'.H
def LX (K : PySem.W.Frag) (s : Wd) (N : Nat) (σ : L2.St) (E : XQ) (W : WX) : Prop := ∀ (x : Exn) (μ' : Mu) (cls : Value) (d : Option Addr) (s' : Wd), E x μ' → Ext s N s' μ'.length → Rep K s' μ' → XR K s' cls d x → W cls d σ s'.H
section
variable {K : PySem.W.Frag} {s s1 : Wd} {N N1 : Nat} {μ1 : Mu} {σ : L2.St}
theorem LE.go {q : PQ} {Q : VK} (h : LE K s N q Q) (x : Ext s N s1 μ1.length) (R : Rep K s1 μ1) : LE K s1 μ1.length q Q := fun e μ' v s' hq x' R' r f =>
  h e μ' v s' hq (x.trans x' fun n hn => R.here hn) R' r (f.back (K := K) x fun n hn => R.here hn)
theorem LB.go {q : Bool → Mu → Prop} {Q : Bool → Hp → Prop} (h : LB K s N q Q) (x : Ext s N s1 μ1.length) (R : Rep K s1 μ1) : LB K s1 μ1.length q Q := fun e μ' s' hq x' R' =>
  h e μ' s' hq (x.trans x' fun n hn => R.here hn) R'
theorem LX.go {E : XQ} {W : WX} (h : LX K s N σ E W) (x : Ext s N s1 μ1.length) (R : Rep K s1 μ1) : LX K s1 μ1.length σ E W := fun e μ' cls d s' hq x' R' r =>
  h e μ' cls d s' hq (x.trans x' fun n hn => R.here hn) R' r
theorem LX.none {W : WX} : LX K s N σ (fun _ _ => False) W := fun _ _ _ _ _ h => h.elim
theorem VRs.ext {s' : Wd} {N' : Nat} {H0 : Hp} {vs : List V} {es : List EV} (h : VRs K s N H0 vs es) (x : Ext s N s' N') : VRs K s' N' H0 vs es := by
  induction h with
  | nil => exact .nil
  | cons r f _ ih => exact .cons (r.ext x) f ih
theorem VRs.len {H0 : Hp} {vs : List V} {es : List EV} (h : VRs K s N H0 vs es) : vs.length = es.length := by
  induction h with
  | nil => rfl
  | cons _ _ _ ih => rw [List.length_cons, List.length_cons, ih]
theorem VRs.back {s0 : Wd} {N0 : Nat} {s' : Wd} {N' : Nat} {vs : List V} {es : List EV} (h : VRs K s' N' s1.H vs es) (x : Ext s0 N0 s1 N1) (r : ∀ n, n < N1 → s1.H (s1.L n) ≠ Option.none) : VRs K s' N' s0.H vs es := by
  induction h with
  | nil => exact .nil
  | cons a f _ ih => exact .cons a (f.back (K := K) x r) ih
end
/-- an expression by its data reading -/
structure DE (X : Cx) (W : WX) (e : Expr) (td : TDE) : Prop where
  ex : ∃ t : TE, PE X e t ∧ ∀ (s : Wd) (σ : L2.St) (η : DEnv) (μ : Mu) (Q : VK) (q : PQ) (E : XQ), Sit X.K s μ σ η → td η μ q E → LE X.K s μ.length q Q → LX X.K s μ.length σ E W → t σ s.H Q
structure DT (X : Cx) (W : WX) (e : Expr) (td : TDT) : Prop where
  ex : ∃ t : TT, PT X e t ∧ ∀ (s : Wd) (σ : L2.St) (η : DEnv) (μ : Mu) (Q : Bool → Hp → Prop) (q : Bool → Mu → Prop) (E : XQ), Sit X.K s μ σ η → td η μ q E → LB X.K s μ.length q Q → LX X.K s μ.length σ E W → t σ s.H Q
structure DW (X : Cx) (W : WX) (e : Expr) (td : TDT) : Prop where
  ex : ∃ t : TT, PW X e t ∧ ∀ (s : Wd) (σ : L2.St) (η : DEnv) (μ : Mu) (Q : Bool → Hp → Prop) (q : Bool → Mu → Prop) (E : XQ), Sit X.K s μ σ η → td η μ q E → LB X.K s μ.length q Q → LX X.K s μ.length σ E W → t σ s.H Q
structure DA (X : Cx) (W : WX) (es : List Expr) (td : TDA) : Prop where
  ex : ∃ t : TA, PA X es t ∧ ∀ (s : Wd) (σ : L2.St) (η : DEnv) (μ : Mu) (Q : List V → Hp → Prop) (q : List EV → Mu → Prop) (E : XQ), Sit X.K s μ σ η → td η μ q E → LA X.K s μ.length q Q → LX X.K s μ.length σ E W → t σ s.H Q
/-- what is wanted behind a statement, lifted -/
structure LS (K : PySem.W.Frag) (s : Wd) (N : Nat) (d : DEnds) (E : XQ) (D : Ends) (W : WX) : Prop where
  nx : ∀ (η' : DEnv) (μ' : Mu) (σ' : L2.St) (s' : Wd), d.nx η' μ' → Ext s N s' μ'.length → Sit K s' μ' σ' η' → D.nx σ' s'.H
  rt : LE K s N d.rt D.rt
  bk : ∀ (η' : DEnv) (μ' : Mu) (σ' : L2.St) (s' : Wd), d.bk η' μ' → Ext s N s' μ'.length → Sit K s' μ' σ' η' → D.bk σ' s'.H
  ct : ∀ (η' : DEnv) (μ' : Mu) (σ' : L2.St) (s' : Wd), d.ct η' μ' → Ext s N s' μ'.length → Sit K s' μ' σ' η' → D.ct σ' s'.H
  xq : ∀ (x : Exn) (μ' : Mu) (cls : Value) (dd : Option Addr) (σ' : L2.St) (s' : Wd), E x μ' → Ext s N s' μ'.length → Rep K s' μ' → XR K s' cls dd x → W cls dd σ' s'.H
structure DS (X : Cx) (W : WX) (st : Stmt) (td : TDS) : Prop where
  ex : ∃ t : TS, PS X st t ∧ ∀ (s : Wd) (σ : L2.St) (η : DEnv) (μ : Mu) (D : Ends) (d : DEnds) (E : XQ), Sit X.K s μ σ η → td d E η μ → LS X.K s μ.length d E D W → t D σ s.H
structure DSs (X : Cx) (W : WX) (st : List Stmt) (td : TDS) : Prop where
  ex : ∃ t : TS, PSs X st t ∧ ∀ (s : Wd) (σ : L2.St) (η : DEnv) (μ : Mu) (D : Ends) (d : DEnds) (E : XQ), Sit X.K s μ σ η → td d E η μ → LS X.K s μ.length d E D W → t D σ s.H
theorem LS.go {K : PySem.W.Frag} {s s1 : Wd} {N : Nat} {μ1 : Mu} {d : DEnds} {E : XQ} {D : Ends} {W : WX} (h : LS K s N d E D W) (x : Ext s N s1 μ1.length) (R : Rep K s1 μ1) : LS K s1 μ1.length d E D W :=
  ⟨fun η' μ' σ' s' q x' S => h.nx η' μ' σ' s' q (x.trans x' fun n hn => R.here hn) S, h.rt.go x R, fun η' μ' σ' s' q x' S => h.bk η' μ' σ' s' q (x.trans x' fun n hn => R.here hn) S,
   fun η' μ' σ' s' q x' S => h.ct η' μ' σ' s' q (x.trans x' fun n hn => R.here hn) S, fun y μ' cls dd σ' s' q x' R' r => h.xq y μ' cls dd σ' s' q (x.trans x' fun n hn => R.here hn) R' r⟩
theorem LS.lx {K : PySem.W.Frag} {s : Wd} {N : Nat} {d : DEnds} {E : XQ} {D : Ends} {W : WX} (h : LS K s N d E D W) (σ : L2.St) : LX K s N σ E W := fun x μ' cls dd s' q x' R r => h.xq x μ' cls dd σ s' q x' R r
theorem Sit.go {K : PySem.W.Frag} {s s1 : Wd} {μ μ1 : Mu} {σ : L2.St} {η : DEnv} (h : Sit K s μ σ η) (x : Ext s μ.length s1 μ1.length) (R : Rep K s1 μ1) : Sit K s1 μ1 σ η := ⟨R, h.er.ext x⟩
section
variable {X : Cx} {W : WX} {e a b : Expr} {ta tb te : TDE} {pos : Pos}
/-! ### names, constants -/
def dVar (i : Nat) : TDE := fun η μ q _ => match η[i]? with
  | some (some (.new _)) => False
  | some (some (.newd _)) => False
  | some (some (.newk _)) => False
  | some (some (.newo _)) => False
  | some (some e) => q e μ
  | _ => False
def dC (d : PyData) : TDE := fun _ μ q _ => q (.dat d) μ
def dRaw (v : V) : TDE := fun _ μ q _ => q (.raw v) μ
theorem de_pe {t : TE} (h : PE X e t) (g : ∀ (s : Wd) (σ : L2.St) (η : DEnv) (μ : Mu) (Q : VK) (q : PQ) (E : XQ), Sit X.K s μ σ η → te η μ q E → LE X.K s μ.length q Q → LX X.K s μ.length σ E W → t σ s.H Q) : DE X W e te := ⟨t, h, g⟩
theorem de_var {i : Nat} (h : PE X e (tVar i)) : DE X W e (dVar i) := de_pe h fun s σ η μ Q q E S hq l _ => by
  unfold dVar at hq
  cases hi : η[i]? with
  | none => rw [hi] at hq; exact hq.elim
  | some o =>
    cases o with
    | none => rw [hi] at hq; exact hq.elim
    | some ev =>
      rw [hi] at hq
      obtain ⟨v, h1, h2⟩ := S.er.get i _ hi
      cases ev with
      | new xs => exact hq.elim
      | newd xs => exact hq.elim
      | newk xs => exact hq.elim
      | dat _ => exact ⟨v, h1, l _ μ v s hq (Ext.refl _ _) S.rep h2 trivial⟩
      | loc _ => exact ⟨v, h1, l _ μ v s hq (Ext.refl _ _) S.rep h2 trivial⟩
      | raw _ => exact ⟨v, h1, l _ μ v s hq (Ext.refl _ _) S.rep h2 trivial⟩
      | exc _ => exact ⟨v, h1, l _ μ v s hq (Ext.refl _ _) S.rep h2 trivial⟩
      | ro _ => exact ⟨v, h1, l _ μ v s hq (Ext.refl _ _) S.rep h2 trivial⟩
      | newo t => exact hq.elim
      | «at» _ _ _ => exact ⟨v, h1, l _ μ v s hq (Ext.refl _ _) S.rep h2 trivial⟩
      | per _ => exact ⟨v, h1, l _ μ v s hq (Ext.refl _ _) S.rep h2 trivial⟩
theorem de_c {v : V} {d : PyData} (h : PE X e (tC v)) (r : ∀ (K : PySem.W.Frag) (F : Hp), DR K F v d) : DE X W e (dC d) := de_pe h fun s σ η μ Q q E S hq l _ => l _ _ _ _ hq (Ext.refl _ _) S.rep (r _ _) trivial
theorem de_int {i j} : DE X W (.Constant (.int i) j pos) (dC (.int i)) := de_c pe_int fun _ _ => .int i
theorem de_bl {b j} : DE X W (.Constant (.bool b) j pos) (dC (.bool b)) := de_c pe_bl fun _ _ => .bl b
theorem de_non {j} : DE X W (.Constant .none j pos) (dC .none) := de_c pe_non fun _ _ => .non
theorem de_str {x j} (h : PyData.strOk x = true := by decide +kernel) : DE X W (.Constant (.str x) j pos) (dC (.str x)) := de_c pe_str fun _ _ => .str x h
theorem de_raw {v : V} (h : PE X e (tC v)) : DE X W e (dRaw v) := de_pe h fun s σ η μ Q q E S hq l _ => l _ _ _ _ hq (Ext.refl _ _) S.rep rfl trivial
/-! ### made still, made a cell -/
def toDat (μ : Mu) : EV → Option (PyData × Mu)
  | .dat d => some (d, μ)
  | .new xs => some (.list xs, μ)
  | .loc n => match μ[n]? with
    | some (.lst xs) => some (.list xs, μ.set n (.frz xs))
    | some (.frz xs) => some (.list xs, μ)
    | _ => none
  | .at n (i :: p) b => match nodeAt μ n (i :: p) with
    | some (.nod .lst b' ts) => match flatT ts with
      | some xs => if b' = b then some (.list xs, putAt μ n (i :: p) (.dat (.list xs))) else none
      | none => none
    | _ => none
  | _ => none
def withDat (μ : Mu) (e : EV) (k : PyData → Mu → Prop) : Prop := match toDat μ e with
  | some (d, μ') => k d μ'
  | none => False
/-- what is still -/
theorem still {K : PySem.W.Frag} {s0 s : Wd} {N0 : Nat} {μ : Mu} {e : EV} {v : V} {k : PyData → Mu → Prop} (R : Rep K s μ) (x : Ext s0 N0 s μ.length) (r : VR K s μ.length v e) (f : Frsh s0.H v e) (h : withDat μ e k) :
    ∃ d μ' F' O', k d μ' ∧ μ'.length = μ.length ∧ Rep K { s with F := F', O := O' } μ' ∧ Ext s0 N0 { s with F := F', O := O' } μ'.length ∧ DR K F' v d := by
  unfold withDat toDat at h
  cases e with
  | dat d => exact ⟨d, μ, s.F, s.O, h, rfl, R, x, r⟩
  | new xs =>
    obtain ⟨p, vs, rfl, h1, h2, h3, h4⟩ := r
    obtain ⟨a1, a2, a3⟩ := still_new R x h1 h2 h3 h4 (f p rfl)
    exact ⟨_, μ, _, s.O, h, rfl, a1, a2, a3⟩
  | loc n =>
    obtain ⟨hn, rfl⟩ := r
    simp only at h
    cases hc : μ[n]? with
    | none => rw [hc] at h; exact h.elim
    | some c =>
      rw [hc] at h
      cases c with
      | lst xs =>
        obtain ⟨F', a1, a2, a3⟩ := still_cell R x hc
        exact ⟨_, _, F', s.O, h, by simp, a1, a2, a3⟩
      | frz xs =>
        obtain ⟨vs, h1, h2⟩ := R.cell n _ hc
        exact ⟨_, μ, s.F, s.O, h, rfl, R, x, .lst h1 h2⟩
      | dct kvs => exact h.elim
      | dck kvs => exact h.elim
      | abs P => exact h.elim
      | tab P nm => exact h.elim
      | own t => exact h.elim
      | dead => exact h.elim
  | «at» n p b =>
    cases p with
    | nil => exact h.elim
    | cons i p =>
      simp only at h
      split at h
      · rename_i d μ' hm
        split at hm
        · rename_i b' ts hn
          split at hm
          · rename_i xs hx
            split at hm
            · rename_i e1
              subst e1
              cases hm
              have rv : v = .ref b' := r
              subst rv
              obtain ⟨vs, hH, hF, hT⟩ := node_is R hn
              have hF0 : s.F b' = none := hF.resolve_left (fun z => z)
              have hd := flatT_ok hT hx
              have e : Same s.F (upd s.F b' (.lst vs)) := fun y o q => by rw [upd_ne (ne_of_none q hF0)]; exact q
              have hr : DR K (upd s.F b' (.lst vs)) (.ref b') (.list xs) := .lst upd_same (hd.mono e)
              obtain ⟨t, ht, hp⟩ := nodeAt_ex hn
              have T := R.tree n t ht
              have hS : Same (upd s.F b' (.lst vs)) s.H := fun a o q => by
                by_cases ha : a = b'
                · subst ha
                  rw [upd_same] at q
                  cases q
                  exact hH
                · rw [upd_ne ha] at q
                  exact R.sub a o q
              have hI : ∀ a, s.F a = none → upd s.F b' (.lst vs) a ≠ none → ∃ t, μ[n]? = some (.own t) ∧ a ∈ addrs t ∧ a ∈ addrs (.nod .lst b' ts) := fun a h1 h2 => by
                have ha : a = b' := by
                  by_cases ha : a = b'
                  · exact ha
                  · rw [upd_ne ha] at h2; exact absurd h1 h2
                subst ha
                have hm : a ∈ addrs (.nod .lst a ts) := by rw [addrs_nod]; exact List.mem_cons_self
                exact ⟨t, ht, addrs_get hp a hm, hm⟩
              have OP := own_put (s0 := s0) (H' := s.H) (F' := upd s.F b' (.lst vs)) (u' := .dat (.list xs)) R x hn (fun w rw_ => by
                  have := rw_.node.1
                  subst this
                  exact .dat hr) (by rw [addrs_dat]; exact .nil) (fun a ha => by rw [addrs_dat] at ha; cases ha) hS e hI (fun a _ _ => rfl) (fun a h => h) (fun a ha => by rw [addrs_dat] at ha; cases ha) (fun z => by cases z)
              exact ⟨_, _, _, _, h, putAt_len, OP.1, OP.2, hr⟩
            · cases hm
          · cases hm
        · cases hm
      · exact h.elim
  | newo t => exact h.elim
  | per c => exact h.elim
  | raw v => exact h.elim
  | exc y => exact h.elim
  | ro y => exact h.elim
  | newd y => exact h.elim
  | newk y => exact h.elim
def dFrz (t : TDE) : TDE := fun η μ q E => t η μ (fun e μ1 => withDat μ1 e fun d μ2 => q (.dat d) μ2) E
def SemE (K : PySem.W.Frag) (W : WX) (t : TE) (td : TDE) : Prop := ∀ (s : Wd) (σ : L2.St) (η : DEnv) (μ : Mu) (Q : VK) (q : PQ) (E : XQ), Sit K s μ σ η → td η μ q E → LE K s μ.length q Q → LX K s μ.length σ E W → t σ s.H Q
theorem sem_frz {K : PySem.W.Frag} {t : TE} {td : TDE} (g : SemE K W t td) : SemE K W t (dFrz td) := fun s σ η μ Q q E S hq l lx => g s σ η μ Q _ E S hq (fun e μ' v s' hk x R r f => by
  obtain ⟨d, μ2, F', O', k, _, R2, x2, r2⟩ := still R x r f hk
  exact l (.dat d) μ2 v { s' with F := F', O := O' } k x2 R2 r2 trivial) lx
theorem de_frz (h : DE X W e te) : DE X W e (dFrz te) := by
  obtain ⟨t, hp, g⟩ := h.ex
  exact de_pe hp (sem_frz g)
def cellK (q : PQ) : PQ := fun e μ1 => match e with
  | .new xs => q (.loc μ1.length) (μ1 ++ [.lst xs])
  | .newd xs => q (.loc μ1.length) (μ1 ++ [.dct xs])
  | .newk xs => q (.loc μ1.length) (μ1 ++ [.dck xs])
  | .newo (.nod k b ts) => q (.at μ1.length [] b) (μ1 ++ [.own (.nod k b ts)])
  | .newo _ => False
  | e => q e μ1
def dCell (t : TDE) : TDE := fun η μ q E => t η μ (cellK q) E
theorem sem_cell {K : PySem.W.Frag} {t : TE} {td : TDE} (g : SemE K W t td) : SemE K W t (dCell td) := fun s σ η μ Q q E S hq l lx => g s σ η μ Q _ E S hq (fun e μ' v s' hk x R r f => by
  cases e with
  | new xs =>
    obtain ⟨p, vs, rfl, h1, h2, h3, h4⟩ := r
    obtain ⟨a1, a2⟩ := cell_new R x h1 h2 h3 h4 (f p rfl)
    refine l (.loc μ'.length) _ _ (newL s' μ'.length p (· = p)) hk a2 a1 ⟨by simp, by rw [newL_L]⟩ trivial
  | newd xs =>
    obtain ⟨p, ks, rfl, h1, h2, h3, h4, h5⟩ := r
    obtain ⟨a1, a2⟩ := cell_newC (c := .dct xs) R x ⟨h2, ks, h1, h4, h5⟩ h3 (f p rfl)
    refine l (.loc μ'.length) _ _ (newL s' μ'.length p (· = p)) hk a2 a1 ⟨by simp, by rw [newL_L]⟩ trivial
  | newk xs =>
    obtain ⟨p, ks, rfl, h1, h2, h3, h4, h5⟩ := r
    obtain ⟨a1, a2⟩ := cell_newC (c := .dck xs) R x ⟨h2, ks, h1, h4, h5⟩ h3 (f p rfl)
    refine l (.loc μ'.length) _ _ (newL s' μ'.length p (· = p)) hk a2 a1 ⟨by simp, by rw [newL_L]⟩ trivial
  | dat d => exact l _ _ _ _ hk x R r f
  | loc d => exact l _ _ _ _ hk x R r f
  | raw d => exact l _ _ _ _ hk x R r f
  | exc d => exact l _ _ _ _ hk x R r f
  | ro d => exact l _ _ _ _ hk x R r f
  | «at» _ _ _ => exact l _ _ _ _ hk x R r f
  | per _ => exact l _ _ _ _ hk x R r f
  | newo t =>
    cases t with
    | dat d => exact hk.elim
    | per d => exact hk.elim
    | nod k b ts =>
      obtain ⟨⟨p, rfl, hp⟩, r2, r3, r4⟩ := r
      have e : p = b := by cases r2; rfl
      subst e
      obtain ⟨a1, a2⟩ := cell_newO R x hp r2 r3 r4 f
      exact l (.at μ'.length [] p) _ _ (newL s' μ'.length p (· ∈ addrs (.nod k p ts))) hk a2 a1 rfl trivial) lx
theorem de_cell (h : DE X W e te) : DE X W e (dCell te) := by
  obtain ⟨t, hp, g⟩ := h.ex
  exact de_pe hp (sem_cell g)
/-! ### rows of expressions -/
def aNil : TDA := fun _ μ q _ => q [] μ
def aCons (t : TDE) (u : TDA) : TDA := fun η μ q E => t η μ (fun e μ1 => u η μ1 (fun es μ2 => q (e :: es) μ2) E) E
theorem da_nil : DA X W [] aNil := ⟨_, pa_nil, fun s σ η μ Q q E S hq l _ => l [] μ [] s hq (Ext.refl _ _) S.rep .nil⟩
theorem da_cons {es : List Expr} {u : TDA} (h : DE X W e te) (hr : DA X W es u) (hs : starEach (e :: es) X.env = (false, eval e X.env) :: starEach es X.env := by rfl) : DA X W (e :: es) (aCons te u) := by
  obtain ⟨t1, p1, g1⟩ := h.ex
  obtain ⟨t2, p2, g2⟩ := hr.ex
  refine ⟨_, pa_cons p1 p2 hs, fun s σ η μ Q q E S hq l lx => ?_⟩
  refine g1 s σ η μ _ _ E S hq (fun ev μ1 v s1 hq1 x1 R1 r1 f1 => ?_) lx
  refine g2 s1 σ η μ1 _ _ E (S.go x1 R1) hq1 (fun es' μ2 vs s2 hq2 x2 R2 r2 => ?_) (lx.go x1 R1)
  have h1 := fun n (hn : n < μ1.length) => R1.here hn
  exact l _ _ _ _ hq2 (x1.trans x2 h1) R2 (.cons (r1.ext x2) f1 (r2.back x1 h1))
/-- the data of a row -/
def datsOf : List EV → Option (List PyData)
  | [] => some []
  | .dat d :: es => (datsOf es).map (d :: ·)
  | _ :: _ => none
theorem datsOf_rs {K : PySem.W.Frag} {s : Wd} {N : Nat} {H0 : Hp} : ∀ {vs : List V} {es : List EV} {ds : List PyData}, VRs K s N H0 vs es → datsOf es = some ds → DRs K s.F vs ds
  | _, _, _, .nil, h => by cases h; exact .nil
  | _, _, _, .cons (e := e) r _ rs, h => by
    cases e with
    | dat d =>
      unfold datsOf at h
      rename_i vs es _
      cases q : datsOf es with
      | none => rw [q] at h; cases h
      | some ds' =>
        rw [q] at h
        cases h
        exact .cons r (datsOf_rs rs q)
    | _ => cases h
def withDats (es : List EV) (k : List PyData → Prop) : Prop := match datsOf es with
  | some ds => k ds
  | none => False
theorem withDats_ex {es : List EV} {k : List PyData → Prop} (h : withDats es k) : ∃ ds, datsOf es = some ds ∧ k ds := by
  unfold withDats at h
  split at h
  · exact ⟨_, by assumption, h⟩
  · exact h.elim
/-- a new object stands beside -/
theorem Rep.put {K : PySem.W.Frag} {s : Wd} {μ : Mu} {p : Addr} {o : HO} (R : Rep K s μ) (hp : s.H p = none) : Rep K { s with H := upd s.H p o } μ := by
  have k : Same s.H (upd s.H p o) := fun a u q => by rw [upd_ne (ne_of_none q hp)]; exact q
  refine R.of rfl (fun a u q => k a u (R.sub a u q)) (fun n c q => ?_) (fun a h => upd_live h) (R.beside (fun _ _ z => z) fun n a hn ha => keeps_put fun z => R.live n a hn ha (z ▸ hp))
  have := R.cell n c q
  cases c with
  | lst xs => obtain ⟨h1, vs, h2, h3⟩ := this; exact ⟨h1, vs, k _ _ h2, h3⟩
  | frz xs => exact this
  | dct kvs =>
    obtain ⟨h1, ks, h2, h3, h4⟩ := this
    exact ⟨h1, ks, k _ _ h2, h3, h4⟩
  | dck kvs =>
    obtain ⟨h1, ks, h2, h3, h4⟩ := this
    exact ⟨h1, ks, k _ _ h2, h3, h4⟩
  | abs P => obtain ⟨xs, hP, h1, vs, h2, h3⟩ := this; exact ⟨xs, hP, h1, vs, k _ _ h2, h3⟩
  | tab P nm => exact ⟨this.1, this.2.to (fun _ _ z => z) this.2.nf fun _ z => k _ _ z⟩
  | own t => exact upd_live this
  | dead => exact upd_live this
theorem Rep.notF {K : PySem.W.Frag} {s : Wd} {μ : Mu} {p : Addr} (R : Rep K s μ) (hp : s.H p = none) : s.F p = none := by
  cases e : s.F p with
  | none => rfl
  | some o => rw [R.sub p o e] at hp; cases hp
theorem Rep.notL {K : PySem.W.Frag} {s : Wd} {μ : Mu} {p : Addr} (R : Rep K s μ) (hp : s.H p = none) : NL s μ.length p := fun m hm e => R.live m p hm e hp
theorem Ext.put {K : PySem.W.Frag} {s0 s : Wd} {N0 : Nat} {μ : Mu} {p : Addr} {o : HO} (x : Ext s0 N0 s μ.length) (R : Rep K s μ) (hp : s.H p = none) : Ext s0 N0 { s with H := upd s.H p o } μ.length :=
  ⟨x.f, x.l, x.le, fun a u q hn => by
    have q' := x.keep a u q hn
    show upd s.H p o a = some u
    rw [upd_ne (ne_of_none q' hp)]
    exact q', x.fnew, x.lnew, x.onew, fun a h => upd_live (x.alive a h)⟩
/-- fresh now, fresh ahead -/
theorem Ext.fresh {K : PySem.W.Frag} {s0 s : Wd} {N0 : Nat} {μ : Mu} {p : Addr} (x : Ext s0 N0 s μ.length) (R : Rep K s μ) (hp : s.H p = none) : s0.H p = none := by
  have : Frsh s0.H (.ref p) (.new []) := Frsh.back (K := K) x (s1 := s) (v := .ref p) (e := .new []) (fun q hq => by cases hq; exact hp) fun n hn => R.here hn
  exact this p rfl
/-- [a, b, ..]: a list that nobody else has; the items still -/
def dLst (t : TDA) : TDE := fun η μ q E => t η μ (fun es μ1 => withDats es fun ds => ds.length ≤ 100000 ∧ q (.new ds) μ1) E
def dTup (t : TDA) : TDE := fun η μ q E => t η μ (fun es μ1 => withDats es fun ds => ds.length ≤ 100000 ∧ q (.dat (.tuple ds)) μ1) E
theorem line_of {n : Nat} (h : n ≤ 100000) : n ≤ sizeLine := Nat.le_trans h (by decide)
theorem de_lst {es : List Expr} {t : TDA} (h : DA X W es t) : DE X W (.List es pos) (dLst t) := by
  obtain ⟨t1, p1, g1⟩ := h.ex
  refine de_pe (pe_lst p1) fun s σ η μ Q q E S hq l lx => ?_
  refine g1 s σ η μ _ _ E S hq (fun es' μ1 vs s1 hq1 x1 R1 r1 => ?_) lx
  obtain ⟨ds, e1, hz, hq1⟩ := withDats_ex hq1
  have d := datsOf_rs r1 e1
  refine ⟨line_of (by rw [d.length]; exact hz), fun p hp => ?_⟩
  exact l (.new ds) μ1 (.ref p) { s1 with H := upd s1.H p (.lst vs) } hq1 (x1.put R1 hp) (R1.put hp) ⟨p, vs, rfl, upd_same, R1.notF hp, R1.notL hp, d⟩ (fun y hy => by cases hy; exact x1.fresh R1 hp)
/-- a new still object -/
theorem Rep.putF {K : PySem.W.Frag} {s : Wd} {μ : Mu} {p : Addr} {o : HO} (R : Rep K s μ) (hp : s.H p = none) : Rep K { s with H := upd s.H p o, F := upd s.F p o } μ := by
  have k : Same s.H (upd s.H p o) := fun a u q => by rw [upd_ne (ne_of_none q hp)]; exact q
  have kF : Same s.F (upd s.F p o) := fun a u q => by rw [upd_ne (ne_of_none q (R.notF hp))]; exact q
  refine R.of rfl (fun a u q => ?_) (fun n c q => ?_) (fun a h => upd_live h) (R.beside kF fun n a hn ha => keeps_putF fun z => R.live n a hn ha (z ▸ hp))
  · have q' : upd s.F p o a = some u := q
    show upd s.H p o a = some u
    by_cases ha : a = p
    · subst ha
      rw [upd_same] at q' ⊢
      exact q'
    · rw [upd_ne ha] at q' ⊢
      exact R.sub a u q'
  · have hn := (List.getElem?_eq_some_iff.mp q).1
    have ne := R.rootNe (R.notL hp) n hn
    have := R.cell n c q
    cases c with
    | lst xs => obtain ⟨h1, vs, h2, h3⟩ := this; exact ⟨(upd_ne ne).trans h1, vs, k _ _ h2, h3.mono kF⟩
    | frz xs => obtain ⟨vs, h2, h3⟩ := this; exact ⟨vs, kF _ _ h2, h3.mono kF⟩
    | dct kvs =>
      obtain ⟨h1, ks, h2, h3, h4⟩ := this
      exact ⟨(upd_ne ne).trans h1, ks, k _ _ h2, h3, h4.mono kF⟩
    | dck kvs =>
      obtain ⟨h1, ks, h2, h3, h4⟩ := this
      exact ⟨(upd_ne ne).trans h1, ks, k _ _ h2, h3, h4.mono kF⟩
    | abs P => obtain ⟨xs, hP, h1, vs, h2, h3⟩ := this; exact ⟨xs, hP, (upd_ne ne).trans h1, vs, k _ _ h2, h3.mono kF⟩
    | tab P nm => exact ⟨this.1, this.2.to kF ((upd_ne ne).trans this.2.nf) fun _ z => k _ _ z⟩
    | own t => exact upd_live this
    | dead => exact upd_live this
theorem Ext.putF {K : PySem.W.Frag} {s0 s : Wd} {N0 : Nat} {μ : Mu} {p : Addr} {o : HO} (x : Ext s0 N0 s μ.length) (R : Rep K s μ) (hp : s.H p = none) : Ext s0 N0 { s with H := upd s.H p o, F := upd s.F p o } μ.length := by
  have kF : Same s.F (upd s.F p o) := fun a u q => by rw [upd_ne (ne_of_none q (R.notF hp))]; exact q
  have h0 := x.fresh R hp
  refine ⟨fun a u q => kF a u (x.f a u q), x.l, x.le, fun a u q hn => ?_, fun a h1 h2 h3 h4 => ?_, x.lnew, x.onew, fun a h => upd_live (x.alive a h)⟩
  · have q' := x.keep a u q hn
    show upd s.H p o a = some u
    rw [upd_ne (ne_of_none q' hp)]
    exact q'
  · show upd s.F p o a = none
    rw [upd_ne (fun z => h3 (by rw [z]; exact h0))]
    exact x.fnew a h1 h2 h3 h4
theorem de_tup {es : List Expr} {x1} {t : TDA} (h : DA X W es t) : DE X W (.Tuple es x1 pos) (dTup t) := by
  obtain ⟨t1, p1, g1⟩ := h.ex
  refine de_pe (pe_tup p1) fun s σ η μ Q q E S hq l lx => ?_
  refine g1 s σ η μ _ _ E S hq (fun es' μ1 vs s1 hq1 x1 R1 r1 => ?_) lx
  obtain ⟨ds, e1, hz, hq1⟩ := withDats_ex hq1
  have d := datsOf_rs r1 e1
  refine ⟨line_of (by rw [d.length]; exact hz), fun p hp => ?_⟩
  have kF : Same s1.F (upd s1.F p (.tup vs)) := fun a u q => by rw [upd_ne (ne_of_none q (R1.notF hp))]; exact q
  exact l (.dat (.tuple ds)) μ1 (.ref p) _ hq1 (x1.putF R1 hp) (R1.putF hp) (.tup upd_same (d.mono kF)) trivial
end
end DL
set_option Elab.async false
set_option linter.all false
set_option maxRecDepth 100000
set_option maxHeartbeats 4000000
namespace DL
open PySem L2
section
variable {X : Cx} {W : WX} {e a b c : Expr} {ta tb te : TDE} {pos : Pos} {rest : List Expr} {tA tB' : TDT}
/-! ### tests -/
def withB (e : EV) (k : Bool → Prop) : Prop := match e with
  | .dat (.bool b) => k b
  | _ => False
theorem withB_ex {e : EV} {k : Bool → Prop} (h : withB e k) : ∃ b, e = .dat (.bool b) ∧ k b := by
  unfold withB at h
  split at h
  · exact ⟨_, rfl, h⟩
  · exact h.elim
theorem vr_b {K : PySem.W.Frag} {s : Wd} {N : Nat} {v : V} {b : Bool} (r : VR K s N v (.dat (.bool b))) : v = .bl b := by
  have r' : DR K s.F v (.bool b) := r
  cases r'
  rfl
theorem vr_i {K : PySem.W.Frag} {s : Wd} {N : Nat} {v : V} {b : Int} (r : VR K s N v (.dat (.int b))) : v = .int b := by
  have r' : DR K s.F v (.int b) := r
  cases r'
  rfl
theorem vr_s {K : PySem.W.Frag} {s : Wd} {N : Nat} {v : V} {b : Str} (r : VR K s N v (.dat (.str b))) : v = .str b := by
  have r' : DR K s.F v (.str b) := r
  cases r'
  rfl
theorem vr_n {K : PySem.W.Frag} {s : Wd} {N : Nat} {v : V} (r : VR K s N v (.dat .none)) : v = .non := by
  have r' : DR K s.F v .none := r
  cases r'
  rfl
def tVal (t : TDE) : TDT := fun η μ q E => t η μ (fun e μ1 => withB e fun b => q b μ1) E
theorem dt_val (h : DE X W e te) (he : ∀ whole, isTrue e X.env whole = (do let v ← whole; standAt e.pos; holding [v] (truthy v)) := by intro _; rfl) : DT X W e (tVal te) := by
  obtain ⟨t, p, g⟩ := h.ex
  refine ⟨_, pt_val p he, fun s σ η μ Q q E S hq l lx => g s σ η μ _ _ E S hq (fun ev μ' v s' hk x R r f => ?_) lx⟩
  obtain ⟨b, rfl, hk⟩ := withB_ex hk
  exact ⟨b, vr_b r, l b μ' s' hk x R⟩
def tAndD (t u : TDT) : TDT := fun η μ q E => t η μ (fun b μ1 => if b = true then u η μ1 q E else q false μ1) E
def tOrD (t u : TDT) : TDT := fun η μ q E => t η μ (fun b μ1 => if b = true then q true μ1 else u η μ1 q E) E
def tNotD (t : TDT) : TDT := fun η μ q E => t η μ (fun b μ1 => q (!b) μ1) E
theorem dw_and1 (ha : DT X W a tA) : DW X W (.BoolOp .And [a] pos) tA := by
  obtain ⟨t, p, g⟩ := ha.ex
  exact ⟨t, pw_and1 p, g⟩
theorem dw_or1 (ha : DT X W a tA) : DW X W (.BoolOp .Or [a] pos) tA := by
  obtain ⟨t, p, g⟩ := ha.ex
  exact ⟨t, pw_or1 p, g⟩
theorem dw_and (ha : DT X W a tA) (hb : DW X W (.BoolOp .And (b :: rest) pos) tB') : DW X W (.BoolOp .And (a :: b :: rest) pos) (tAndD tA tB') := by
  obtain ⟨t, p, g⟩ := ha.ex
  obtain ⟨u, p2, g2⟩ := hb.ex
  refine ⟨_, pw_and p p2, fun s σ η μ Q q E S hq l lx => g s σ η μ _ _ E S hq (fun k μ' s' hk x R => ?_) lx⟩
  cases k with
  | true => exact g2 s' σ η μ' Q q E (S.go x R) hk (l.go x R) (lx.go x R)
  | false => exact l false μ' s' hk x R
theorem dw_or (ha : DT X W a tA) (hb : DW X W (.BoolOp .Or (b :: rest) pos) tB') : DW X W (.BoolOp .Or (a :: b :: rest) pos) (tOrD tA tB') := by
  obtain ⟨t, p, g⟩ := ha.ex
  obtain ⟨u, p2, g2⟩ := hb.ex
  refine ⟨_, pw_or p p2, fun s σ η μ Q q E S hq l lx => g s σ η μ _ _ E S hq (fun k μ' s' hk x R => ?_) lx⟩
  cases k with
  | true => exact l true μ' s' hk x R
  | false => exact g2 s' σ η μ' Q q E (S.go x R) hk (l.go x R) (lx.go x R)
theorem DW.dt (h : DW X W e tA) : DT X W e tA := by
  obtain ⟨t, p, g⟩ := h.ex
  exact ⟨t, p.pt, g⟩
theorem dt_not (ha : DT X W a tA) : DT X W (.UnaryOp .Not a pos) (tNotD tA) := by
  obtain ⟨t, p, g⟩ := ha.ex
  exact ⟨_, pt_not p, fun s σ η μ Q q E S hq l lx => g s σ η μ _ _ E S hq (fun k μ' s' hk x R => l (!k) μ' s' hk x R) lx⟩
/-! .. as values -/
def dAndV (t u : TDE) : TDE := fun η μ q E => t η μ (fun e μ1 => withB e fun b => if b = true then u η μ1 q E else q (.dat (.bool false)) μ1) E
def dOrV (t u : TDE) : TDE := fun η μ q E => t η μ (fun e μ1 => withB e fun b => if b = true then q (.dat (.bool true)) μ1 else u η μ1 q E) E
def dNotV (t : TDE) : TDE := fun η μ q E => t η μ (fun e μ1 => withB e fun b => q (.dat (.bool (!b))) μ1) E
theorem de_one {op} (h : DE X W a te) : DE X W (.BoolOp op [a] pos) te := by
  obtain ⟨t, p, g⟩ := h.ex
  exact ⟨t, pe_one p, g⟩
theorem de_and (ha : DE X W a ta) (hb : DE X W (.BoolOp .And (b :: rest) pos) tb) : DE X W (.BoolOp .And (a :: b :: rest) pos) (dAndV ta tb) := by
  obtain ⟨t, p, g⟩ := ha.ex
  obtain ⟨u, p2, g2⟩ := hb.ex
  refine de_pe (pe_and p p2) fun s σ η μ Q q E S hq l lx => g s σ η μ _ _ E S hq (fun ev μ' v s' hk x R r f => ?_) lx
  obtain ⟨k, rfl, hk⟩ := withB_ex hk
  refine ⟨k, vr_b r, ?_⟩
  cases k with
  | true => exact g2 s' σ η μ' Q q E (S.go x R) hk (l.go x R) (lx.go x R)
  | false => exact l _ μ' _ s' hk x R (.bl false) trivial
theorem de_or (ha : DE X W a ta) (hb : DE X W (.BoolOp .Or (b :: rest) pos) tb) : DE X W (.BoolOp .Or (a :: b :: rest) pos) (dOrV ta tb) := by
  obtain ⟨t, p, g⟩ := ha.ex
  obtain ⟨u, p2, g2⟩ := hb.ex
  refine de_pe (pe_or p p2) fun s σ η μ Q q E S hq l lx => g s σ η μ _ _ E S hq (fun ev μ' v s' hk x R r f => ?_) lx
  obtain ⟨k, rfl, hk⟩ := withB_ex hk
  refine ⟨k, vr_b r, ?_⟩
  cases k with
  | true => exact l _ μ' _ s' hk x R (.bl true) trivial
  | false => exact g2 s' σ η μ' Q q E (S.go x R) hk (l.go x R) (lx.go x R)
theorem de_not (ha : DE X W a ta) : DE X W (.UnaryOp .Not a pos) (dNotV ta) := by
  obtain ⟨t, p, g⟩ := ha.ex
  refine de_pe (pe_not p) fun s σ η μ Q q E S hq l lx => g s σ η μ _ _ E S hq (fun ev μ' v s' hk x R r f => ?_) lx
  obtain ⟨k, rfl, hk⟩ := withB_ex hk
  exact ⟨k, vr_b r, l _ μ' _ s' hk x R (.bl _) trivial⟩
/-! ### operators, by values -/
abbrev OD := EV → EV → Mu → PQ → Prop
def OpS (K : PySem.W.Frag) (r : R2) (o : OD) : Prop := ∀ (s0 : Wd) (N0 : Nat) (s : Wd) (μ : Mu) (x y : V) (ex ey : EV) (q : PQ) (Q : VK), Rep K s μ → Ext s0 N0 s μ.length → VR K s μ.length x ex → Frsh s0.H x ex → VR K s μ.length y ey → Frsh s0.H y ey →
  o ex ey μ q → LE K s0 N0 q Q → r x y s.H Q
def dOp (o : OD) (ta tb : TDE) : TDE := fun η μ q E => ta η μ (fun x μ1 => tb η μ1 (fun y μ2 => o x y μ2 q) E) E
theorem de_op {op : Operator} {r : R2} {o : OD} (ho : OpR X (binaryOp op) r) (hs : OpS X.K r o) (ha : DE X W a ta) (hb : DE X W b tb) : DE X W (.BinOp a op b pos) (dOp o ta tb) := by
  obtain ⟨t1, p1, g1⟩ := ha.ex
  obtain ⟨t2, p2, g2⟩ := hb.ex
  refine de_pe (pe_op ho p1 p2) fun s σ η μ Q q E S hq l lx => g1 s σ η μ _ _ E S hq (fun ex μ1 x s1 hk1 x1 R1 r1 f1 => ?_) lx
  refine g2 s1 σ η μ1 _ _ E (S.go x1 R1) hk1 (fun ey μ2 y s2 hk2 x2 R2 r2 f2 => ?_) (lx.go x1 R1)
  have h1 := fun n (hn : n < μ1.length) => R1.here hn
  exact hs s _ s2 μ2 x y ex ey q Q R2 (x1.trans x2 h1) (r1.ext x2) f1 r2 (f2.back (K := X.K) x1 h1) hk2 l
theorem de_cmp {op : CmpOp} {r : R2} {o : OD} (ho : OpR X (compareOp op) r) (hs : OpS X.K r o) (ha : DE X W a ta) (hb : DE X W b tb) (hm : behindInMarks op b = false) : DE X W (.Compare a [op] [b] pos) (dOp o ta tb) := by
  obtain ⟨t1, p1, g1⟩ := ha.ex
  obtain ⟨t2, p2, g2⟩ := hb.ex
  refine de_pe (pe_cmpR ho p1 p2 hm) fun s σ η μ Q q E S hq l lx => g1 s σ η μ _ _ E S hq (fun ex μ1 x s1 hk1 x1 R1 r1 f1 => ?_) lx
  refine g2 s1 σ η μ1 _ _ E (S.go x1 R1) hk1 (fun ey μ2 y s2 hk2 x2 R2 r2 f2 => ?_) (lx.go x1 R1)
  have h1 := fun n (hn : n < μ1.length) => R1.here hn
  exact hs s _ s2 μ2 x y ex ey q Q R2 (x1.trans x2 h1) (r1.ext x2) f1 r2 (f2.back (K := X.K) x1 h1) hk2 l
theorem dt_cmp {op : CmpOp} {r : R2} {o : OD} (ho : OpR X (compareOp op) r) (hs : OpS X.K r o) (ha : DE X W a ta) (hb : DE X W b tb) (hm : behindInMarks op b = false) : DT X W (.Compare a [op] [b] pos) (tVal (dOp o ta tb)) := by
  obtain ⟨t1, p1, g1⟩ := ha.ex
  obtain ⟨t2, p2, g2⟩ := hb.ex
  refine ⟨_, pt_cmpR ho p1 p2 hm, fun s σ η μ Q q E S hq l lx => g1 s σ η μ _ _ E S hq (fun ex μ1 x s1 hk1 x1 R1 r1 f1 => ?_) lx⟩
  refine g2 s1 σ η μ1 _ _ E (S.go x1 R1) hk1 (fun ey μ2 y s2 hk2 x2 R2 r2 f2 => ?_) (lx.go x1 R1)
  have h1 := fun n (hn : n < μ1.length) => R1.here hn
  refine hs s _ s2 μ2 x y ex ey _ _ R2 (x1.trans x2 h1) (r1.ext x2) f1 r2 (f2.back (K := X.K) x1 h1) hk2 fun ev μ' v s' hk x' R r f => ?_
  obtain ⟨k, rfl, hk⟩ := withB_ex hk
  exact ⟨k, vr_b r, l k μ' s' hk x' R⟩
def noNew : EV → Bool
  | .new _ => false
  | .newd _ => false
  | .newk _ => false
  | .newo _ => false
  | _ => true
theorem frsh_of {H : Hp} {v : V} {e : EV} (h : noNew e = true) : Frsh H v e := by
  cases e with
  | new _ => cases h
  | newd _ => cases h
  | newk _ => cases h
  | newo _ => cases h
  | _ => trivial
/-- a < b < c -/
def dChain (o o' : OD) (ta tb tc : TDE) : TDE := fun η μ q E => ta η μ (fun x μ1 => tb η μ1 (fun y μ2 => noNew x = true ∧ noNew y = true ∧ o x y μ2 fun z μ3 => withB z fun k => if k = true then tc η μ3 (fun w μ4 => o' y w μ4 q) E else q (.dat (.bool false)) μ3) E) E
theorem chain_ok {r r' : R2} {o o' : OD} {tc : TDE} {t1 t2 t3 : TE} (hs : OpS X.K r o) (hs' : OpS X.K r' o')
    (g1 : ∀ (s : Wd) (σ : L2.St) (η : DEnv) (μ : Mu) (Q : VK) (q : PQ) (E : XQ), Sit X.K s μ σ η → ta η μ q E → LE X.K s μ.length q Q → LX X.K s μ.length σ E W → t1 σ s.H Q)
    (g2 : ∀ (s : Wd) (σ : L2.St) (η : DEnv) (μ : Mu) (Q : VK) (q : PQ) (E : XQ), Sit X.K s μ σ η → tb η μ q E → LE X.K s μ.length q Q → LX X.K s μ.length σ E W → t2 σ s.H Q)
    (g3 : ∀ (s : Wd) (σ : L2.St) (η : DEnv) (μ : Mu) (Q : VK) (q : PQ) (E : XQ), Sit X.K s μ σ η → tc η μ q E → LE X.K s μ.length q Q → LX X.K s μ.length σ E W → t3 σ s.H Q)
    (s : Wd) (σ : L2.St) (η : DEnv) (μ : Mu) (Q : VK) (q : PQ) (E : XQ) (S : Sit X.K s μ σ η) (hq : dChain o o' ta tb tc η μ q E) (l : LE X.K s μ.length q Q) (lx : LX X.K s μ.length σ E W) : tChain r r' t1 t2 t3 σ s.H Q := by
  refine g1 s σ η μ _ _ E S hq (fun ex μ1 x s1 hk1 x1 R1 r1 f1 => ?_) lx
  refine g2 s1 σ η μ1 _ _ E (S.go x1 R1) hk1 (fun ey μ2 y s2 hk2 x2 R2 r2 f2 => ?_) (lx.go x1 R1)
  obtain ⟨nx, ny, hk2⟩ := hk2
  have h1 := fun n (hn : n < μ1.length) => R1.here hn
  have x12 := x1.trans x2 h1
  refine hs s2 _ s2 μ2 x y ex ey _ _ R2 (Ext.refl _ _) (r1.ext x2) (frsh_of nx) r2 (frsh_of ny) hk2 fun ez μ3 z s3 hk3 x3 R3 r3 f3 => ?_
  obtain ⟨k, rfl, hk3⟩ := withB_ex hk3
  refine ⟨k, vr_b r3, ?_⟩
  have h2 := fun n (hn : n < μ2.length) => R2.here hn
  have x13 := x12.trans x3 h2
  cases k with
  | false => exact l _ μ3 _ s3 hk3 x13 R3 (.bl false) trivial
  | true =>
    refine g3 s3 σ η μ3 _ _ E (S.go x13 R3) hk3 (fun ew μ4 w s4 hk4 x4 R4 r4 f4 => ?_) (lx.go x13 R3)
    exact hs' s3 _ s4 μ4 y w ey ew q Q R4 x4 ((r2.ext x3).ext x4) (frsh_of ny) r4 f4 hk4 (l.go x13 R3)
theorem de_chain {op op' : CmpOp} {r r' : R2} {o o' : OD} {tc : TDE} (ho : OpR X (compareOp op) r) (hs : OpS X.K r o) (ho' : OpR X (compareOp op') r') (hs' : OpS X.K r' o') (ha : DE X W a ta) (hb : DE X W b tb) (hc : DE X W c tc)
    (hm : lastMarks [op, op'] [b, c] = false := by with_unfolding_all rfl) : DE X W (.Compare a [op, op'] [b, c] pos) (dChain o o' ta tb tc) := by
  obtain ⟨t1, p1, g1⟩ := ha.ex
  obtain ⟨t2, p2, g2⟩ := hb.ex
  obtain ⟨t3, p3, g3⟩ := hc.ex
  exact de_pe (pe_chain ho ho' p1 p2 p3 hm) (chain_ok hs hs' g1 g2 g3)
theorem dt_chain {op op' : CmpOp} {r r' : R2} {o o' : OD} {tc : TDE} (ho : OpR X (compareOp op) r) (hs : OpS X.K r o) (ho' : OpR X (compareOp op') r') (hs' : OpS X.K r' o') (ha : DE X W a ta) (hb : DE X W b tb) (hc : DE X W c tc)
    (hm : lastMarks [op, op'] [b, c] = false := by with_unfolding_all rfl) : DT X W (.Compare a [op, op'] [b, c] pos) (tVal (dChain o o' ta tb tc)) := by
  obtain ⟨t1, p1, g1⟩ := ha.ex
  obtain ⟨t2, p2, g2⟩ := hb.ex
  obtain ⟨t3, p3, g3⟩ := hc.ex
  refine ⟨_, pt_chain ho ho' p1 p2 p3 hm, fun s σ η μ Q q E S hq l lx => ?_⟩
  refine chain_ok hs hs' g1 g2 g3 s σ η μ _ _ E S hq (fun ev μ' v s' hk x R r f => ?_) lx
  obtain ⟨k, rfl, hk⟩ := withB_ex hk
  exact ⟨k, vr_b r, l k μ' s' hk x R⟩
/-! ### one-place operators, built-in calls by values -/
abbrev UD := EV → Mu → PQ → Prop
def UnS (K : PySem.W.Frag) (r : V → Hp → VK → Prop) (o : UD) : Prop := ∀ (s0 : Wd) (N0 : Nat) (s : Wd) (μ : Mu) (x : V) (ex : EV) (q : PQ) (Q : VK), Rep K s μ → Ext s0 N0 s μ.length → VR K s μ.length x ex → Frsh s0.H x ex → o ex μ q → LE K s0 N0 q Q → r x s.H Q
def dUn (o : UD) (ta : TDE) : TDE := fun η μ q E => ta η μ (fun x μ1 => o x μ1 q) E
theorem de_un {op : UnaryOp} {r : V → Hp → VK → Prop} {o : UD} (ho : UnR X (unaryOp op) r) (hs : UnS X.K r o) (ha : DE X W a ta) : DE X W (.UnaryOp op a pos) (dUn o ta) := by
  obtain ⟨t1, p1, g1⟩ := ha.ex
  exact de_pe (pe_un ho p1) fun s σ η μ Q q E S hq l lx => g1 s σ η μ _ _ E S hq (fun ex μ1 x s1 hk1 x1 R1 r1 f1 => hs s _ s1 μ1 x ex q Q R1 x1 r1 f1 hk1 l) lx
abbrev CD := List EV → Mu → PQ → Prop
def CallS (K : PySem.W.Frag) (r : List V → Hp → VK → Prop) (o : CD) : Prop := ∀ (s0 : Wd) (N0 : Nat) (s : Wd) (μ : Mu) (xs : List V) (es : List EV) (q : PQ) (Q : VK), Rep K s μ → Ext s0 N0 s μ.length → VRs K s μ.length s0.H xs es → o es μ q → LE K s0 N0 q Q → r xs s.H Q
def dCB (o : CD) (t : TDA) : TDE := fun η μ q E => t η μ (fun es μ1 => o es μ1 q) E
theorem de_callB {id : String} {x : Str} {p : Pos} {es : List Expr} {t : TDA} {r : List V → Hp → VK → Prop} {o : CD} (hc : CallR X (.builtin id) r) (hs : CallS X.K r o) (hg : Gl X x) (hm : X.mg x = none) (hv : bootBuiltins x = some (.builtin id)) (ha : DA X W (e :: es) t) (hn : x ≠ "__name__" := by decide) (hdb : (x == ("__debug__" : Str)) = false := by decide)
    (he : starEach (e :: es) X.env = (false, eval e X.env) :: starEach es X.env := by rfl) (hpl : (backTo pos (starEach es X.env)).any (·.1) = false := by rfl) : DE X W (.Call (.Name x p) (e :: es) [] pos) (dCB o t) := by
  obtain ⟨t1, p1, g1⟩ := ha.ex
  exact de_pe (pe_callB hc hg hm hv p1 hn hdb he hpl) fun s σ η μ Q q E S hq l lx => g1 s σ η μ _ _ E S hq (fun ex μ1 x s1 hk1 x1 R1 r1 => hs s _ s1 μ1 x ex q Q R1 x1 r1 hk1 l) lx
theorem de_callTy {T : String} {x : Str} {p : Pos} {es : List Expr} {t : TDA} {r : List V → Hp → VK → Prop} {o : CD} (hc : CallR X (.type T) r) (hs : CallS X.K r o) (hg : Gl X x) (hm : X.mg x = none) (hv : bootBuiltins x = some (.type T)) (ha : DA X W (e :: es) t) (hn : x ≠ "__name__" := by decide) (hdb : (x == ("__debug__" : Str)) = false := by decide)
    (he : starEach (e :: es) X.env = (false, eval e X.env) :: starEach es X.env := by rfl) (hpl : (backTo pos (starEach es X.env)).any (·.1) = false := by rfl) : DE X W (.Call (.Name x p) (e :: es) [] pos) (dCB o t) := by
  obtain ⟨t1, p1, g1⟩ := ha.ex
  exact de_pe (pe_callTy hc hg hm hv p1 hn hdb he hpl) fun s σ η μ Q q E S hq l lx => g1 s σ η μ _ _ E S hq (fun ex μ1 x s1 hk1 x1 R1 r1 => hs s _ s1 μ1 x ex q Q R1 x1 r1 hk1 l) lx
/-! ### subscripts, slices, methods of built-in types -/
theorem de_ix {r : R2} {o : OD} (hr : IxR X r) (hs : OpS X.K r o) (ha : DE X W a ta) (hb : DE X W b tb) (hp : PlainIx b) : DE X W (.Subscript a b pos) (dOp o ta tb) := by
  obtain ⟨t1, p1, g1⟩ := ha.ex
  obtain ⟨t2, p2, g2⟩ := hb.ex
  refine de_pe (pe_ix hr p1 p2 hp) fun s σ η μ Q q E S hq l lx => g1 s σ η μ _ _ E S hq (fun ex μ1 x s1 hk1 x1 R1 r1 f1 => ?_) lx
  refine g2 s1 σ η μ1 _ _ E (S.go x1 R1) hk1 (fun ey μ2 y s2 hk2 x2 R2 r2 f2 => ?_) (lx.go x1 R1)
  have h1 := fun n (hn : n < μ1.length) => R1.here hn
  exact hs s _ s2 μ2 x y ex ey q Q R2 (x1.trans x2 h1) (r1.ext x2) f1 r2 (f2.back (K := X.K) x1 h1) hk2 l
abbrev TDO := DEnv → Mu → (Option Int → Mu → Prop) → XQ → Prop
structure DO (X : Cx) (W : WX) (e : Option Expr) (td : TDO) : Prop where
  ex : ∃ t : TO, PO X e t ∧ ∀ (s : Wd) (σ : L2.St) (η : DEnv) (μ : Mu) (Q : Option Int → Hp → Prop) (q : Option Int → Mu → Prop) (E : XQ), Sit X.K s μ σ η → td η μ q E →
    (∀ (o : Option Int) (μ' : Mu) (s' : Wd), q o μ' → Ext s μ.length s' μ'.length → Rep X.K s' μ' → Q o s'.H) → LX X.K s μ.length σ E W → t σ s.H Q
def oNo : TDO := fun _ μ q _ => q none μ
def oSome (t : TDE) : TDO := fun η μ q E => t η μ (fun e μ1 => match e with | .dat (.int i) => q (some i) μ1 | _ => False) E
theorem do_none : DO X W none oNo := ⟨_, po_none, fun s σ η μ Q q E S hq l lx => l none μ s hq (Ext.refl _ _) S.rep⟩
theorem do_some (h : DE X W e te) : DO X W (some e) (oSome te) := by
  obtain ⟨t1, p1, g1⟩ := h.ex
  refine ⟨_, po_some p1, fun s σ η μ Q q E S hq l lx => g1 s σ η μ _ _ E S hq (fun ex μ1 x s1 hk1 x1 R1 r1 f1 => ?_) lx⟩
  split at hk1
  · exact ⟨_, vr_i r1, l _ _ _ hk1 x1 R1⟩
  · exact hk1.elim
abbrev SD := EV → Option Int → Option Int → Mu → PQ → Prop
def SlS (K : PySem.W.Frag) (r : V → Option Int → Option Int → Hp → VK → Prop) (o : SD) : Prop := ∀ (s0 : Wd) (N0 : Nat) (s : Wd) (μ : Mu) (x : V) (ex : EV) (lo hi : Option Int) (q : PQ) (Q : VK), Rep K s μ → Ext s0 N0 s μ.length → VR K s μ.length x ex → Frsh s0.H x ex → o ex lo hi μ q → LE K s0 N0 q Q → r x lo hi s.H Q
def dSl (o : SD) (te : TDE) (tl th : TDO) : TDE := fun η μ q E => te η μ (fun x μ1 => tl η μ1 (fun l μ2 => th η μ2 (fun h μ3 => o x l h μ3 q) E) E) E
theorem de_slice {r : V → Option Int → Option Int → Hp → VK → Prop} {o : SD} {lo hi : Option Expr} {tl th : TDO} {p2 : Pos} (hr : SlR X r) (hs : SlS X.K r o) (ha : DE X W a ta) (hl : DO X W lo tl) (hh : DO X W hi th) : DE X W (.Subscript a (.Slice lo hi none p2) pos) (dSl o ta tl th) := by
  obtain ⟨t1, p1, g1⟩ := ha.ex
  obtain ⟨t2, p2, g2⟩ := hl.ex
  obtain ⟨t3, p3, g3⟩ := hh.ex
  refine de_pe (pe_slice hr p1 p2 p3) fun s σ η μ Q q E S hq l lx => g1 s σ η μ _ _ E S hq (fun ex μ1 x s1 hk1 x1 R1 r1 f1 => ?_) lx
  have h1 := fun n (hn : n < μ1.length) => R1.here hn
  refine g2 s1 σ η μ1 _ _ E (S.go x1 R1) hk1 (fun olo μ2 s2 hk2 x2 R2 => ?_) (lx.go x1 R1)
  have x12 := x1.trans x2 h1
  have h2 := fun n (hn : n < μ2.length) => R2.here hn
  refine g3 s2 σ η μ2 _ _ E (S.go x12 R2) hk2 (fun ohi μ3 s3 hk3 x3 R3 => ?_) (lx.go x12 R2)
  exact hs s _ s3 μ3 x ex olo ohi q Q R3 (x12.trans x3 h2) ((r1.ext x2).ext x3) f1 hk3 l
end
end DL
set_option Elab.async false
set_option linter.all false
set_option maxRecDepth 100000
set_option maxHeartbeats 4000000
namespace DL
open PySem L2
section
variable {X : Cx} {W : WX} {st : Stmt} {rest : List Stmt} {e eo ei : Expr} {te ti : TDE} {tA : TDT} {t u : TDS} {pos : Pos}
/-! ### blocks and small statements -/
def sNext : TDS := fun d _ η μ => d.nx η μ
def sSeq (t u : TDS) : TDS := fun d E η μ => t { d with nx := u d E } E η μ
theorem dss_nil : DSs X W [] sNext := ⟨_, pss_nil, fun s σ η μ D d E S hq l => l.nx η μ σ s hq (Ext.refl _ _) S⟩
theorem dss_cons (h1 : DS X W st t) (h2 : DSs X W rest u) : DSs X W (st :: rest) (sSeq t u) := by
  obtain ⟨t1, p1, g1⟩ := h1.ex
  obtain ⟨t2, p2, g2⟩ := h2.ex
  refine ⟨_, pss_cons p1 p2, fun s σ η μ D d E S hq l => g1 s σ η μ _ _ E S hq ⟨fun η' μ' σ' s' hk x S' => ?_, l.rt, l.bk, l.ct, l.xq⟩⟩
  exact g2 s' σ' η' μ' D d E S' hk (l.go x S'.rep)
theorem dss_one (h1 : DS X W st t) : DSs X W [st] t := by
  obtain ⟨t1, p1, g1⟩ := h1.ex
  exact ⟨_, pss_one p1, g1⟩
def sDrop (t : TDE) : TDS := fun d E η μ => t η μ (fun _ μ1 => d.nx η μ1) E
theorem ds_expr (h : DE X W e te) (hs : swapsWith e none pos.line X.env = pure false := by rfl) : DS X W (.Expr e pos) (sDrop te) := by
  obtain ⟨t1, p1, g1⟩ := h.ex
  exact ⟨_, ps_expr p1 hs, fun s σ η μ D d E S hq l => g1 s σ η μ _ _ E S hq (fun ev μ1 v s1 hk x R r f => l.nx η μ1 σ s1 hk x (S.go x R)) (l.lx σ)⟩
def sRet (t : TDE) : TDS := fun d E η μ => t η μ d.rt E
theorem ds_ret (h : DE X W e te) : DS X W (.Return (some e) pos) (sRet te) := by
  obtain ⟨t1, p1, g1⟩ := h.ex
  exact ⟨_, ps_ret p1, fun s σ η μ D d E S hq l => g1 s σ η μ _ _ E S hq l.rt (l.lx σ)⟩
def sRetN : TDS := fun d _ _ μ => d.rt (.dat .none) μ
def sIf (c : TDT) (t u : TDS) : TDS := fun d E η μ => c η μ (fun b μ1 => if b = true then t d E η μ1 else u d E η μ1) E
theorem ds_if {c : Expr} {a b : List Stmt} (hc : DT X W c tA) (ha : DSs X W a t) (hb : DSs X W b u) : DS X W (.If c a b pos) (sIf tA t u) := by
  obtain ⟨tc, p, g⟩ := hc.ex
  obtain ⟨t1, p1, g1⟩ := ha.ex
  obtain ⟨t2, p2, g2⟩ := hb.ex
  refine ⟨_, ps_if p p1 p2, fun s σ η μ D d E S hq l => g s σ η μ _ _ E S hq (fun k μ' s' hk x R => ?_) (l.lx σ)⟩
  cases k with
  | true => exact g1 s' σ η μ' D d E (S.go x R) hk (l.go x R)
  | false => exact g2 s' σ η μ' D d E (S.go x R) hk (l.go x R)
/-! ### targets -/
abbrev TDG := EV → DEnv → Mu → (DEnv → Mu → Prop) → Prop
/-- only the slots is are other ones -/
def Only (is : List Nat) (σ σ' : L2.St) : Prop := σ'.length = σ.length ∧ ∀ j, j ∉ is → σ'[j]? = σ[j]?
def LGo (K : PySem.W.Frag) (s : Wd) (N : Nat) (is : List Nat) (σ : L2.St) (q : DEnv → Mu → Prop) (Q : L2.St → Hp → Prop) : Prop := ∀ (η' : DEnv) (μ' : Mu) (σ' : L2.St) (s' : Wd), q η' μ' → Ext s N s' μ'.length → Sit K s' μ' σ' η' → Only is σ σ' → Q σ' s'.H
theorem Only.refl {is : List Nat} (σ : L2.St) : Only is σ σ := ⟨rfl, fun _ _ => rfl⟩
theorem Only.set {is : List Nat} (σ : L2.St) (i : Nat) (o : Option V) (h : i ∈ is) : Only is σ (σ.set i o) := ⟨by simp, fun j hj => List.getElem?_set_ne fun e => hj (by rw [← e]; exact h)⟩
theorem Only.trans {is js : List Nat} {σ σ1 σ2 : L2.St} (a : Only is σ σ1) (b : Only js σ1 σ2) : Only (is ++ js) σ σ2 := ⟨b.1.trans a.1, fun j hj => (b.2 j fun h => hj (List.mem_append_right _ h)).trans (a.2 j fun h => hj (List.mem_append_left _ h))⟩
structure DG (X : Cx) (target : Expr) (is : List Nat) (td : TDG) : Prop where
  ex : ∃ g : TG, PG X target g ∧ ∀ (s : Wd) (σ : L2.St) (η : DEnv) (μ : Mu) (v : V) (e : EV) (Q : L2.St → Hp → Prop) (q : DEnv → Mu → Prop), Sit X.K s μ σ η → VR X.K s μ.length v e → td e η μ q → LGo X.K s μ.length is σ q Q → g v σ s.H Q
def gNm (i : Nat) : TDG := fun e η μ q => noNew e = true ∧ q (η.set i (some e)) μ
theorem dg_name {i : Nat} {x : Str} (hN : X.N.Nodup) (hi : X.N[i]? = some x) (hx : Loc X.env.scope x) (hf : X.fn x = true ∨ X.env.scope.names.lookup x = some .local := by first | exact .inl rfl | exact .inr rfl | assumption) : DG X (.Name x pos) [i] (gNm i) :=
  ⟨_, pg_name hN hi hx hf, fun s σ η μ v e Q q S r hq l => l _ μ _ s hq.2 (Ext.refl _ _) ⟨S.rep, S.er.set i r⟩ (Only.set σ i _ (by simp))⟩
abbrev TDGs := List PyData → DEnv → Mu → (DEnv → Mu → Prop) → Prop
structure DGs (X : Cx) (ts : List Expr) (is : List Nat) (td : TDGs) : Prop where
  ex : ∃ g : TGs, PGs X ts g ∧ ∀ (s : Wd) (σ : L2.St) (η : DEnv) (μ : Mu) (vs : List V) (ds : List PyData) (Q : L2.St → Hp → Prop) (q : DEnv → Mu → Prop), Sit X.K s μ σ η → DRs X.K s.F vs ds → td ds η μ q → LGo X.K s μ.length is σ q Q → g vs σ s.H Q
def gNl : TDGs := fun ds η μ q => ds = [] ∧ q η μ
def gCn (t : TDG) (u : TDGs) : TDGs := fun ds η μ q => match ds with
  | d :: r => t (.dat d) η μ fun η' μ' => u r η' μ' q
  | [] => False
theorem dgs_nil : DGs X [] [] gNl := ⟨_, pgs_nil, fun s σ η μ vs ds Q q S r hq l => by
  obtain ⟨rfl, hq⟩ := hq
  cases r
  exact ⟨rfl, l η μ σ s hq (Ext.refl _ _) S (Only.refl σ)⟩⟩
theorem dgs_cons {e : Expr} {es : List Expr} {is js : List Nat} {t : TDG} {u : TDGs} (h1 : DG X e is t) (h2 : DGs X es js u) (hs : (assignEach (e :: es) X.env).map (·.2) = assign e X.env :: (assignEach es X.env).map (·.2) := by rfl) : DGs X (e :: es) (is ++ js) (gCn t u) := by
  obtain ⟨t1, p1, g1⟩ := h1.ex
  obtain ⟨t2, p2, g2⟩ := h2.ex
  refine ⟨_, pgs_cons p1 p2 hs, fun s σ η μ vs ds Q q S r hq l => ?_⟩
  cases r with
  | nil => exact hq.elim
  | cons r rr =>
    refine ⟨_, _, rfl, g1 s σ η μ _ (.dat _) _ _ S r hq fun η' μ' σ' s' hk x S' o => ?_⟩
    exact g2 s' σ' η' μ' _ _ Q q S' (rr.mono x.f) hk fun η2 μ2 σ2 s2 hk2 x2 S2 o2 => l η2 μ2 σ2 s2 hk2 (x.trans x2 fun n hn => S'.rep.here hn) S2 (o.trans o2)
/-- (a, b, ..) = a tuple that is data -/
def gTp (n : Nat) (t : TDGs) : TDG := fun e η μ q => match e with
  | .dat (.tuple ds) => ds.length = n ∧ t ds η μ q
  | _ => False
theorem dg_tup {es : List Expr} {k : Nat} {is : List Nat} {t : TDGs} {n : Nat} (hc : X.calm = true) (h : DGs X es is t) (hn : (assignEach es X.env).length = n := by rfl) (hst : (assignEach es X.env).findIdx? (·.1) = none := by rfl) : DG X (.Tuple es k pos) is (gTp n t) := by
  obtain ⟨t1, p1, g1⟩ := h.ex
  refine ⟨_, pg_tup hc p1 hn hst, fun s σ η μ v e Q q S r hq l => ?_⟩
  unfold gTp at hq
  split at hq
  · rename_i ds
    have r' : DR X.K s.F v (.tuple ds) := r
    cases r' with
    | tup h hs => exact ⟨_, _, rfl, SqT.of (S.rep.sub _ _ h), by rw [hs.length]; exact hq.1, g1 s σ η μ _ _ Q q S hs hq.2 l⟩
  · exact hq.elim
/-- target = value -/
def sAsg (t : TDE) (g : TDG) : TDS := fun d E η μ => t η μ (fun e μ1 => g e η μ1 d.nx) E
theorem ds_asg {tg : Expr} {is : List Nat} {g : TDG} (he : DE X W e te) (hg : DG X tg is g) (hs : swapsWithSole [tg] e pos.line X.env = pure false := by rfl) (hw : swappedStores [tg] e X.env = pure none := by rfl)
    (h1 : (assignEach [tg] X.env).map (·.2) = [assign tg X.env] := by rfl) : DS X W (.Assign [tg] e pos) (sAsg te g) := by
  obtain ⟨t1, p1, g1⟩ := he.ex
  obtain ⟨t2, p2, g2⟩ := hg.ex
  refine ⟨_, ps_asg p1 p2 hs hw h1, fun s σ η μ D d E S hq l => g1 s σ η μ _ _ E S hq (fun ev μ1 v s1 hk x R r f => ?_) (l.lx σ)⟩
  exact g2 s1 σ η μ1 v ev _ _ (S.go x R) r hk fun η' μ' σ' s' hk' x' S' _ => l.nx η' μ' σ' s' hk' (x.trans x' fun n hn => R.here hn) S'
theorem ds_set {i : Nat} {x : Str} {pos' : Pos} (hN : X.N.Nodup) (hi : X.N[i]? = some x) (hx : Loc X.env.scope x) (he : DE X W e te) (hs : swapsWith e (some (.Name x pos')) pos.line X.env = pure false := by rfl) (hf : X.fn x = true ∨ X.env.scope.names.lookup x = some .local := by first | exact .inl rfl | exact .inr rfl | assumption) :
    DS X W (.Assign [.Name x pos'] e pos) (sAsg te (gNm i)) := by
  obtain ⟨t1, p1, g1⟩ := he.ex
  refine ⟨_, ps_set hN hi hx p1 hs hf, fun s σ η μ D d E S hq l => g1 s σ η μ _ _ E S hq (fun ev μ1 v s1 hk x R r f => ?_) (l.lx σ)⟩
  have S1 := S.go x R
  exact l.nx _ μ1 _ s1 hk.2 x ⟨R, S1.er.set i r⟩
/-- a, b = x, y (local names): data -/
def sPar (i j : Nat) (t : TDA) : TDS := fun d E η μ => t η μ (fun es μ1 => match es with
  | [e1, e2] => noNew e1 = true ∧ noNew e2 = true ∧ d.nx ((η.set i (some e1)).set j (some e2)) μ1
  | _ => False) E
theorem ds_par {i j : Nat} {x y : Str} {a b : Expr} {ta : TDA} {px py pt : Pos} {kt k2 pt2} (hc : X.calm = true) (hN : X.N.Nodup) (hi : X.N[i]? = some x) (hj : X.N[j]? = some y) (hij : i ≠ j)
    (hx : X.env.scope.names.lookup x = some .local) (hy : X.env.scope.names.lookup y = some .local) (ha : DA X W [a, b] ta)
    (hw : swappedStores [.Tuple [.Name x px, .Name y py] kt pt] (.Tuple [a, b] k2 pt2) X.env = pure (some [x, y]))
    (hs : swapsWithSole [.Tuple [.Name x px, .Name y py] kt pt] (.Tuple [a, b] k2 pt2) pos.line X.env = pure false := by rfl) :
    DS X W (.Assign [.Tuple [.Name x px, .Name y py] kt pt] (.Tuple [a, b] k2 pt2) pos) (sPar i j ta) := by
  obtain ⟨t1, p1, g1⟩ := ha.ex
  refine ⟨_, ps_par hc hN hi hj hij hx hy p1 hw hs, fun s σ η μ D d E S hq l => g1 s σ η μ _ _ E S hq (fun es μ1 vs s1 hk x R r => ?_) (l.lx σ)⟩
  split at hk
  · cases r with
    | cons r1 f1 rr =>
      cases rr with
      | cons r2 f2 rr =>
        cases rr
        exact ⟨_, _, rfl, l.nx _ μ1 _ s1 hk.2.2 x ⟨R, ((S.go x R).er.set i r1).set j r2⟩⟩
  · exact hk.elim
/-- name op= e -/
def sAug (i : Nat) (te : TDE) (o : OD) : TDS := fun d E η μ => match η[i]? with
  | some (some x) => noNew x = true ∧ te η μ (fun y μ1 => o x y μ1 fun z μ2 => noNew z = true ∧ d.nx (η.set i (some z)) μ2) E
  | _ => False
/-- o[i] = v, by values -/
abbrev SetD := EV → EV → EV → Mu → (Mu → Prop) → Prop
def SetS (K : PySem.W.Frag) (r : TSet) (o : SetD) : Prop := ∀ (s0 : Wd) (N0 : Nat) (s : Wd) (μ : Mu) (x y z : V) (ex ey ez : EV) (q : Mu → Prop) (Q : Hp → Prop), Rep K s μ → Ext s0 N0 s μ.length → VR K s μ.length x ex → VR K s μ.length y ey → VR K s μ.length z ez →
  o ex ey ez μ q → (∀ (μ' : Mu) (s' : Wd), q μ' → Ext s0 N0 s' μ'.length → Rep K s' μ' → Q s'.H) → r x y z s.H Q
def gSb (to ti : TDE) (o : SetD) : TDG := fun e η μ q => to η μ (fun x μ1 => ti η μ1 (fun y μ2 => o x y e μ2 fun μ3 => q η μ3) fun _ _ => False) fun _ _ => False
theorem dg_sub {to : TDE} {r : TSet} {os : SetD} (ho : DE X W eo to) (hi : DE X W ei ti) (hr : PSet X r) (hs : SetS X.K r os)
    (ha : ∀ v, assign (.Subscript eo ei pos) X.env v = (do
      let ov ← holding [v] (eval eo X.env)
      let iv ← holding [v, ov] (eval ei X.env)
      standAt pos
      holding [v, ov, iv] (setItem ov iv v)
      release [v, ov, iv] []) := by intro _; rfl) : DG X (.Subscript eo ei pos) [] (gSb to ti os) := by
  obtain ⟨t1, p1, g1⟩ := ho.ex
  obtain ⟨t2, p2, g2⟩ := hi.ex
  refine ⟨_, pg_sub p1 p2 hr ha, fun s σ η μ v e Q q S r0 hq l => ?_⟩
  refine g1 s σ η μ _ _ _ S hq (fun ex μ1 x s1 hk1 x1 R1 r1 f1 => ?_) LX.none
  refine g2 s1 σ η μ1 _ _ _ (S.go x1 R1) hk1 (fun ey μ2 y s2 hk2 x2 R2 r2 f2 => ?_) LX.none
  have h1 := fun n (hn : n < μ1.length) => R1.here hn
  have x12 := x1.trans x2 h1
  exact hs s _ s2 μ2 x y v ex ey e _ _ R2 x12 (r1.ext x2) r2 (r0.ext x12) hk2 fun μ' s' hk x' R' => l η μ' σ s' hk x' (S.go x' R') (Only.refl σ)
/-! ### what is walked -/
/-- while G holds of the store, J gives the items, one a turn -/
def WalkS (K : PySem.W.Frag) (J : It) (s0 : Wd) (N0 : Nat) (items : List EV) (G : Mu → Prop) : Prop := ∀ (n : Nat) (s : Wd) (μ : Mu), Ext s0 N0 s μ.length → Rep K s μ → G μ →
  (n < items.length → J.go n s.H) ∧ J.stop items.length s.H ∧
  ∀ x H', n < items.length → J.yld n s.H x H' → ∃ (s' : Wd) (e : EV), s'.H = H' ∧ items[n]? = some e ∧ noNew e = true ∧ Ext s μ.length s' μ.length ∧ Rep K s' μ ∧ VR K s' μ.length x e
abbrev TDI := DEnv → Mu → (List EV → (Mu → Prop) → Mu → Prop) → XQ → Prop
structure DI (X : Cx) (W : WX) (tg iter : Expr) (td : TDI) : Prop where
  ex : ∃ wi : TI, PI X tg iter wi ∧ ∀ (s : Wd) (σ : L2.St) (η : DEnv) (μ : Mu) (R : It → Hp → Prop) (r : List EV → (Mu → Prop) → Mu → Prop) (E : XQ), Sit X.K s μ σ η → td η μ r E →
    (∀ (J : It) (items : List EV) (G : Mu → Prop) (μ' : Mu) (s' : Wd), r items G μ' → Ext s μ.length s' μ'.length → Rep X.K s' μ' → WalkS X.K J s' μ'.length items G → R J s'.H) → LX X.K s μ.length σ E W → wi σ s.H R
theorem PI.or {tg iter : Expr} {wi wj : TI} (h : PI X tg iter wi) (h' : PI X tg iter wj) : PI X tg iter (fun σ H R => wi σ H R ∨ wj σ H R) :=
  ⟨fun pins s σ H R I q => q.elim (h.run pins s σ H R I) (h'.run pins s σ H R I)⟩
/-- slots that name cells made since are forgotten -/
def clean (N : Nat) (η : DEnv) : DEnv := η.map fun o => match o with
  | some (.loc n) => if n < N then some (.loc n) else none
  | o => o
theorem er_clean {K : PySem.W.Frag} {s : Wd} {N N' : Nat} {σ : L2.St} {η : DEnv} (h : ER K s N' σ η) (hN : N ≤ N') : ER K s N σ (clean N η) := by
  refine ⟨by simp [clean, h.len], fun i e q => ?_⟩
  unfold clean at q
  rw [List.getElem?_map] at q
  cases hi : η[i]? with
  | none => rw [hi] at q; cases q
  | some o =>
    rw [hi] at q
    cases o with
    | none => cases q
    | some e0 =>
      obtain ⟨v, h1, h2⟩ := h.get i e0 hi
      refine ⟨v, h1, ?_⟩
      cases e0 with
      | loc n =>
        have q1 : (if n < N then some (EV.loc n) else none) = some e := Option.some.inj q
        split at q1
        · cases q1
          exact ⟨by assumption, h2.2⟩
        · cases q1
      | dat d => cases q; exact h2
      | new xs => cases q; obtain ⟨p, vs, a1, a2, a3, a4, a5⟩ := h2; exact ⟨p, vs, a1, a2, a3, fun m hm => a4 m (Nat.lt_of_lt_of_le hm hN), a5⟩
      | raw d => cases q; exact h2
      | exc d => cases q; exact h2
      | ro d => cases q; exact h2
      | newd xs => cases q; obtain ⟨p, vs, a1, a2, a3, a4, a5⟩ := h2; exact ⟨p, vs, a1, a2, a3, fun m hm => a4 m (Nat.lt_of_lt_of_le hm hN), a5⟩
      | newk xs => cases q; obtain ⟨p, vs, a1, a2, a3, a4, a5⟩ := h2; exact ⟨p, vs, a1, a2, a3, fun m hm => a4 m (Nat.lt_of_lt_of_le hm hN), a5⟩
      | newo t => cases q; obtain ⟨a1, a2, a3, a4⟩ := h2; exact ⟨a1, a2, a3, fun a ha m hm => a4 a ha m (Nat.lt_of_lt_of_le hm hN)⟩
      | «at» _ _ _ => cases q; exact h2
      | per d => cases q; exact h2
theorem Sit.clean {K : PySem.W.Frag} {s : Wd} {N : Nat} {μ : Mu} {σ : L2.St} {η : DEnv} (h : Sit K s μ σ η) (hN : N ≤ μ.length) : Sit K s (μ.take N) σ (DL.clean N η) := by
  have e : (μ.take N).length = N := by rw [List.length_take]; omega
  exact ⟨h.rep.take N, by rw [e]; exact er_clean h.er hN⟩
/-! ### for, while -/
/-! ### list comprehensions -/
structure DTs (X : Cx) (W : WX) (ifs : List Expr) (td : TDT) : Prop where
  ex : ∃ t : TT, PTs X ifs t ∧ ∀ (s : Wd) (σ : L2.St) (η : DEnv) (μ : Mu) (Q : Bool → Hp → Prop) (q : Bool → Mu → Prop) (E : XQ), Sit X.K s μ σ η → td η μ q E → LB X.K s μ.length q Q → LX X.K s μ.length σ E W → t σ s.H Q
def tYesD : TDT := fun _ μ q _ => q true μ
theorem dts_nil : DTs X W [] tYesD := ⟨_, pts_nil, fun s σ η μ Q q E S hq l lx => l true μ s hq (Ext.refl _ _) S.rep⟩
theorem dts_one {c : Expr} (h : DT X W c tA) : DTs X W [c] tA := by
  obtain ⟨t, p, g⟩ := h.ex
  exact ⟨_, pts_one p, g⟩
/-- no exception -/
abbrev WF : WX := fun _ _ _ _ => False
abbrev EF : XQ := fun _ _ => False
/-- the readings that data readings stand for -/
def upE (K : PySem.W.Frag) (td : TDE) : TE := fun σ H Q => ∃ (s : Wd) (η : DEnv) (μ : Mu) (q : PQ), s.H = H ∧ Sit K s μ σ η ∧ td η μ q EF ∧ LE K s μ.length q Q
def upT (K : PySem.W.Frag) (td : TDT) : TT := fun σ H Q => ∃ (s : Wd) (η : DEnv) (μ : Mu) (q : Bool → Mu → Prop), s.H = H ∧ Sit K s μ σ η ∧ td η μ q EF ∧ LB K s μ.length q Q
def upG (K : PySem.W.Frag) (is : List Nat) (td : TDG) : TG := fun v σ H Q => ∃ (s : Wd) (η : DEnv) (μ : Mu) (e : EV) (q : DEnv → Mu → Prop), s.H = H ∧ Sit K s μ σ η ∧ VR K s μ.length v e ∧ td e η μ q ∧ LGo K s μ.length is σ q Q
theorem DE.up (h : DE X WF e te) : PE X e (upE X.K te) := by
  obtain ⟨t, p, g⟩ := h.ex
  refine ⟨fun pins sh σ H Q I hq => ?_⟩
  obtain ⟨s, η, μ, q, rfl, S, hq, l⟩ := hq
  exact p.run pins sh σ s.H Q I (g s σ η μ Q q EF S hq l LX.none)
theorem DTs.up {ifs : List Expr} (h : DTs X WF ifs tA) : PTs X ifs (upT X.K tA) := by
  obtain ⟨t, p, g⟩ := h.ex
  refine ⟨fun pins sh σ H Q I hq => ?_⟩
  obtain ⟨s, η, μ, q, rfl, S, hq, l⟩ := hq
  exact p.run pins sh σ s.H Q I (g s σ η μ Q q EF S hq l LX.none)
theorem DG.up {tg : Expr} {is : List Nat} {td : TDG} (h : DG X tg is td) : PG X tg (upG X.K is td) := by
  obtain ⟨t, p, g⟩ := h.ex
  refine ⟨fun pins sh σ H v u Q I r hq => ?_⟩
  obtain ⟨s, η, μ, ev, q, rfl, S, rv, hq, l⟩ := hq
  exact p.run pins sh σ s.H v u Q I r (g s σ η μ v ev Q q S rv hq l)
theorem wipe_get (σ : L2.St) : ∀ (vs : List Nat) (i : Nat), (L2.wipe σ vs)[i]? = if i ∈ vs then (if i < σ.length then some none else none) else σ[i]?
  | [], i => by simp [L2.wipe]
  | v :: vs, i => by
    unfold L2.wipe
    by_cases hv : v = i
    · subst hv
      by_cases hl : v < σ.length
      · rw [List.getElem?_set_self (by rw [wipe_length]; exact hl)]
        simp [hl]
      · rw [List.getElem?_eq_none (by rw [List.length_set, wipe_length]; omega)]
        simp [hl]
    · rw [List.getElem?_set_ne hv, wipe_get σ vs i]
      have : (i ∈ v :: vs) ↔ i ∈ vs := by
        rw [List.mem_cons]
        exact ⟨fun z => z.elim (fun e => absurd e.symm hv) id, .inr⟩
      simp [this]
theorem wipe_only {is vs : List Nat} {σ σ' : L2.St} (h : Only is σ σ') (hs : ∀ i ∈ is, i ∈ vs) : L2.wipe σ' vs = L2.wipe σ vs := by
  refine List.ext_getElem? fun i => ?_
  rw [wipe_get, wipe_get, h.1]
  by_cases hi : i ∈ vs
  · rw [if_pos hi, if_pos hi]
  · rw [if_neg hi, if_neg hi]
    exact h.2 i fun z => hi (hs i z)
theorem wipe_twice (σ : L2.St) (vs : List Nat) : L2.wipe (L2.wipe σ vs) vs = L2.wipe σ vs := by
  refine List.ext_getElem? fun i => ?_
  rw [wipe_get, wipe_get, wipe_length]
  by_cases hi : i ∈ vs
  · rw [if_pos hi, if_pos hi]
  · rw [if_neg hi, if_neg hi]
/-- a list beside is written -/
theorem Rep.poke {K : PySem.W.Frag} {s : Wd} {μ : Mu} {p : Addr} {o : HO} (R : Rep K s μ) (hf : s.F p = none) (hl : NL s μ.length p) : Rep K { s with H := upd s.H p o } μ := by
  refine R.of rfl (fun a u q => ?_) (fun n c q => ?_) (fun a h => upd_live h) (R.beside (fun _ _ z => z) fun n a hn ha => keeps_put fun z => hl n hn (z ▸ ha))
  · show upd s.H p o a = some u
    have q' : s.F a = some u := q
    rw [upd_ne (ne_of_none q' hf)]
    exact R.sub a u q
  · have ne := R.rootNe hl n (List.getElem?_eq_some_iff.mp q).1
    have := R.cell n c q
    cases c with
    | lst xs => obtain ⟨h1, vs, h2, h3⟩ := this; exact ⟨h1, vs, (upd_ne ne).trans h2, h3⟩
    | frz xs => exact this
    | dct kvs =>
      obtain ⟨h1, ks, h2, h3, h4⟩ := this
      exact ⟨h1, ks, (upd_ne ne).trans h2, h3, h4⟩
    | dck kvs =>
      obtain ⟨h1, ks, h2, h3, h4⟩ := this
      exact ⟨h1, ks, (upd_ne ne).trans h2, h3, h4⟩
    | abs P => obtain ⟨xs, hP, h1, vs, h2, h3⟩ := this; exact ⟨xs, hP, h1, vs, (upd_ne ne).trans h2, h3⟩
    | tab P nm => exact ⟨this.1, this.2.to (fun _ _ z => z) this.2.nf fun _ z => (upd_ne ne).trans z⟩
    | own t => exact upd_live this
    | dead => exact upd_live this
theorem Ext.poke {s0 s : Wd} {N0 N : Nat} {p : Addr} {o : HO} (x : Ext s0 N0 s N) (h0 : s0.H p = none) : Ext s0 N0 { s with H := upd s.H p o } N :=
  ⟨x.f, x.l, x.le, fun a u q hn => by
    show upd s.H p o a = some u
    rw [upd_ne (ne_of_none q h0)]
    exact x.keep a u q hn, x.fnew, x.lnew, x.onew, fun a h => upd_live (x.alive a h)⟩
/-- [e for tg in it if c] -/
def dLc (ti : TDI) (g : TDG) (tt : TDT) (te : TDE) (vs : List Nat) : TDE := fun η μ q E => ti η μ (fun items G μ1 => items.length ≤ 100000 ∧ ∃ Inv : Nat → List PyData → Mu → Prop, Inv 0 [] μ1 ∧ (∀ i acc μ, Inv i acc μ → G μ ∧ acc.length ≤ i) ∧
  (∀ (i : Nat) (e : EV) acc μ, items[i]? = some e → Inv i acc μ → g e (wipeD η vs) μ fun η2 μ2 => tt η2 μ2 (fun b μ3 => if b = true then te η2 μ3 (fun ev μ4 => withDat μ4 ev fun d μ5 => Inv (i + 1) (acc ++ [d]) (μ5.take μ1.length)) EF else Inv (i + 1) acc (μ3.take μ1.length)) EF) ∧
  ∀ acc μ, Inv items.length acc μ → q (.new acc) μ) E
theorem lc_ok {ti : TDI} {g : TDG} {tt : TDT} {te : TDE} {wi : TI} {own : List (Str × Nat)} {is : List Nat} (his : ∀ i ∈ is, i ∈ own.map (·.2))
    (g1 : ∀ (s : Wd) (σ : L2.St) (η : DEnv) (μ : Mu) (R : It → Hp → Prop) (r : List EV → (Mu → Prop) → Mu → Prop) (E : XQ), Sit X.K s μ σ η → ti η μ r E →
      (∀ (J : It) (items : List EV) (G : Mu → Prop) (μ' : Mu) (s' : Wd), r items G μ' → Ext s μ.length s' μ'.length → Rep X.K s' μ' → WalkS X.K J s' μ'.length items G → R J s'.H) → LX X.K s μ.length σ E W → wi σ s.H R)
    (s : Wd) (σ : L2.St) (η : DEnv) (μ : Mu) (Q : VK) (q : PQ) (E : XQ) (S : Sit X.K s μ σ η) (hq : dLc ti g tt te (own.map (·.2)) η μ q E) (l : LE X.K s μ.length q Q) (lx : LX X.K s μ.length σ E W) :
    tLc wi (upG X.K is g) (upT X.K tt) (upE X.K te) (own.map (·.2)) σ s.H Q := by
  refine g1 s σ η μ _ _ E S hq (fun J items G μ1 s1 hk x1 R1 wk => ?_) lx
  obtain ⟨hz, Inv, h0, hG, hs, hd⟩ := hk
  intro D hD
  have hD0 := x1.fresh R1 hD
  refine ⟨fun i m H' => m = items.length - i ∧ i ≤ items.length ∧ ∃ (s' : Wd) (acc : List PyData) (μ' : Mu), s'.H = H' ∧ Ext s1 μ1.length s' μ'.length ∧ Rep X.K s' μ' ∧ VR X.K s' μ'.length (.ref D) (.new acc) ∧ Inv i acc μ', ⟨items.length, by simp, Nat.zero_le _, { s1 with H := upd s1.H D (.lst []) }, [], μ1, rfl, (Ext.refl s1 μ1.length).poke hD, R1.put hD, ⟨D, [], rfl, upd_same, R1.notF hD, R1.notL hD, .nil⟩, h0⟩, ?_⟩
  rintro i m H' ⟨rfl, hi, s', acc, μ', rfl, x', R', rD, iv⟩
  obtain ⟨gG, hacc⟩ := hG i acc μ' iv
  have ⟨wgo, wstop, wy⟩ := wk i s' μ' x' R' gG
  by_cases hlt : i < items.length
  · refine .inr ⟨wgo hlt, fun H2 => ∃ (s2 : Wd) (acc2 : List PyData) (μ2 : Mu), s2.H = H2 ∧ Ext s1 μ1.length s2 μ2.length ∧ Rep X.K s2 μ2 ∧ VR X.K s2 μ2.length (.ref D) (.new acc2) ∧ Inv (i + 1) acc2 μ2, fun H2 h2 => ⟨items.length - (i + 1), by omega, rfl, hlt, h2⟩, fun x H'' hy => ?_⟩
    obtain ⟨s2, e, rfl, he, hne, x2, R2, r2⟩ := wy x H'' hlt hy
    have x12 := x'.trans x2 fun n hn => R'.here hn
    have rD2 := rD.ext x2
    have Sw : Sit X.K s2 μ' (L2.wipe σ (own.map (·.2))) (wipeD η (own.map (·.2))) := ⟨R2, ((S.er.ext x1).ext x12).wipe _⟩
    refine ⟨s2, wipeD η (own.map (·.2)), μ', e, _, rfl, Sw, r2, hs i e acc μ' he iv, fun η3 μ3 σ3 s3 hk3 x3 S3 o3 => ?_⟩
    refine ⟨(wipe_only o3 his).trans (wipe_twice _ _), s3, η3, μ3, _, rfl, S3, hk3, fun b μ4 s4 hk4 x4 R4 => ?_⟩
    have x13 := x12.trans x3 fun n hn => R2.here hn
    have x14 := x13.trans x4 fun n hn => S3.rep.here hn
    have rD4 := (rD2.ext x3).ext x4
    cases b with
    | false =>
      have e4 : (μ4.take μ1.length).length = μ1.length := by rw [List.length_take]; have := x14.le; omega
      refine ⟨s4, acc, μ4.take μ1.length, rfl, by rw [e4]; exact x14.take (Nat.le_refl _) x14.le, R4.take _, ?_, hk4⟩
      obtain ⟨p, vs, a1, a2, a3, a4, a5⟩ := rD4
      exact ⟨p, vs, a1, a2, a3, fun m hm => a4 m (by rw [List.length_take] at hm; omega), a5⟩
    | true =>
      refine ⟨s4, η3, μ4, _, rfl, S3.go x4 R4, hk4, fun ev μ5 v s5 hk5 x5 R5 r5 f5 => ?_⟩
      have x15 := x14.trans x5 fun n hn => R4.here hn
      have rD5 := rD4.ext x5
      obtain ⟨p, ws, e0, a2, a3, a4, a5⟩ := rD5
      cases e0
      -- made still
      have hDd : s5.H D ≠ none := by rw [a2]; simp
      have f5' : Frsh s4.H v ev := f5
      have base : ∃ d μ6 F' O', Inv (i + 1) (acc ++ [d]) (μ6.take μ1.length) ∧ μ6.length = μ5.length ∧ Rep X.K { s5 with F := F', O := O' } μ6 ∧ Ext s4 μ4.length { s5 with F := F', O := O' } μ6.length ∧ DR X.K F' v d := still R5 x5 r5 f5' hk5
      obtain ⟨d, μ6, F', O', k6, len6, R6, x6, r6⟩ := base
      have x16 := x14.trans x6 fun n hn => R4.here hn
      have rD6 := rD4.ext x6
      obtain ⟨p, ws, e0, a2, a3, a4, a5⟩ := rD6
      cases e0
      have e6 : (μ6.take μ1.length).length = μ1.length := by rw [List.length_take]; have := x16.le; omega
      have hDm : NL { s5 with F := F', O := O' } (μ6.take μ1.length).length D := fun m hm => a4 m (by rw [List.length_take] at hm; omega)
      refine ⟨ws, a2, Nat.lt_of_lt_of_le (show ws.length < 100001 by have := a5.length; omega) (by decide), { s5 with F := F', O := O', H := upd s5.H D (.lst (ws ++ [v])) }, acc ++ [d], μ6.take μ1.length, rfl, ?_, ?_, ?_, k6⟩
      · rw [e6]
        exact (x16.poke hD).take (Nat.le_refl _) x16.le
      · exact (R6.take _).poke a3 hDm
      · exact ⟨D, ws ++ [v], rfl, upd_same, a3, hDm, a5.append (.cons r6 .nil)⟩
  · have e : i = items.length := by omega
    subst e
    refine .inl ⟨wstop, l (.new acc) μ' (.ref D) s' (hd acc μ' iv) (x1.trans x' fun n hn => R1.here hn) R' rD fun p hp => ?_⟩
    cases hp
    exact hD0
theorem de_lc {elt tg iter : Expr} {ifs : List Expr} {scope : Scope} {own : List (Str × Nat)} {is : List Nat} {ti : TDI} {g : TDG} {tt : TDT} (hc : X.calm = true) (hN : X.N.Nodup) (hi : DI X W tg iter ti) (ok : BlkOk X.N X.env.scope scope own) (his : ∀ i ∈ is, i ∈ own.map (·.2))
    (hg : ∀ (s : Shared) (H : Hp) (C : Addr) (cl : List (Str × Addr)) (fp : List Addr), DG (X.blk s H scope (compEnvC scope cl C X.env) fp) tg is g)
    (ht : ∀ (s : Shared) (H : Hp) (C : Addr) (cl : List (Str × Addr)) (fp : List Addr), DTs (X.blk s H scope (compEnvC scope cl C X.env) fp) WF ifs tt)
    (he : ∀ (s : Shared) (H : Hp) (C : Addr) (cl : List (Str × Addr)) (fp : List Addr), DE (X.blk s H scope (compEnvC scope cl C X.env) fp) WF elt te) (hs : ∀ x, foldedSetIterable iter X.env x = pure x := by intro _; rfl) :
    DE X W (.ListComp elt [⟨tg, iter, ifs, 0⟩] scope pos) (dLc ti g tt te (own.map (·.2))) := by
  obtain ⟨wi, p1, g1⟩ := hi.ex
  exact de_pe (pe_lc (g := upG X.K is g) (tt := upT X.K tt) (te := upE X.K te) hc hN p1 ok (fun s H C cl fp => (hg s H C cl fp).up) (fun s H C cl fp => (ht s H C cl fp).up) (fun s H C cl fp => (he s H C cl fp).up) hs) (lc_ok his g1)
/-- name = [..] in one row -/
theorem ds_setLc {i : Nat} {y : Str} {py : Pos} {elt tg iter : Expr} {ifs : List Expr} {scope : Scope} {own : List (Str × Nat)} {spos : Pos} {is : List Nat} {ti : TDI} {g : TDG} {tt : TDT} {k : TDE → TDE} (hc : X.calm = true) (hN : X.N.Nodup) (hy : X.N[i]? = some y) (hyl : X.env.scope.names.lookup y = some .local)
    (hs' : swapsWith (.ListComp elt [⟨tg, iter, ifs, 0⟩] scope pos) (some (.Name y py)) spos.line X.env = pure true)
    (hk : k = dFrz ∨ k = dCell)
    (hi : DI X W tg iter ti) (ok : BlkOk X.N X.env.scope scope own) (his : ∀ i ∈ is, i ∈ own.map (·.2))
    (hg : ∀ (s : Shared) (H : Hp) (C : Addr) (cl : List (Str × Addr)) (fp : List Addr), DG (X.blk s H scope (compEnvC scope cl C X.env) fp) tg is g)
    (ht : ∀ (s : Shared) (H : Hp) (C : Addr) (cl : List (Str × Addr)) (fp : List Addr), DTs (X.blk s H scope (compEnvC scope cl C X.env) fp) WF ifs tt)
    (he : ∀ (s : Shared) (H : Hp) (C : Addr) (cl : List (Str × Addr)) (fp : List Addr), DE (X.blk s H scope (compEnvC scope cl C X.env) fp) WF elt te) (hs : ∀ x, foldedSetIterable iter X.env x = pure x := by intro _; rfl) :
    DS X W (.Assign [.Name y py] (.ListComp elt [⟨tg, iter, ifs, 0⟩] scope pos) spos) (sAsg (k (dLc ti g tt te (own.map (·.2)))) (gNm i)) := by
  obtain ⟨wi, p1, g1⟩ := hi.ex
  have g2 : SemE X.K W (tLc wi (upG X.K is g) (upT X.K tt) (upE X.K te) (own.map (·.2))) (k (dLc ti g tt te (own.map (·.2)))) := by
    rcases hk with rfl | rfl
    · exact sem_frz (lc_ok his g1)
    · exact sem_cell (lc_ok his g1)
  refine ⟨_, ps_setLc (g := upG X.K is g) (tt := upT X.K tt) (te := upE X.K te) hc hN hy hyl hs' p1 ok (fun s H C cl fp => (hg s H C cl fp).up) (fun s H C cl fp => (ht s H C cl fp).up) (fun s H C cl fp => (he s H C cl fp).up) hs, fun s σ η μ D d E S hq l => ?_⟩
  refine g2 s σ η μ _ _ E S hq (fun ev μ1 v s1 hk x R r f => ?_) (l.lx σ)
  exact l.nx _ μ1 _ s1 hk.2 x ⟨R, (S.go x R).er.set i r⟩
end
end DL
set_option Elab.async false
set_option linter.all false
set_option maxRecDepth 100000
set_option maxHeartbeats 4000000
namespace DL
open PySem L2 PyProof.Rows
/-! ### contracts of defs -/
/-- a contract: the arguments, the store, what is wanted of the answer, of an exception -/
abbrev SpD := List EV → Mu → PQ → XQ → Prop
inductive VL (K : PySem.W.Frag) (s : Wd) (N : Nat) : List V → List EV → Prop
  | nil : VL K s N [] []
  | cons {v : V} {vs : List V} {e : EV} {es : List EV} : VR K s N v e → VL K s N vs es → VL K s N (v :: vs) (e :: es)
theorem VL.len {K : PySem.W.Frag} {s : Wd} {N : Nat} {vs : List V} {es : List EV} (h : VL K s N vs es) : vs.length = es.length := by
  induction h with
  | nil => rfl
  | cons _ _ ih => rw [List.length_cons, List.length_cons, ih]
theorem VL.get {K : PySem.W.Frag} {s : Wd} {N : Nat} : ∀ {vs : List V} {es : List EV} {i : Nat} {e : EV}, VL K s N vs es → es[i]? = some e → ∃ v, vs[i]? = some v ∧ VR K s N v e
  | _, _, _, _, .nil, e => by simp at e
  | _, _, 0, _, .cons h _, e => by simp at e; subst e; exact ⟨_, rfl, h⟩
  | _, _, i + 1, d, .cons _ hs, e => by
    obtain ⟨v, h1, h2⟩ := VL.get (i := i) (e := d) hs (by simpa using e)
    exact ⟨v, by simpa using h1, h2⟩
theorem VRs.vl {K : PySem.W.Frag} {s : Wd} {N : Nat} {H0 : Hp} {vs : List V} {es : List EV} (h : VRs K s N H0 vs es) : VL K s N vs es := by
  induction h with
  | nil => exact .nil
  | cons a _ _ ih => exact .cons a ih
theorem VL.append {K : PySem.W.Frag} {s : Wd} {N : Nat} {vs ws : List V} {es fs : List EV} (h : VL K s N vs es) (h' : VL K s N ws fs) : VL K s N (vs ++ ws) (es ++ fs) := by
  induction h with
  | nil => exact h'
  | cons a _ ih => exact .cons a ih
def spOf (K : PySem.W.Frag) (n : Nat) (sp : SpD) : Sp := fun vs H Q E => vs.length = n ∧ ∃ (s : Wd) (μ : Mu) (es : List EV) (q : PQ) (x : XQ), s.H = H ∧ Rep K s μ ∧ VL K s μ.length vs es ∧ sp es μ q x ∧ LE K s μ.length q Q ∧
  ∀ (y : Exn) (μ' : Mu) (cls : Value) (d : Option Addr) (s' : Wd), x y μ' → Ext s μ.length s' μ'.length → Rep K s' μ' → XR K s' cls d y → E cls d s'.H
/-- what goes out of a def: its own cells are forgotten, the answer's one is kept -/
def exitQ (N : Nat) (q : PQ) : PQ := fun e μ => match e with
  | .loc n => if n < N then q (.loc n) (μ.take N) else match μ[n]? with
    | some (.lst xs) => q (.new xs) (μ.take N)
    | some (.frz xs) => q (.dat (.list xs)) (μ.take N)
    | some (.dct kvs) => q (.newd kvs) (μ.take N)
    | some (.dck kvs) => q (.newk kvs) (μ.take N)
    | _ => False
  | .at n p b => if n < N then q (.at n p b) (μ.take N) else match nodeAt μ n p with
    | some (.nod k b' ts) => b' = b ∧ q (.newo (.nod k b ts)) (μ.take N)
    | _ => False
  | e => q e (μ.take N)
theorem exit_gen {K : PySem.W.Frag} {s : Wd} {N : Nat} {q : PQ} {κ : V → Wd → Prop} (l : ∀ (e : EV) (μ' : Mu) (v : V) (s' : Wd), q e μ' → Ext s N s' μ'.length → Rep K s' μ' → VR K s' μ'.length v e → Frsh s.H v e → κ v s') (hN : ∀ n, n < N → s.H (s.L n) ≠ none) :
    ∀ (e : EV) (μ' : Mu) (v : V) (s' : Wd), exitQ N q e μ' → Ext s N s' μ'.length → Rep K s' μ' → VR K s' μ'.length v e → Frsh s.H v e → κ v s' := by
  intro e μ' v s' hq x R r f
  have e1 : (μ'.take N).length = N := by rw [List.length_take]; have := x.le; omega
  have xt : Ext s N s' (μ'.take N).length := by rw [e1]; exact x.take (Nat.le_refl _) x.le
  have Rt := R.take N
  cases e with
  | dat d => exact l _ _ v s' hq xt Rt r trivial
  | raw d => exact l _ _ v s' hq xt Rt r trivial
  | exc d => exact l _ _ v s' hq xt Rt r trivial
  | ro d => exact l _ _ v s' hq xt Rt r trivial
  | newd xs =>
    obtain ⟨p, vs, a1, a2, a3, a4, a5⟩ := r
    exact l _ _ v s' hq xt Rt ⟨p, vs, a1, a2, a3, fun m hm => a4 m (by rw [e1] at hm; have := x.le; omega), a5⟩ f
  | newk xs =>
    obtain ⟨p, vs, a1, a2, a3, a4, a5⟩ := r
    exact l _ _ v s' hq xt Rt ⟨p, vs, a1, a2, a3, fun m hm => a4 m (by rw [e1] at hm; have := x.le; omega), a5⟩ f
  | new xs =>
    obtain ⟨p, vs, a1, a2, a3, a4, a5⟩ := r
    exact l _ _ v s' hq xt Rt ⟨p, vs, a1, a2, a3, fun m hm => a4 m (by rw [e1] at hm; have := x.le; omega), a5⟩ f
  | loc n =>
    obtain ⟨hn, rfl⟩ := r
    unfold exitQ at hq
    simp only at hq
    by_cases hlt : n < N
    · rw [if_pos hlt] at hq
      exact l _ _ _ s' hq xt Rt ⟨by rw [e1]; exact hlt, rfl⟩ trivial
    · rw [if_neg hlt] at hq
      have h0 : s.H (s'.L n) = none := x.lnew n (Nat.le_of_not_lt hlt) hn
      have ne : NL s' (μ'.take N).length (s'.L n) := fun m hm e => by
        rw [e1] at hm
        have := R.dis m n _ (by have := x.le; omega) hn e (R.root n hn)
        omega
      cases hc : μ'[n]? with
      | none => rw [hc] at hq; exact hq.elim
      | some c =>
        rw [hc] at hq
        have C := R.cell n c hc
        cases c with
        | lst xs =>
          obtain ⟨hf, vs, hv, hd⟩ := C
          exact l _ _ _ s' hq xt Rt ⟨s'.L n, vs, rfl, hv, hf, ne, hd⟩ (fun p hp => by cases hp; exact h0)
        | frz xs =>
          obtain ⟨vs, hv, hd⟩ := C
          exact l _ _ _ s' hq xt Rt (.lst hv hd) trivial
        | dct kvs =>
          obtain ⟨hf, ks, hv, hk, hd⟩ := C
          exact l _ _ _ s' hq xt Rt ⟨s'.L n, ks, rfl, hv, hf, ne, hk, hd⟩ (fun p hp => by cases hp; exact h0)
        | dck kvs =>
          obtain ⟨hf, ks, hv, hk, hd⟩ := C
          exact l _ _ _ s' hq xt Rt ⟨s'.L n, ks, rfl, hv, hf, ne, hk, hd⟩ (fun p hp => by cases hp; exact h0)
        | abs P => exact hq.elim
        | tab P nm => exact hq.elim
        | own t => exact hq.elim
        | dead => exact hq.elim
  | per d => exact l _ _ v s' hq xt Rt r trivial
  | newo t =>
    obtain ⟨a1, a2, a3, a4⟩ := r
    exact l _ _ v s' hq xt Rt ⟨a1, a2, a3, fun a ha m hm => a4 a ha m (by rw [e1] at hm; have := x.le; omega)⟩ f
  | «at» n p b =>
    unfold exitQ at hq
    simp only at hq
    by_cases hlt : n < N
    · rw [if_pos hlt] at hq
      exact l _ _ _ s' hq xt Rt r trivial
    · rw [if_neg hlt] at hq
      split at hq
      · rename_i k b' ts hc
        obtain ⟨rfl, hq⟩ := hq
        obtain ⟨t, ht, hp⟩ := nodeAt_ex hc
        have hn := (List.getElem?_eq_some_iff.mp ht).1
        have T := R.tree n _ ht
        obtain ⟨vs, h1, h2, h3⟩ := node_is R hc
        have rv : v = .ref b' := r
        subst rv
        have ow : ∀ a ∈ addrs (.nod k b' ts), s'.O n a := fun a ha => T.own a (addrs_get hp a ha)
        refine l _ _ _ s' hq xt Rt ⟨⟨b', rfl, by rw [addrs_nod]; exact List.mem_cons_self⟩, .nod h1 h2 h3, nodup_get T.nd hp, fun a ha m hm e => ?_⟩ (fun a ha => ?_)
        · rw [e1] at hm
          have := R.dis m n a (by have := x.le; omega) hn e (ow a ha)
          omega
        · rcases x.onew n a hn (ow a ha) with h | ⟨h, _⟩
          · exact h
          · exact absurd h hlt
      · exact hq.elim
theorem exit_ok {K : PySem.W.Frag} {s : Wd} {N : Nat} {q : PQ} {Q : VK} (l : LE K s N q Q) (hN : ∀ n, n < N → s.H (s.L n) ≠ none) : LE K s N (exitQ N q) Q := exit_gen l hN
def startD (N : List Str) (es : List EV) : DEnv := es.map some ++ List.replicate (N.length - es.length) none
theorem er_start {K : PySem.W.Frag} {s : Wd} {M : Nat} {N : List Str} {vs : List V} {es : List EV} (h : VL K s M vs es) : ER K s M (L2.start N vs) (startD N es) := by
  have hl := h.len
  refine ⟨by simp [L2.start, startD, hl], fun i e q => ?_⟩
  unfold startD at q
  by_cases hi : i < es.length
  · rw [List.getElem?_append_left (by simpa using hi), List.getElem?_map] at q
    cases hg : es[i]? with
    | none => rw [hg] at q; cases q
    | some e0 =>
      rw [hg] at q
      cases q
      obtain ⟨v, h1, h2⟩ := h.get hg
      refine ⟨v, ?_, h2⟩
      unfold L2.start
      rw [List.getElem?_append_left (by simp [hl]; exact hi), List.getElem?_map, h1]
      rfl
  · rw [List.getElem?_append_right (by simpa using Nat.le_of_not_lt hi)] at q
    rw [List.getElem?_replicate] at q
    split at q <;> cases q
section
variable {P : Program} {w : World} {K : PySem.W.Frag} {mg : Str → Option Value} {base : Heap}
/-- THE RULE for a def: its body's data reading, and that the contract gives it -/
theorem fd_of {x qual : Str} {st : Stmt} {f : Addr} {fd : FuncData} {N ps : List Str} {k : Nat} {sp : SpD} {td : TDS} (F : Fun K x qual st f fd) (S : FnScope N ps (defScope st))
    (body : ∀ (cdv : Value) (A : Around) (outer : List Env) (s : Shared) (H : Hp) (E : XK), Room k (A.deeper (envOfC qual (defScope st) s.heap.objs.size f cdv)) →
      DSs (cxOf (L2.CX P w) P w K mg base N qual (defScope st) f cdv A outer s H E) (fun cls d _ H => E cls d H) (defBody st) td)
    (h : ∀ (es : List EV) (μ : Mu) (q : PQ) (x : XQ), es.length = ps.length → sp es μ q x → td { nx := fun _ μ' => exitQ μ.length q (.dat .none) μ', rt := exitQ μ.length q } (fun y μ' => x y (μ'.take μ.length)) (startD N es) μ) :
    FnOk P w K mg base (L2.CX P w) (k + 1) f fd ps (spOf K ps.length sp) := by
  refine F.okX S (fun vs H Q E hs => hs.1) fun cdv A outer sh H vs Q E hr hs => ?_
  obtain ⟨hl, s, μ, es, q, x, rfl, R, hv, hsp, l, lx⟩ := hs
  obtain ⟨t, p, g⟩ := (body cdv A outer sh s.H E hr).ex
  have l' := exit_ok l fun n hn => R.here hn
  refine ⟨t, p, g s _ (startD N es) μ _ _ _ ⟨R, er_start hv⟩ (h es μ q x (by rw [← hv.len]; exact hl) hsp) ⟨fun η' μ' σ' s' hq x' S' => ?_, l', fun _ _ _ _ z => z.elim, fun _ _ _ _ z => z.elim, fun y μ' cls dd σ' s' hq x' R' r => ?_⟩⟩
  · exact l' (.dat .none) μ' .non s' hq x' S'.rep .non trivial
  · have e1 : (μ'.take μ.length).length = μ.length := by rw [List.length_take]; have := x'.le; omega
    exact lx y _ cls dd s' hq (by rw [e1]; exact x'.take (Nat.le_refl _) x'.le) (R'.take _) r
end
/-- what stands at a def's name -/
structure DefAt (P : Program) (w : World) (K : PySem.W.Frag) (mg : Str → Option Value) (base : Heap) (x : Str) (k : Nat) (ps : List Str) (dvs : List V) (ds : List Value) (sp : SpD) : Prop where
  ex : ∃ (f : Addr) (fd : FuncData), FnOk P w K mg base (L2.CX P w) k f fd ps (spOf K ps.length sp) ∧ mg x = some (.ref f) ∧ PySem.W.keepIn K (.ref f) = true ∧ Binds K fd ps ds
  dv : Vals dvs ds
section
variable {X : Cx} {W : WX} {x : Str} {p pos : Pos} {k j : Nat} {ps : List Str} {dvs : List V} {ds : List Value} {sp : SpD} {e : Expr} {es : List Expr} {t : TDA}
def allOld : List EV → Bool
  | [] => true
  | e :: es => noNew e && allOld es
/-- f(e, ..), an own def; the defaults des fill up -/
def dCall (n : Nat) (sp : SpD) (des : List EV) (t : TDA) : TDE := fun η μ q E => t η μ (fun es μ1 => allOld es = true ∧ (es ++ des).length = n ∧ sp (es ++ des) μ1 q E) E
theorem de_call {des : List EV} (F : DefAt X.prog X.w X.K X.mg X.base x k ps dvs ds sp) (hr : Room j X.A) (hj : k ≤ j) (hg : Gl X x) (tk : Takes X W) (hn : ∀ (s : Wd) (N : Nat), VL X.K s N dvs des) (ha : DA X W (e :: es) t)
    (hdb : (x == ("__debug__" : Str)) = false := by decide) (he : starEach (e :: es) X.env = (false, eval e X.env) :: starEach es X.env := by rfl) (hpl : (backTo pos (starEach es X.env)).any (·.1) = false := by rfl) :
    DE X W (.Call (.Name x p) (e :: es) [] pos) (dCall ps.length sp des t) := by
  obtain ⟨f, fd, G, hm, hk, hb⟩ := F.ex
  obtain ⟨t1, p1, g1⟩ := ha.ex
  refine de_pe (pe_callSD (E := WE W) G (hr.mono hj) hg hm hk hb F.dv (fun σ => passAt tk σ) p1 hdb he hpl) fun s σ η μ Q q E S hq l lx => g1 s σ η μ _ _ E S hq (fun es' μ1 vs s1 hk1 x1 R1 r1 => ?_) lx
  obtain ⟨ho, hl, hk1⟩ := hk1
  have hv := r1.vl.append (hn s1 μ1.length)
  exact ⟨hv.len.trans hl, s1, μ1, es' ++ des, q, E, rfl, R1, hv, hk1, l.go x1 R1, lx.go x1 R1⟩
end
end DL
set_option Elab.async false
set_option linter.all false
set_option maxRecDepth 100000
set_option maxHeartbeats 4000000
namespace DL
open PySem L2 PyProof.Rows
/-! ### what is read of a value -/
def lstOf (μ : Mu) : EV → Option (List PyData)
  | .dat (.list xs) => some xs
  | .new xs => some xs
  | .loc n => match μ[n]? with
    | some (.lst xs) => some xs
    | some (.frz xs) => some xs
    | _ => none
  | .at n p b => match nodeAt μ n p with
    | some (.nod .lst b' ts) => if b' = b then flatT ts else none
    | _ => none
  | _ => none
def tupOf : EV → Option (List PyData)
  | .dat (.tuple xs) => some xs
  | _ => none
def roOf : EV → Option (List PyData)
  | .ro xs => some xs
  | _ => none
def seqOf (μ : Mu) (e : EV) : Option (List PyData) := match tupOf e with
  | some xs => some xs
  | none => match roOf e with
    | some xs => some xs
    | none => lstOf μ e
def datOf (μ : Mu) : EV → Option PyData
  | .dat d => some d
  | .at n p b => match nodeAt μ n p with
    | some (.nod k b' ts) => if b' = b then datT (.nod k b' ts) else none
    | _ => none
  | e => (lstOf μ e).map .list
section
variable {K : PySem.W.Frag} {s s0 : Wd} {N0 : Nat} {μ : Mu} {v : V} {e : EV}
theorem lst_ok {xs : List PyData} (R : Rep K s μ) (r : VR K s μ.length v e) (h : lstOf μ e = some xs) : ∃ a vs, v = .ref a ∧ s.H a = some (.lst vs) ∧ DRs K s.F vs xs := by
  unfold lstOf at h
  split at h
  · cases h
    have r' : DR K s.F v (.list xs) := r
    cases r' with
    | lst h hs => exact ⟨_, _, rfl, R.sub _ _ h, hs⟩
  · cases h
    obtain ⟨p, vs, a1, a2, a3, a4, a5⟩ := r
    exact ⟨p, vs, a1, a2, a5⟩
  · rename_i n
    obtain ⟨hn, rfl⟩ := r
    cases hc : μ[n]? with
    | none => rw [hc] at h; cases h
    | some c =>
      rw [hc] at h
      have C := R.cell n c hc
      cases c with
      | lst ys => cases h; obtain ⟨_, vs, a1, a2⟩ := C; exact ⟨_, vs, rfl, a1, a2⟩
      | frz ys => cases h; obtain ⟨vs, a1, a2⟩ := C; exact ⟨_, vs, rfl, R.sub _ _ a1, a2⟩
      | dct _ => cases h
      | dck _ => cases h
      | abs _ => cases h
      | tab _ _ => cases h
      | own _ => cases h
      | dead => cases h
  · split at h
    · rename_i hn
      split at h
      · rename_i e1
        subst e1
        obtain ⟨vs, h1, _, h3⟩ := node_is R hn
        exact ⟨_, vs, r, h1, flatT_ok h3 h⟩
      · cases h
    · cases h
  · cases h
theorem tup_ok {xs : List PyData} (R : Rep K s μ) (r : VR K s μ.length v e) (h : tupOf e = some xs) : ∃ a vs, v = .ref a ∧ SqT K s.H a vs ∧ DRs K s.F vs xs := by
  unfold tupOf at h
  split at h
  · cases h
    have r' : DR K s.F v (.tuple xs) := r
    cases r' with
    | tup h hs => exact ⟨_, _, rfl, SqT.of (R.sub _ _ h), hs⟩
  · cases h
theorem seq_ok {xs : List PyData} (R : Rep K s μ) (r : VR K s μ.length v e) (h : seqOf μ e = some xs) : ∃ a vs, v = .ref a ∧ (SqL K s.H a vs ∨ SqT K s.H a vs) ∧ DRs K s.F vs xs := by
  unfold seqOf at h
  split at h
  · rename_i ys hy
    cases h
    obtain ⟨a, vs, h1, h2, h3⟩ := tup_ok R r hy
    exact ⟨a, vs, h1, .inr h2, h3⟩
  · split at h
    · rename_i ys hy
      cases h
      unfold roOf at hy
      split at hy
      · cases hy
        obtain ⟨a, vs, h1, h2, h3⟩ := r
        exact ⟨a, vs, h1, .inl (R.sub.seq h2), h3⟩
      · cases hy
    · obtain ⟨a, vs, h1, h2, h3⟩ := lst_ok R r h
      exact ⟨a, vs, h1, .inl (SqL.of h2), h3⟩
theorem dat_ok {d : PyData} (R : Rep K s μ) (r : VR K s μ.length v e) (h : datOf μ e = some d) (hn : noD d = true) : Dp K s.H v d ∧ d.canLay0 = true := by
  have key : ∀ xs, lstOf μ e = some xs → noDs xs = true → Dp K s.H v (.list xs) ∧ (PyData.list xs).canLay0 = true := fun xs hx hn => by
    obtain ⟨a, vs, rfl, h2, h3⟩ := lst_ok R r hx
    exact ⟨.lst (SqL.of h2) ((h3.mono R.sub).dp hn), by simp [PyData.canLay0, h3.lay hn]⟩
  cases e with
  | dat d' =>
    cases h
    have r' : DR K s.F v d := r
    exact ⟨(r'.mono R.sub).dp hn, r'.lay hn⟩
  | new xs =>
    cases h
    exact key _ rfl (by simpa [noD] using hn)
  | loc n =>
    have h' : (lstOf μ (.loc n)).map PyData.list = some d := h
    cases q : lstOf μ (.loc n) with
    | none => rw [q] at h'; cases h'
    | some xs =>
      rw [q] at h'
      cases h'
      exact key _ q (by simpa [noD] using hn)
  | raw u => cases h
  | exc x => cases h
  | ro x => cases h
  | newd x => cases h
  | newk x => cases h
  | «at» n p b =>
    unfold datOf at h
    simp only at h
    split at h
    · rename_i k b' ts hn'
      split at h
      · rename_i e1
        subst e1
        obtain ⟨t, h1, h2⟩ := nodeAt_ex hn'
        obtain ⟨w, r'⟩ := (R.tree n t h1).is.get h2
        have e2 := r'.node.1
        subst e2
        have er : v = .ref b' := r
        subst er
        exact datT_dp R.sub r' h hn
      · cases h
    · cases h
  | newo _ => cases h
  | per _ => cases h
/-- a new list is answered -/
theorem ans_new {vs : List V} {ds : List PyData} {q : PQ} {Q : VK} {p : Addr} (R : Rep K s μ) (x : Ext s0 N0 s μ.length) (l : LE K s0 N0 q Q) (hq : q (.new ds) μ) (hd : DRs K s.F vs ds) (hp : s.H p = none) : Q (.ref p) (upd s.H p (.lst vs)) :=
  l (.new ds) μ (.ref p) { s with H := upd s.H p (.lst vs) } hq (x.put R hp) (R.put hp) ⟨p, vs, rfl, upd_same, R.notF hp, R.notL hp, hd⟩ (fun y hy => by cases hy; exact x.fresh R hp)
theorem ans_tup {vs : List V} {ds : List PyData} {q : PQ} {Q : VK} {p : Addr} (R : Rep K s μ) (x : Ext s0 N0 s μ.length) (l : LE K s0 N0 q Q) (hq : q (.dat (.tuple ds)) μ) (hd : DRs K s.F vs ds) (hp : s.H p = none) : Q (.ref p) (upd s.H p (.tup vs)) := by
  have kF : Same s.F (upd s.F p (.tup vs)) := fun a u q => by rw [upd_ne (ne_of_none q (R.notF hp))]; exact q
  exact l (.dat (.tuple ds)) μ (.ref p) { s with H := upd s.H p (.tup vs), F := upd s.F p (.tup vs) } hq (x.putF R hp) (R.putF hp) (.tup upd_same (hd.mono kF)) trivial
theorem ans {d : PyData} {q : PQ} {Q : VK} (R : Rep K s μ) (x : Ext s0 N0 s μ.length) (l : LE K s0 N0 q Q) (hq : q (.dat d) μ) (hd : DR K s.F v d) : Q v s.H := l (.dat d) μ v s hq x R hd trivial
end
section
variable {X : Cx}
/-! ### + -/
def oAdd : OD := fun x y μ q => match x, y with
  | .dat (.int i), .dat (.int j) => q (.dat (.int (i + j))) μ
  | .dat (.str a), .dat (.str b) => a.length + b.length ≤ 100000 ∧ q (.dat (.str (a ++ b))) μ
  | .dat (.tuple a), .dat (.tuple b) => a.length + b.length ≤ 100000 ∧ q (.dat (.tuple (a ++ b))) μ
  | x, y => match lstOf μ x, lstOf μ y with
    | some a, some b => a.length + b.length ≤ 100000 ∧ q (.new (a ++ b)) μ
    | _, _ => False
abbrev rAddA (K : PySem.W.Frag) : R2 := fun x y H Q => rI0 (fun i j => V.int (i + j)) x y H Q ∨ ((∃ i j, x = .str i ∧ y = .str j ∧ i.length + j.length ≤ sizeLine ∧ Q (.str (i ++ j)) H) ∨ (rCatA K x y H Q ∨ rCat x y H Q))
theorem opA_add : OpR X (binaryOp .Add) (rAddA X.K) := op_add.or (op_add_str.or (op_catA.or op_cat))
theorem strOk_app {a b : Str} (h1 : PyData.strOk a = true) (h2 : PyData.strOk b = true) : PyData.strOk (a ++ b) = true := by
  unfold PyData.strOk at *
  show (a.cps ++ b.cps).all _ = true
  rw [Array.all_append, h1, h2]
  rfl
theorem os_add {K : PySem.W.Frag} : OpS K (rAddA K) oAdd := by
  intro s0 N0 s μ x y ex ey q Q R xt rx fx ry fy h l
  unfold oAdd at h
  split at h
  · exact .inl ⟨_, _, vr_i rx, vr_i ry, ans R xt l h (.int _)⟩
  · have r1 : DR K s.F x _ := rx
    have r2 : DR K s.F y _ := ry
    cases r1 with
    | str _ h1 =>
      cases r2 with
      | str _ h2 => exact .inr (.inl ⟨_, _, rfl, rfl, line_of h.1, ans R xt l h.2 (.str _ (strOk_app h1 h2))⟩)
  · rename_i a b
    obtain ⟨p, vs, rfl, hp, hv⟩ := tup_ok R rx (e := .dat (.tuple a)) rfl
    obtain ⟨p2, ws, rfl, hp2, hw⟩ := tup_ok R ry (e := .dat (.tuple b)) rfl
    refine .inr (.inr (.inl ⟨_, _, vs, ws, rfl, rfl, hp, hp2, line_of (by rw [hv.length, hw.length]; exact h.1), fun e => ?_, fun _ e => ?_, fun _ _ p3 hp3 => ?_⟩))
    · subst e
      cases hv
      exact ans R xt l h.2 ry
    · subst e
      cases hw
      rw [List.append_nil] at h
      exact ans R xt l h.2 rx
    · exact ans_tup R xt l h.2 (hv.append hw) hp3
  · split at h
    · rename_i a b ha hb
      obtain ⟨p, vs, rfl, hp, hv⟩ := lst_ok R rx ha
      obtain ⟨p2, ws, rfl, hp2, hw⟩ := lst_ok R ry hb
      exact .inr (.inr (.inr ⟨_, _, vs, ws, rfl, rfl, hp, hp2, line_of (by rw [hv.length, hw.length]; exact h.1), fun p3 hp3 => ans_new R xt l h.2 (hv.append hw) hp3⟩))
    · exact h.elim
/-! ### operators of ints -/
def oI (C : Int → Int → Prop) (g : Int → Int → PyData) : OD := fun x y μ q => match x, y with
  | .dat (.int i), .dat (.int j) => C i j ∧ q (.dat (g i j)) μ
  | _, _ => False
theorem os_I {K : PySem.W.Frag} {C : Int → Int → Prop} {g : Int → Int → V} {g' : Int → Int → PyData} (hg : ∀ F i j, DR K F (g i j) (g' i j)) : OpS K (rI C g) (oI C g') := by
  intro s0 N0 s μ x y ex ey q Q R xt rx fx ry fy h l
  unfold oI at h
  split at h
  · exact ⟨_, _, vr_i rx, vr_i ry, h.1, ans R xt l h.2 (hg _ _ _)⟩
  · exact h.elim
def oI0 (g : Int → Int → PyData) : OD := fun x y μ q => match x, y with
  | .dat (.int i), .dat (.int j) => q (.dat (g i j)) μ
  | _, _ => False
theorem os_I0 {K : PySem.W.Frag} {g : Int → Int → V} {g' : Int → Int → PyData} (hg : ∀ F i j, DR K F (g i j) (g' i j)) : OpS K (rI0 g) (oI0 g') := by
  intro s0 N0 s μ x y ex ey q Q R xt rx fx ry fy h l
  unfold oI0 at h
  split at h
  · exact ⟨_, _, vr_i rx, vr_i ry, ans R xt l h (hg _ _ _)⟩
  · exact h.elim
abbrev oSub : OD := oI0 fun i j => .int (i - j)
theorem os_sub {K : PySem.W.Frag} : OpS K (rI0 fun i j => V.int (i - j)) oSub := os_I0 fun _ _ _ => .int _
abbrev oMod : OD := oI (fun _ j => 0 < j) fun i j => .int (i % j)
theorem os_mod {K : PySem.W.Frag} : OpS K (rI (fun _ j => 0 < j) fun i j => V.int (i % j)) oMod := os_I fun _ _ _ => .int _
abbrev oDiv : OD := oI CDiv fun i j => .int (i / j)
theorem os_div {K : PySem.W.Frag} : OpS K (rI CDiv fun i j => V.int (i / j)) oDiv := os_I fun _ _ _ => .int _
abbrev oPow : OD := oI CPow fun i j => .int (i ^ j.toNat)
theorem os_pow {K : PySem.W.Frag} : OpS K (rI CPow fun i j => V.int (i ^ j.toNat)) oPow := os_I fun _ _ _ => .int _
def oNeg : UD := fun x μ q => match x with
  | .dat (.int i) => q (.dat (.int (-i))) μ
  | _ => False
theorem us_neg {K : PySem.W.Frag} : UnS K (rU fun i => V.int (-i)) oNeg := by
  intro s0 N0 s μ x ex q Q R xt rx fx h l
  unfold oNeg at h
  split at h
  · exact ⟨_, vr_i rx, ans R xt l h (.int _)⟩
  · exact h.elim
/-! ### * -/
def oMul : OD := fun x y μ q => match x, y with
  | .dat (.int i), .dat (.int j) => CMul i j ∧ q (.dat (.int (i * j))) μ
  | .dat (.tuple a), .dat (.int k) => (a ≠ [] ∧ 2 ≤ k ∧ k ≤ 1000 ∧ a.length ≤ 1000) ∧ q (.dat (.tuple (List.replicate k.toNat a).flatten)) μ
  | x, .dat (.int k) => match lstOf μ x with
    | some a => (-1000 ≤ k ∧ k ≤ 1000 ∧ a.length ≤ 1000) ∧ q (.new (List.replicate k.toNat a).flatten) μ
    | none => False
  | _, _ => False
abbrev rMulA (K : PySem.W.Frag) : R2 := fun x y H Q => rI CMul (fun i j => V.int (i * j)) x y H Q ∨ (rRepT K x y H Q ∨ rRep x y H Q)
theorem opA_mul : OpR X (binaryOp .Mult) (rMulA X.K) := op_mul.or (op_repT.or op_rep)
theorem DRs.rep {K : PySem.W.Frag} {F : Hp} {vs : List V} {ds : List PyData} (h : DRs K F vs ds) : ∀ k : Nat, DRs K F (List.replicate k vs).flatten (List.replicate k ds).flatten
  | 0 => .nil
  | k + 1 => by
    rw [List.replicate_succ, List.replicate_succ, List.flatten_cons, List.flatten_cons]
    exact h.append (h.rep k)
theorem os_mul {K : PySem.W.Frag} : OpS K (rMulA K) oMul := by
  intro s0 N0 s μ x y ex ey q Q R xt rx fx ry fy h l
  unfold oMul at h
  split at h
  · exact .inl ⟨_, _, vr_i rx, vr_i ry, h.1, ans R xt l h.2 (.int _)⟩
  · rename_i a k
    obtain ⟨p, vs, rfl, hp, hv⟩ := tup_ok R rx (e := .dat (.tuple a)) rfl
    obtain ⟨⟨h1, h2, h3, h4⟩, h⟩ := h
    exact .inr (.inl ⟨_, _, vs, rfl, vr_i ry, hp, fun e => h1 (by subst e; cases hv; rfl), h2, h3, by rw [hv.length]; exact h4, fun p3 hp3 => ans_tup R xt l h (hv.rep _) hp3⟩)
  · rename_i k _ _
    split at h
    · rename_i a ha
      obtain ⟨p, vs, rfl, hp, hv⟩ := lst_ok R rx ha
      obtain ⟨⟨h1, h2, h4⟩, h⟩ := h
      refine .inr (.inr ⟨_, _, vs, rfl, vr_i ry, hp, by omega, by omega, Nat.le_trans ?_ (show 1000 * 1000 ≤ sizeLine by decide), fun p3 hp3 => ans_new R xt l h (hv.rep _) hp3⟩)
      rw [hv.length]
      have : k.toNat ≤ 1000 := by omega
      exact Nat.mul_le_mul h4 this
    · exact h.elim
  · exact h.elim
/-! ### comparisons -/
def oEq : OD := fun x y μ q => match datOf μ x, datOf μ y with
  | some d, some e => (noD d = true ∧ noD e = true) ∧ min d.depth e.depth ≤ 64 ∧ q (.dat (.bool (PyData.eqv d e))) μ
  | _, _ => False
def oNe : OD := fun x y μ q => match datOf μ x, datOf μ y with
  | some d, some e => (noD d = true ∧ noD e = true) ∧ min d.depth e.depth ≤ 64 ∧ q (.dat (.bool (!PyData.eqv d e))) μ
  | _, _ => False
abbrev rEqR (K : PySem.W.Frag) : R2 := fun x y H Q => ∃ d e, Dp K H x d ∧ Dp K H y e ∧ d.canLay0 = true ∧ e.canLay0 = true ∧ min d.depth e.depth ≤ 64 ∧ Q (.bl (PyData.eqv d e)) H
abbrev rNeR (K : PySem.W.Frag) : R2 := fun x y H Q => ∃ d e, Dp K H x d ∧ Dp K H y e ∧ d.canLay0 = true ∧ e.canLay0 = true ∧ min d.depth e.depth ≤ 64 ∧ Q (.bl (!PyData.eqv d e)) H
theorem opA_eq (hu : X.A.units + 64 < cLine) : OpR X (compareOp .Eq) (rEqR X.K) := by
  intro pins s σ H x y v u Q I rx ry h
  obtain ⟨d, e, hd, he, sd, se, hm, q⟩ := h
  obtain ⟨as, r1⟩ := Dp.reads I d x v hd rx
  obtain ⟨bs, r2⟩ := Dp.reads I e y u he ry
  exact SeqAt.compareEq_reads r1 r2 sd se (by omega) ⟨.bl _, H, I, rfl, q⟩
theorem opA_ne (hu : X.A.units + 64 < cLine) : OpR X (compareOp .NotEq) (rNeR X.K) := by
  intro pins s σ H x y v u Q I rx ry h
  obtain ⟨d, e, hd, he, sd, se, hm, q⟩ := h
  obtain ⟨as, r1⟩ := Dp.reads I d x v hd rx
  obtain ⟨bs, r2⟩ := Dp.reads I e y u he ry
  exact SeqAt.compareNe_reads r1 r2 sd se (by omega) ⟨.bl _, H, I, rfl, q⟩
theorem os_eq {K : PySem.W.Frag} : OpS K (rEqR K) oEq := by
  intro s0 N0 s μ x y ex ey q Q R xt rx fx ry fy h l
  unfold oEq at h
  split at h
  · rename_i d e hd he
    obtain ⟨⟨n1, n2⟩, h⟩ := h
    obtain ⟨a1, a2⟩ := dat_ok R rx hd n1
    obtain ⟨b1, b2⟩ := dat_ok R ry he n2
    exact ⟨d, e, a1, b1, a2, b2, h.1, ans R xt l h.2 (.bl _)⟩
  · exact h.elim
theorem os_ne {K : PySem.W.Frag} : OpS K (rNeR K) oNe := by
  intro s0 N0 s μ x y ex ey q Q R xt rx fx ry fy h l
  unfold oNe at h
  split at h
  · rename_i d e hd he
    obtain ⟨⟨n1, n2⟩, h⟩ := h
    obtain ⟨a1, a2⟩ := dat_ok R rx hd n1
    obtain ⟨b1, b2⟩ := dat_ok R ry he n2
    exact ⟨d, e, a1, b1, a2, b2, h.1, ans R xt l h.2 (.bl _)⟩
  · exact h.elim
abbrev oLt : OD := oI0 fun i j => .bool (decide (i < j))
theorem os_lt {K : PySem.W.Frag} : OpS K (rI0 fun i j => V.bl (decide (i < j))) oLt := os_I0 fun _ _ _ => .bl _
abbrev oLe : OD := oI0 fun i j => .bool (decide (i ≤ j))
theorem os_le {K : PySem.W.Frag} : OpS K (rI0 fun i j => V.bl (decide (i ≤ j))) oLe := os_I0 fun _ _ _ => .bl _
abbrev oGt : OD := oI0 fun i j => .bool (decide (j < i))
theorem os_gt {K : PySem.W.Frag} : OpS K (rI0 fun i j => V.bl (decide (j < i))) oGt := os_I0 fun _ _ _ => .bl _
abbrev oGe : OD := oI0 fun i j => .bool (decide (j ≤ i))
theorem os_ge {K : PySem.W.Frag} : OpS K (rI0 fun i j => V.bl (decide (j ≤ i))) oGe := os_I0 fun _ _ _ => .bl _
/-- is None -/
def isNon : EV → Bool
  | .dat .none => true
  | _ => false
def isRaw : EV → Bool
  | .raw _ => true
  | .per _ => true
  | _ => false
def oNotN : OD := fun x y μ q => isRaw x = false ∧ isNon y = true ∧ q (.dat (.bool (!isNon x))) μ
theorem non_iff {K : PySem.W.Frag} {s : Wd} {μ : Mu} {v : V} {e : EV} (r : VR K s μ.length v e) (h : isRaw e = false) : decide (v = .non) = isNon e := by
  cases e with
  | dat d =>
    have r' : DR K s.F v d := r
    cases r' <;> rfl
  | loc n => obtain ⟨_, rfl⟩ := r; rfl
  | new xs => obtain ⟨p, vs, rfl, _⟩ := r; rfl
  | raw u => cases h
  | exc x => obtain ⟨a, _, rfl, _⟩ := r; rfl
  | ro x => obtain ⟨a, vs, rfl, _⟩ := r; rfl
  | newd x => obtain ⟨a, vs, rfl, _⟩ := r; rfl
  | newk x => obtain ⟨a, vs, rfl, _⟩ := r; rfl
  | «at» _ _ _ => cases r; rfl
  | newo _ => obtain ⟨⟨p, rfl, _⟩, _⟩ := r; rfl
  | per _ => cases h
theorem isNon_ok {K : PySem.W.Frag} {s : Wd} {μ : Mu} {v : V} {e : EV} (r : VR K s μ.length v e) (h : isNon e = true) : v = .non := by
  unfold isNon at h
  split at h
  · exact vr_n r
  · cases h
theorem os_notN {K : PySem.W.Frag} : OpS K (fun x y H Q => y = .non ∧ Q (.bl (!decide (x = .non))) H) oNotN := by
  intro s0 N0 s μ x y ex ey q Q R xt rx fx ry fy h l
  obtain ⟨h1, h2, h3⟩ := h
  refine ⟨isNon_ok ry h2, ?_⟩
  rw [non_iff rx h1]
  exact ans R xt l h3 (.bl _)
/-- one sign within a text -/
def oInSign (neg : Bool) : OD := fun x y μ q => match x, y with
  | .dat (.str a), .dat (.str z) => ∃ c, a = ⟨#[c]⟩ ∧ q (.dat (.bool (if neg then !decide (c ∈ z.cps.toList) else decide (c ∈ z.cps.toList)))) μ
  | _, _ => False
theorem os_inSign {K : PySem.W.Frag} : OpS K (fun x y H Q => ∃ (c : Nat) (z : Str), x = .str ⟨#[c]⟩ ∧ y = .str z ∧ Q (.bl (decide (c ∈ z.cps.toList))) H) (oInSign false) := by
  intro s0 N0 s μ x y ex ey q Q R xt rx fx ry fy h l
  unfold oInSign at h
  split at h
  · obtain ⟨c, rfl, h⟩ := h
    exact ⟨c, _, vr_s rx, vr_s ry, ans R xt l h (.bl _)⟩
  · exact h.elim
theorem os_notInSign {K : PySem.W.Frag} : OpS K (fun x y H Q => ∃ (c : Nat) (z : Str), x = .str ⟨#[c]⟩ ∧ y = .str z ∧ Q (.bl (!decide (c ∈ z.cps.toList))) H) (oInSign true) := by
  intro s0 N0 s μ x y ex ey q Q R xt rx fx ry fy h l
  unfold oInSign at h
  split at h
  · obtain ⟨c, rfl, h⟩ := h
    exact ⟨c, _, vr_s rx, vr_s ry, ans R xt l h (.bl _)⟩
  · exact h.elim
/-! ### subscripts, slices -/
def oIx : OD := fun x y μ q => match y with
  | .dat (.int i) => match x with
    | .dat (.str z) => z.length ≤ 100000 ∧ ∃ c, atI z.cps.toList i = some c ∧ q (.dat (.str ⟨#[c]⟩)) μ
    | x => match seqOf μ x with
      | some ds => ∃ d, atI ds i = some d ∧ q (.dat d) μ
      | none => False
  | _ => False
theorem atI_len {α β : Type} {xs : List α} {ys : List β} (h : xs.length = ys.length) {i : Int} {y : β} (e : atI ys i = some y) : ∃ j, ixN xs.length i = some j ∧ ys[j]? = some y := by
  unfold atI at e
  rw [h]
  cases q : ixN ys.length i with
  | none => rw [q] at e; cases e
  | some j => rw [q] at e; exact ⟨j, rfl, e⟩
theorem DRs.atI {K : PySem.W.Frag} {F : Hp} {vs : List V} {ds : List PyData} {i : Int} {d : PyData} (h : DRs K F vs ds) (e : L2.atI ds i = some d) : ∃ v, L2.atI vs i = some v ∧ DR K F v d := by
  obtain ⟨j, h1, h2⟩ := atI_len h.length e
  obtain ⟨v, h3, h4⟩ := h.get h2
  refine ⟨v, ?_, h4⟩
  unfold L2.atI
  rw [h1]
  exact h3
theorem strOk_at {z : Str} {c : Nat} (h : PyData.strOk z = true) (hc : c ∈ z.cps.toList) : PyData.strOk ⟨#[c]⟩ = true := by
  unfold PyData.strOk at *
  rw [Array.all_eq_true_iff_forall_mem] at h
  have := h c (by simpa using hc)
  simpa using this
theorem atI_mem {α : Type} {xs : List α} {i : Int} {c : α} (h : L2.atI xs i = some c) : c ∈ xs := by
  unfold L2.atI at h
  cases q : ixN xs.length i with
  | none => rw [q] at h; cases h
  | some j => rw [q] at h; exact List.mem_of_getElem? h
theorem os_ix {K : PySem.W.Frag} : OpS K (rIx K) oIx := by
  intro s0 N0 s μ x y ex ey q Q R xt rx fx ry fy h l
  unfold oIx at h
  split at h
  · split at h
    · obtain ⟨hz, c, hc, h⟩ := h
      have r1 : DR K s.F x _ := rx
      cases r1 with
      | str _ h1 => exact .inr (.inr ⟨_, _, c, rfl, vr_i ry, line_of hz, hc, ans R xt l h (.str _ (strOk_at h1 (atI_mem hc)))⟩)
    · split at h
      · rename_i ds hds
        obtain ⟨d, hd, h⟩ := h
        obtain ⟨a, vs, rfl, hs, hv⟩ := seq_ok R rx hds
        obtain ⟨v, h1, h2⟩ := hv.atI hd
        rcases hs with hs | hs
        · exact .inl ⟨_, vs, _, v, rfl, vr_i ry, hs, h1, ans R xt l h h2⟩
        · exact .inr (.inl ⟨_, vs, _, v, rfl, vr_i ry, hs, h1, ans R xt l h h2⟩)
      · exact h.elim
  · exact h.elim
def cutD (ds : List PyData) (lo hi : Option Int) : List PyData := (ds.drop (HT.sIx ds.length 0 lo)).take (HT.sIx ds.length ds.length hi - HT.sIx ds.length 0 lo)
theorem DRs.cut {K : PySem.W.Frag} {F : Hp} {vs : List V} {ds : List PyData} (h : DRs K F vs ds) (lo hi : Option Int) : DRs K F (cutV vs lo hi) (cutD ds lo hi) := by
  unfold cutV cutD
  rw [h.length]
  exact (h.drop _).take _
abbrev rSlAny (K : PySem.W.Frag) : V → Option Int → Option Int → Hp → VK → Prop := fun x lo hi H Q => rSlL K x lo hi H Q ∨ (rSlA K x lo hi H Q ∨ rSlS x lo hi H Q)
theorem slA : SlR X (rSlAny X.K) := sl_list.or (sl_tupA.or sl_str)
def oSl : SD := fun x lo hi μ q => match x with
  | .dat (.str z) => z.length ≤ 100000 ∧ q (.dat (.str (cutS z lo hi))) μ
  | .dat (.tuple ds) => q (.dat (.tuple (cutD ds lo hi))) μ
  | .ro ds => q (.new (cutD ds lo hi)) μ
  | x => match lstOf μ x with
    | some ds => q (.new (cutD ds lo hi)) μ
    | none => False
theorem cutD_whole {ds : List PyData} {lo hi : Option Int} (h1 : HT.sIx ds.length 0 lo = 0) (h2 : HT.sIx ds.length ds.length hi = ds.length) : cutD ds lo hi = ds := by
  unfold cutD
  rw [h1, h2]
  simp
theorem strOk_cut {z : Str} {lo hi : Option Int} (h : PyData.strOk z = true) : PyData.strOk (cutS z lo hi) = true := by
  unfold PyData.strOk cutS at *
  rw [Array.all_eq_true_iff_forall_mem] at *
  intro c hc
  refine h c ?_
  have h1 : c ∈ (z.cps.toList.drop (HT.sIx z.length 0 lo)).take (HT.sIx z.length z.length hi - HT.sIx z.length 0 lo) := by simpa using hc
  exact Array.mem_toList_iff.mp (List.mem_of_mem_drop (List.mem_of_mem_take h1))
theorem os_sl {K : PySem.W.Frag} : SlS K (rSlAny K) oSl := by
  intro s0 N0 s μ x ex lo hi q Q R xt rx fx h l
  unfold oSl at h
  split at h
  · have r1 : DR K s.F x _ := rx
    cases r1 with
    | str _ h1 => exact .inr (.inr ⟨_, rfl, line_of h.1, ans R xt l h.2 (.str _ (strOk_cut h1))⟩)
  · rename_i ds
    obtain ⟨p, vs, rfl, hp, hv⟩ := tup_ok R rx (e := .dat (.tuple ds)) rfl
    refine .inr (.inl ⟨p, vs, rfl, hp, fun e => ?_, fun _ p3 hp3 => ans_tup R xt l h (hv.cut lo hi) hp3⟩)
    rw [hv.length] at e
    rw [cutD_whole e.1 e.2] at h
    exact ans R xt l h rx
  · obtain ⟨p, vs, rfl, hp, hv⟩ := rx
    exact .inl ⟨p, vs, rfl, R.sub.seq hp, fun p3 hp3 => ans_new R xt l h (hv.cut lo hi) hp3⟩
  · split at h
    · rename_i ds hds
      obtain ⟨p, vs, rfl, hp, hv⟩ := lst_ok R rx hds
      exact .inl ⟨p, vs, rfl, SqL.of hp, fun p3 hp3 => ans_new R xt l h (hv.cut lo hi) hp3⟩
    · exact h.elim
/-! ### built-ins -/
/-- len -/
def oLen : CD := fun es μ q => match es with
  | [.dat (.str z)] => z.length ≤ 100000 ∧ q (.dat (.int z.length)) μ
  | [e] => match seqOf μ e with
    | some ds => q (.dat (.int ds.length)) μ
    | none => False
  | _ => False
theorem cs_len {K : PySem.W.Frag} : CallS K (fun xs H Q => ∃ x n, xs = [x] ∧ LenV K x H n ∧ Q (.int n) H) oLen := by
  intro s0 N0 s μ xs es q Q R xt r h l
  unfold oLen at h
  split at h
  · cases r with
    | cons rx fx rr =>
      cases rr
      exact ⟨_, _, rfl, by rw [vr_s rx]; exact ⟨line_of h.1, rfl⟩, ans R xt l h.2 (.int _)⟩
  · cases r with
    | cons rx fx rr =>
      cases rr
      split at h
      · rename_i ds hds
        obtain ⟨a, vs, rfl, hs, hv⟩ := seq_ok R rx hds
        refine ⟨_, ds.length, rfl, ?_, ans R xt l h (.int _)⟩
        rcases hs with hs | hs
        · exact .inl ⟨vs, hs, hv.length.symm⟩
        · exact .inr ⟨vs, hs, hv.length.symm⟩
      · exact h.elim
  · exact h.elim
/-- list(x), tuple(x) of a list or a tuple -/
def oList : CD := fun es μ q => match es with
  | [e] => match seqOf μ e with
    | some ds => q (.new ds) μ
    | none => False
  | _ => False
theorem cs_list {K : PySem.W.Frag} : CallS K (fun xs H Q => ∃ p ys, xs = [.ref p] ∧ (SqL K H p ys ∨ SqT K H p ys) ∧ ∀ l, H l = none → Q (.ref l) (upd H l (.lst ys))) oList := by
  intro s0 N0 s μ xs es q Q R xt r h l
  unfold oList at h
  split at h
  · cases r with
    | cons rx fx rr =>
      cases rr
      split at h
      · rename_i ds hds
        obtain ⟨a, vs, rfl, hs, hv⟩ := seq_ok R rx hds
        exact ⟨a, vs, rfl, hs, fun p hp => ans_new R xt l h hv hp⟩
      · exact h.elim
  · exact h.elim
def oTuple : CD := fun es μ q => match es with
  | [e] => match seqOf μ e with
    | some ds => q (.dat (.tuple ds)) μ
    | none => False
  | _ => False
theorem cs_tuple {K : PySem.W.Frag} : CallS K (fun xs H Q => ∃ p ys, xs = [.ref p] ∧ ((SqL K H p ys ∧ ∀ l, H l = none → Q (.ref l) (upd H l (.tup ys))) ∨ (SqT K H p ys ∧ Q (.ref p) H))) oTuple := by
  intro s0 N0 s μ xs es q Q R xt r h l
  unfold oTuple at h
  split at h
  · rename_i e
    cases r with
    | cons rx fx rr =>
      cases rr
      unfold seqOf at h
      cases ht : tupOf e with
      | some ds =>
        rw [ht] at h
        obtain ⟨a, vs, rfl, hs, hv⟩ := tup_ok R rx ht
        have : e = .dat (.tuple ds) := by
          unfold tupOf at ht
          split at ht
          · cases ht; rfl
          · cases ht
        subst this
        exact ⟨a, vs, rfl, .inr ⟨hs, ans R xt l h rx⟩⟩
      | none =>
        rw [ht] at h
        cases hr : roOf e with
        | some ds =>
          rw [hr] at h
          cases e with
          | ro ys =>
            cases hr
            obtain ⟨a, vs, rfl, hs, hv⟩ := rx
            exact ⟨a, vs, rfl, .inl ⟨R.sub.seq hs, fun p hp => ans_tup R xt l h hv hp⟩⟩
          | _ => cases hr
        | none =>
        rw [hr] at h
        cases hl : lstOf μ e with
        | none => rw [hl] at h; exact h.elim
        | some ds =>
          rw [hl] at h
          obtain ⟨a, vs, rfl, hs, hv⟩ := lst_ok R rx hl
          exact ⟨a, vs, rfl, .inl ⟨SqL.of hs, fun p hp => ans_tup R xt l h hv hp⟩⟩
  · exact h.elim
/-- max, min of two -/
def oMax2 : CD := fun es μ q => match es with
  | [.dat (.int i), .dat (.int j)] => q (.dat (.int (if j > i then j else i))) μ
  | _ => False
def oMin2 : CD := fun es μ q => match es with
  | [.dat (.int i), .dat (.int j)] => q (.dat (.int (if j < i then j else i))) μ
  | _ => False
theorem cs_max2 {K : PySem.W.Frag} : CallS K (fun xs H Q => ∃ i j, xs = [.int i, .int j] ∧ Q (.int (if j > i then j else i)) H) oMax2 := by
  intro s0 N0 s μ xs es q Q R xt r h l
  unfold oMax2 at h
  split at h
  · cases r with
    | cons rx fx rr =>
      cases rr with
      | cons ry fy rr =>
        cases rr
        exact ⟨_, _, by rw [vr_i rx, vr_i ry], ans R xt l h (.int _)⟩
  · exact h.elim
theorem cs_min2 {K : PySem.W.Frag} : CallS K (fun xs H Q => ∃ i j, xs = [.int i, .int j] ∧ Q (.int (if j < i then j else i)) H) oMin2 := by
  intro s0 N0 s μ xs es q Q R xt r h l
  unfold oMin2 at h
  split at h
  · cases r with
    | cons rx fx rr =>
      cases rr with
      | cons ry fy rr =>
        cases rr
        exact ⟨_, _, by rw [vr_i rx, vr_i ry], ans R xt l h (.int _)⟩
  · exact h.elim
/-- all, any of a list of truths -/
def boolsOf : List PyData → Option (List Bool)
  | [] => some []
  | .bool b :: r => (boolsOf r).map (b :: ·)
  | _ :: _ => none
theorem bools_map (bs : List Bool) : boolsOf (bs.map .bool) = some bs := by
  induction bs with
  | nil => rfl
  | cons b r ih => show (boolsOf (r.map .bool)).map _ = _; rw [ih]; rfl
theorem bools_ok {K : PySem.W.Frag} {F : Hp} : ∀ {vs : List V} {ds : List PyData} {bs : List Bool}, DRs K F vs ds → boolsOf ds = some bs → vs = bs.map V.bl
  | _, _, _, .nil, h => by cases h; rfl
  | _, _, _, .cons (ds := ds) r rs, h => by
    cases r with
    | bl b =>
      unfold boolsOf at h
      cases q : boolsOf ds with
      | none => rw [q] at h; cases h
      | some cs =>
        rw [q] at h
        cases h
        rw [bools_ok rs q]
        rfl
    | _ => cases h
def oAll (f : List Bool → Bool) : CD := fun es μ q => match es with
  | [e] => match lstOf μ e with
    | some ds => match boolsOf ds with
      | some bs => q (.dat (.bool (f bs))) μ
      | none => False
    | none => False
  | _ => False
theorem cs_all {K : PySem.W.Frag} : CallS K (rAll K) (oAll fun bs => bs.all id) := by
  intro s0 N0 s μ xs es q Q R xt r h l
  unfold oAll at h
  split at h
  · cases r with
    | cons rx fx rr =>
      cases rr
      split at h
      · rename_i ds hds
        split at h
        · rename_i bs hbs
          obtain ⟨a, vs, rfl, hs, hv⟩ := lst_ok R rx hds
          obtain rfl := bools_ok hv hbs
          exact ⟨a, bs, rfl, SqL.of hs, ans R xt l h (.bl _)⟩
        · exact h.elim
      · exact h.elim
  · exact h.elim
/-- isinstance with a built-in class -/
def tyOf : PyData → String
  | .none => "NoneType"
  | .bool _ => "bool"
  | .int _ => "int"
  | .str _ => "str"
  | .list _ => "list"
  | .tuple _ => "tuple"
  | .dict _ => "dict"
def tyK : Knd → String
  | .lst => "list"
  | .tup => "tuple"
  | .dck _ => "dict"
  | .dct _ => "dict"
  | .ins _ _ => ""
  | .gho => ""
def tyE (μ : Mu) : EV → String
  | .dat d => tyOf d
  | .new _ => "list"
  | .newd _ => "dict"
  | .newk _ => "dict"
  | .loc n => match μ[n]? with
    | some (.lst _) => "list"
    | some (.frz _) => "list"
    | some (.dct _) => "dict"
    | some (.dck _) => "dict"
    | _ => ""
  | .at n p b => match nodeAt μ n p with
    | some (.nod k b' _) => if b' = b then tyK k else ""
    | _ => ""
  | _ => ""
def isT (a b : String) : Bool := a == b || (a == "bool" && b == "int")
def oIsi : CD := fun es μ q => match es with
  | [e, .raw (.ty b)] => (tyE μ e ∈ ["NoneType", "bool", "int", "str", "list", "tuple", "dict"] ∧ b ∈ ["bool", "int", "str", "list", "tuple", "dict"]) ∧ q (.dat (.bool (isT (tyE μ e) b))) μ
  | _ => False
/-- a value's class; a locked dict too -/
def TyY (K : PySem.W.Frag) (H : Hp) (x : V) (t : Value) : Prop := TyX K H x t ∨ ∃ (a : Addr) (o : Obj) (kvs : List (List Key × V)), x = .ref a ∧ H a = some (.frz o (.dT kvs)) ∧ t = .type "dict"
def rIsiY (K : PySem.W.Frag) : List V → Hp → VK → Prop := fun xs H Q => ∃ (x c : V) (t u : Value) (b : Bool), xs = [x, c] ∧ ClsV c u ∧ TyY K H x t ∧ PySem.W.kitOne K t u = some b ∧ Q (.bl b) H
theorem call_isiY {X : Cx} : CallR X (.builtin "isinstance") (rIsiY X.K) := by
  intro pins s σ H xs us Q I r h
  obtain ⟨x, c, t, u, b, rfl, k, ty, e, q⟩ := h
  rcases ty with ty | ⟨a, ob, kvs, rfl, ea, rfl⟩
  · exact call_isi pins s σ H _ us Q I r ⟨x, c, t, u, b, rfl, k, ty, e, q⟩
  · obtain ⟨u1, u2, rfl, r1, r2⟩ := vals2 r
    have e2 := k.eq r2
    subst e2
    cases (show u1 = Value.ref a from r1)
    obtain ⟨_, _, _, xs, _, o, es, ep, h1, h2, _⟩ := (show ObjOk X.prog X.w H s.heap a (.frz ob (.dT kvs)) from I.hok a _ ea)
    exact PySem.W.kia_one PySem.W.kitx_dict I.kIn (show ∃ o, _ from ⟨o, h1, h2.1⟩) e (fun z => nomatch z) fun tk => ⟨.bl b, H, I.tok tk, rfl, q⟩
theorem ty_ok {K : PySem.W.Frag} {s : Wd} {μ : Mu} {v : V} {e : EV} (R : Rep K s μ) (r : VR K s μ.length v e) (h : tyE μ e ∈ ["NoneType", "bool", "int", "str", "list", "tuple", "dict"]) : TyY K s.H v (.type (tyE μ e)) := by
  cases e with
  | dat d =>
    have r' : DR K s.F v d := r
    cases r' with
    | non => exact .inl (.base .non)
    | bl b => exact .inl (.base (.bl b))
    | int i => exact .inl (.base (.int i))
    | str x _ => exact .inl (.base (.str x))
    | lst h1 _ => exact .inl (.base (.lst (R.sub _ _ h1)))
    | tup h1 _ => exact .inl (.base (.tup (R.sub _ _ h1)))
    | dcT h1 _ _ _ => exact .inr ⟨_, _, _, rfl, R.sub _ _ h1, rfl⟩
    | dcK h1 _ _ _ _ => exact .inl (.fDict (R.sub _ _ h1))
  | new xs => obtain ⟨p, vs, rfl, a2, _⟩ := r; exact .inl (.base (.lst a2))
  | loc n =>
    obtain ⟨hn, rfl⟩ := r
    unfold tyE at h ⊢
    simp only at h ⊢
    cases hc : μ[n]? with
    | none => rw [hc] at h; simp at h
    | some c =>
      rw [hc] at h
      have C := R.cell n c hc
      cases c with
      | lst xs => obtain ⟨_, vs, a2, _⟩ := C; exact .inl (.base (.lst a2))
      | frz xs => obtain ⟨vs, a2, _⟩ := C; exact .inl (.base (.lst (R.sub _ _ a2)))
      | dct kvs =>
        obtain ⟨_, ks, a2, _⟩ := C
        exact .inl (.base (.dT a2))
      | dck kvs =>
        obtain ⟨_, ks, a2, _⟩ := C
        exact .inl (.base (.dK a2))
      | abs _ => simp at h
      | tab _ _ => simp at h
      | own _ => simp at h
      | dead => simp at h
  | raw u => simp [tyE] at h
  | exc x => simp [tyE] at h
  | ro x => simp [tyE] at h
  | newd x => obtain ⟨p, vs, rfl, a2, _⟩ := r; exact .inl (.base (.dT a2))
  | newk x => obtain ⟨p, vs, rfl, a2, _⟩ := r; exact .inl (.base (.dK a2))
  | «at» n p b =>
    unfold tyE at h ⊢
    simp only at h ⊢
    split at h
    · rename_i k b' ts hn
      split at h
      · rename_i e1
        subst e1
        obtain ⟨vs, h1, _, _⟩ := node_is R hn
        have rv : v = .ref b' := r
        subst rv
        rw [if_pos rfl]
        cases k with
        | lst => exact .inl (.base (.lst h1))
        | tup => exact .inl (.base (.tup h1))
        | dck ks => exact .inl (.base (.dK h1.1))
        | dct ks => exact .inl (.base (.dT h1.1))
        | ins C fs => simp [tyK] at h
        | gho => simp [tyK] at h
      · simp at h
    · simp at h
  | newo _ => simp [tyE] at h
  | per _ => simp [tyE] at h
theorem kit_all : ∀ a ∈ ["NoneType", "bool", "int", "str", "list", "tuple", "dict"], ∀ b ∈ ["bool", "int", "str", "list", "tuple", "dict"], kitB a b = some (isT a b) := by decide +kernel
theorem cs_isi {K : PySem.W.Frag} : CallS K (rIsiY K) oIsi := by
  intro s0 N0 s μ xs es q Q R xt r h l
  unfold oIsi at h
  split at h
  · rename_i e b
    cases r with
    | cons rx fx rr =>
      cases rr with
      | cons ry fy rr =>
        cases rr
        have ry' : _ = V.ty b := ry
        subst ry'
        exact ⟨_, _, _, _, _, rfl, .ty b, ty_ok R rx h.1.1, kit_ty (kit_all _ h.1.1 _ h.1.2), ans R xt l h.2 (.bl _)⟩
  · exact h.elim
/-! ### what is walked -/
theorem walkL {K : PySem.W.Frag} {s0 : Wd} {N0 : Nat} {a : Addr} {xs : List PyData} {G : Mu → Prop} (hd : ∀ s μ, Ext s0 N0 s μ.length → Rep K s μ → G μ → ∃ vs, SqL K s.H a vs ∧ DRs K s.F vs xs) : WalkS K (Itl K a) s0 N0 (xs.map .dat) G := by
  intro n s μ x R g
  obtain ⟨vs, h1, h2⟩ := hd s μ x R g
  have hl := h2.length
  refine ⟨fun hn => ?_, ⟨vs, h1, by simp [hl]⟩, fun v H' hn hy => ?_⟩
  · have hn' : n < vs.length := by simpa [hl] using hn
    exact ⟨vs, vs[n], h1, by simp [hn']⟩
  · obtain ⟨e1, e2⟩ := hy
    obtain ⟨d, h3, h4⟩ := h2.getV (e2 vs h1)
    exact ⟨s, .dat d, e1.symm, by rw [List.getElem?_map, h3]; rfl, rfl, Ext.refl _ _, R, h4⟩
theorem walkT {K : PySem.W.Frag} {s0 : Wd} {N0 : Nat} {a : Addr} {vs : List V} {xs : List PyData} {G : Mu → Prop} (hd : ∀ s μ, Ext s0 N0 s μ.length → Rep K s μ → G μ → SqT K s.H a vs ∧ DRs K s.F vs xs) : WalkS K (Itt K a) s0 N0 (xs.map .dat) G := by
  intro n s μ x R g
  obtain ⟨h1, h2⟩ := hd s μ x R g
  have hl := h2.length
  refine ⟨fun hn => ?_, ⟨vs, h1, by simp [hl]⟩, fun v H' hn hy => ?_⟩
  · have hn' : n < vs.length := by simpa [hl] using hn
    exact ⟨vs, vs[n], h1, by simp [hn']⟩
  · obtain ⟨e1, e2⟩ := hy
    obtain ⟨d, h3, h4⟩ := h2.getV (e2 vs h1)
    exact ⟨s, .dat d, e1.symm, by rw [List.getElem?_map, h3]; rfl, rfl, Ext.refl _ _, R, h4⟩
theorem walkZ {K : PySem.W.Frag} {s0 : Wd} {N0 : Nat} {z : Str} {F : Hp} {v0 : V} (r0 : DR K F v0 (.str z)) {G : Mu → Prop} : WalkS K (Its z) s0 N0 (z.cps.toList.map fun c => .dat (.str ⟨#[c]⟩)) G := by
  have hz : PyData.strOk z = true := by cases r0; assumption
  intro n s μ x R g
  refine ⟨fun hn => (by simpa using hn : n < z.cps.size), ?_, fun v H' hn hy => ?_⟩
  · show z.cps.size ≤ _
    simp
  · obtain ⟨e1, c, hc, rfl⟩ := hy
    have hc' : z.cps.toList[n]? = some c := by simpa using hc
    refine ⟨s, .dat (.str ⟨#[c]⟩), e1.symm, by rw [List.getElem?_map, hc']; rfl, rfl, Ext.refl _ _, R, .str _ (strOk_at hz (List.mem_of_getElem? hc'))⟩
end
end DL
set_option Elab.async false
set_option linter.all false
set_option maxRecDepth 100000
set_option maxHeartbeats 4000000
namespace DL
open PySem L2 PyProof.Rows
/-! ### range -/
def rngItems (lo : Int) (n : Nat) : List EV := (List.range n).map fun k => .dat (.int (lo + (k : Nat)))
theorem walkR {K : PySem.W.Frag} {s0 : Wd} {N0 : Nat} {lo : Int} {n : Nat} {G : Mu → Prop} : WalkS K (Itr lo n) s0 N0 (rngItems lo n) G := by
  intro m s μ x R g
  refine ⟨fun hn => (by simpa [rngItems] using hn : m < n), ?_, fun v H' hn hy => ?_⟩
  · show n ≤ _
    simp [rngItems]
  · obtain ⟨e1, rfl⟩ := hy
    have hn' : m < n := by simpa [rngItems] using hn
    refine ⟨s, .dat (.int (lo + (m : Nat))), e1.symm, by simp [rngItems, hn'], rfl, Ext.refl _ _, R, .int _⟩
def iRange1 (t : TDA) : TDI := fun η μ r E => t η μ (fun es μ1 => match es with
  | [.dat (.int j)] => (-1000000 ≤ j ∧ j ≤ 1000000) ∧ r (rngItems 0 j.toNat) (fun _ => True) μ1
  | _ => False) E
section
variable {X : Cx} {W : WX} {tg a b : Expr} {t : TDA} {p pos : Pos}
theorem di_range1 (hg : Gl X "range") (hm : X.mg "range" = none) (ha : DA X W [a] t) (hs : starEach [a] X.env = [(false, eval a X.env)] := by rfl) : DI X W tg (.Call (.Name "range" p) [a] [] pos) (iRange1 t) := by
  obtain ⟨t1, p1, g1⟩ := ha.ex
  refine ⟨_, pi_range1 hg hm p1 hs, fun s σ η μ R r E S hq l lx => g1 s σ η μ _ _ E S hq (fun es μ1 vs s1 hk x1 R1 rv => ?_) lx⟩
  split at hk
  · cases rv with
    | cons rx fx rr =>
      cases rr
      obtain ⟨⟨h1, h2⟩, hk⟩ := hk
      exact ⟨_, by rw [vr_i rx], by omega, by omega, l _ _ _ μ1 s1 hk x1 R1 walkR⟩
  · exact hk.elim
end
/-! ### methods of built-in types -/
abbrev MD := EV → List EV → Mu → PQ → Prop
def MtS (K : PySem.W.Frag) (r : V → List V → Hp → VK → Prop) (o : MD) : Prop := ∀ (s0 : Wd) (N0 : Nat) (s : Wd) (μ : Mu) (x : V) (xs : List V) (ex : EV) (es : List EV) (q : PQ) (Q : VK), Rep K s μ → Ext s0 N0 s μ.length → VR K s μ.length x ex → Frsh s0.H x ex → VRs K s μ.length s0.H xs es →
  o ex es μ q → LE K s0 N0 q Q → r x xs s.H Q
/-- the receiver's type -/
def RcS (K : PySem.W.Frag) (T : String) (ty : EV → Mu → Prop) : Prop := ∀ (s : Wd) (μ : Mu) (x : V) (ex : EV), Rep K s μ → VR K s μ.length x ex → ty ex μ → tyV K T x s.H
def isLstE : EV → Mu → Prop := fun e μ => (lstOf μ e).isSome = true
theorem rc_lst {K : PySem.W.Frag} : RcS K "list" isLstE := by
  intro s μ x ex R r h
  unfold isLstE at h
  obtain ⟨ds, hds⟩ := Option.isSome_iff_exists.mp h
  obtain ⟨a, vs, rfl, h1, h2⟩ := lst_ok R r hds
  exact .inl ⟨rfl, vs, SqL.of h1⟩
def dBM (ty : EV → Mu → Prop) (o : MD) (to : TDE) (t : TDA) : TDE := fun η μ q E => to η μ (fun x μ1 => ty x μ1 ∧ t η μ1 (fun es μ2 => o x es μ2 q) E) E
section
variable {X : Cx} {W : WX} {eo e : Expr} {es : List Expr} {to : TDE} {t : TDA} {name : Str} {apos cpos : Pos} {T id : String} {r : V → List V → Hp → VK → Prop} {ty : EV → Mu → Prop} {o : MD}
theorem de_bm (pa : PlainAttrs T) (slot : Slot T name id) (hty : typeOf (.builtin id) = pure (.type "method_descriptor")) (hm : MtR X id r) (rc : RcS X.K T ty) (ms : MtS X.K r o) (ho : DE X W eo to) (ha : DA X W (e :: es) t)
    (hbase : attributeBase eo name X.env (eval eo X.env) = eval eo X.env := by rfl)
    (hfew : ((backTo cpos (starEach (e :: es) X.env)).all (fun x => !x.1) && (backToKw cpos (keywordEach [] X.env)).all (fun x => x.1.isSome)
      && decide ((e :: es).length + ([] : List Keyword).length + (if ([] : List Keyword).isEmpty then 0 else 1) < 30)) = true := by rfl)
    (hline : (apos.endLine == cpos.line) = true := by rfl) (hs : starEach (e :: es) X.env = (false, eval e X.env) :: starEach es X.env := by rfl) (hplain : (backTo cpos (starEach es X.env)).any (·.1) = false := by rfl) :
    DE X W (.Call (.Attribute eo name apos) (e :: es) [] cpos) (dBM ty o to t) := by
  obtain ⟨t1, p1, g1⟩ := ho.ex
  obtain ⟨t2, p2, g2⟩ := ha.ex
  refine de_pe (pe_bm pa slot hty hm p1 p2 hbase hfew hline hs hplain) fun s σ η μ Q q E S hq l lx => g1 s σ η μ _ _ E S hq (fun ex μ1 x s1 hk1 x1 R1 r1 f1 => ?_) lx
  refine ⟨rc s1 μ1 x ex R1 r1 hk1.1, g2 s1 σ η μ1 _ _ E (S.go x1 R1) hk1.2 (fun es' μ2 vs s2 hk2 x2 R2 r2 => ?_) (lx.go x1 R1)⟩
  have h1 := fun n (hn : n < μ1.length) => R1.here hn
  exact ms s _ s2 μ2 x vs ex es' q Q R2 (x1.trans x2 h1) (r1.ext x2) f1 (r2.back x1 h1) hk2 l
end
/-! join -/
/-! ### lists that change -/
theorem mut_ok {K : PySem.W.Frag} {s0 s : Wd} {N0 n : Nat} {μ : Mu} {xs ys : List PyData} {ws : List V} (R : Rep K s μ) (x : Ext s0 N0 s μ.length) (hn : μ[n]? = some (.lst xs)) (hd : DRs K s.F ws ys) :
    Rep K { s with H := upd s.H (s.L n) (.lst ws) } (μ.set n (.lst ys)) ∧ Ext s0 N0 { s with H := upd s.H (s.L n) (.lst ws) } (μ.set n (.lst ys)).length := by
  obtain ⟨hf, vs, hp, hv⟩ := R.cell n _ hn
  have hlt := (List.getElem?_eq_some_iff.mp hn).1
  exact mut_g R x hlt hf ⟨hf, ws, upd_same, hd⟩ (fun t z => nomatch z)
def withL (μ : Mu) (e : EV) (k : Nat → List PyData → Prop) : Prop := match e with
  | .loc n => match μ[n]? with
    | some (.lst xs) => k n xs
    | _ => False
  | _ => False
theorem withL_ex {μ : Mu} {e : EV} {k : Nat → List PyData → Prop} (h : withL μ e k) : ∃ n xs, e = .loc n ∧ μ[n]? = some (.lst xs) ∧ k n xs := by
  unfold withL at h
  split at h
  · split at h
    · exact ⟨_, _, rfl, by assumption, h⟩
    · exact h.elim
  · exact h.elim
def oAppend : MD := fun x es μ q => withL μ x fun n xs => match es with
  | [.dat d] => xs.length < 100000 ∧ q (.dat .none) (μ.set n (.lst (xs ++ [d])))
  | _ => False
theorem line_lt {n : Nat} (h : n < 100000) : n < sizeLine := Nat.lt_of_lt_of_le h (by decide)
theorem ms_append {K : PySem.W.Frag} : MtS K rAppend oAppend := by
  intro s0 N0 s μ x xs ex es q Q R xt rx fx r h l
  obtain ⟨n, ys, rfl, hn, h⟩ := withL_ex h
  obtain ⟨hlt, rfl⟩ := rx
  split at h
  · cases r with
    | cons ry fy rr =>
      cases rr
      obtain ⟨hf, vs, hp, hv⟩ := R.cell n _ hn
      obtain ⟨a1, a2⟩ := mut_ok R xt hn (hv.append (.cons ry .nil))
      exact ⟨_, vs, _, rfl, rfl, hp, line_lt (by rw [hv.length]; exact h.1), l (.dat .none) _ .non _ h.2 a2 a1 .non trivial⟩
  · exact h.elim
/-- xs[i] = v -/
def oSetL : SetD := fun x y z μ q => withL μ x fun n xs => match y, z with
  | .dat (.int k), .dat d => ∃ j, ixN xs.length k = some j ∧ q (μ.set n (.lst (xs.set j d)))
  | _, _ => False
theorem ss_list {K : PySem.W.Frag} : SetS K rSetL oSetL := by
  intro s0 N0 s μ x y z ex ey ez q Q R xt rx ry rz h l
  obtain ⟨n, ys, rfl, hn, h⟩ := withL_ex h
  obtain ⟨hlt, rfl⟩ := rx
  split at h
  · obtain ⟨j, hj, h⟩ := h
    obtain ⟨hf, vs, hp, hv⟩ := R.cell n _ hn
    obtain ⟨a1, a2⟩ := mut_ok R xt hn (hv.set rz j)
    exact ⟨_, vs, _, j, rfl, vr_i ry, hp, by rw [hv.length]; exact hj, l _ _ h a2 a1⟩
  · exact h.elim
end DL
set_option Elab.async false
set_option linter.all false
set_option maxRecDepth 100000
set_option maxHeartbeats 4000000
namespace DL
open PySem L2 PyProof.Rows
/-! ### words for whole programs -/
/-- a new list, a new dict becomes still, all else is as it is -/
def stlK (q : PQ) : PQ := fun e μ1 => match e with
  | .new xs => q (.dat (.list xs)) μ1
  | .newd kvs => q (.dat (.dict (kvT kvs))) μ1
  | .newk kvs => kvs ≠ [] ∧ q (.dat (.dict (kvK kvs))) μ1
  | e => q e μ1
def dStl (t : TDE) : TDE := fun η μ q E => t η μ (stlK q) E
/-- what is told may be locked for good -/
def tLk (t : TE) : TE := fun σ H Q => t σ H fun v H1 => Q v H1 ∨ ∃ d u, H1 d = some u ∧ Mut (some u) ∧ ∀ od, Q v (upd H1 d (.frz od u))
theorem pe_lk {X : Cx} {e : Expr} {t : TE} (h : PE X e t) : PE X e (tLk t) := by
  refine ⟨fun pins s σ H Q I hw => ?_⟩
  refine thn (h.run pins s σ _ _ I hw) fun v s1 ⟨x, H1, I2, r, q⟩ => ?_
  rcases q with q | ⟨d, u, hd, mu, q⟩
  · exact ⟨x, H1, I2, r, q⟩
  · obtain ⟨od, I3⟩ := I2.lock hd mu
    exact ⟨x, _, I3, r, q od⟩
theorem still_O {K : PySem.W.Frag} {s0 s : Wd} {N0 : Nat} {μ : Mu} {p : Addr} {o : HO} (R : Rep K s μ) (x : Ext s0 N0 s μ.length) (hf : s.F p = none) (hl : NL s μ.length p) (h0 : s0.H p = none) :
    Rep K { s with H := upd s.H p o, F := upd s.F p o } μ ∧ Ext s0 N0 { s with H := upd s.H p o, F := upd s.F p o } μ.length ∧ Same s.F (upd s.F p o) := by
  have e : Same s.F (upd s.F p o) := fun y o' q => by rw [upd_ne (ne_of_none q hf)]; exact q
  have R1 := R.poke (o := o) hf hl
  refine ⟨R.of rfl (fun a u q => ?_) (fun n c q => cell_still (R1.cell n c q) (R.rootNe hl n (List.getElem?_eq_some_iff.mp q).1) hf) (fun a h => upd_live h) (R.beside e fun n a hn ha => keeps_putF fun z => hl n hn (z ▸ ha)), ⟨fun a u q => e a u (x.f a u q), x.l, x.le, fun a u q hn => ?_, fun a h1 h2 h3 h4 => ?_, x.lnew, x.onew, fun a h => upd_live (x.alive a h)⟩, e⟩
  · have q' : upd s.F p o a = some u := q
    show upd s.H p o a = some u
    by_cases ha : a = p
    · subst ha
      rw [upd_same] at q' ⊢
      exact q'
    · rw [upd_ne ha] at q' ⊢
      exact R.sub a u q'
  · show upd s.H p o a = some u
    rw [upd_ne (ne_of_none q h0)]
    exact x.keep a u q hn
  · show upd s.F p o a = none
    rw [upd_ne (fun z => h3 (by rw [z]; exact h0))]
    exact x.fnew a h1 h2 h3 h4
section
variable {X : Cx} {W : WX} {e : Expr} {te : TDE} {pos : Pos}
theorem sem_stl {K : PySem.W.Frag} {t : TE} {td : TDE} (g : SemE K W t td) : SemE K W (tLk t) (dStl td) := fun s σ η μ Q q E S hq l lx => g s σ η μ _ _ E S hq (fun e μ' v s' hk x R r f => by
  cases e with
  | new xs =>
    obtain ⟨p, vs, rfl, h1, h2, h3, h4⟩ := r
    obtain ⟨a1, a2, a3⟩ := still_new R x h1 h2 h3 h4 (f p rfl)
    exact .inl (l _ _ _ { s' with F := upd s'.F p (.lst vs) } hk a2 a1 a3 trivial)
  | newd kvs =>
    obtain ⟨p, ks, rfl, h1, h2, h3, h4, h5⟩ := r
    refine .inr ⟨p, _, h1, trivial, fun od => ?_⟩
    obtain ⟨a1, a2, a3⟩ := still_O (o := .frz od (.dT ks)) R x h2 h3 (f p rfl)
    exact l _ _ _ _ hk a2 a1 (.dcT upd_same h4 (h5.mono a3) rfl) trivial
  | newk kvs =>
    obtain ⟨p, ks, rfl, h1, h2, h3, h4, h5⟩ := r
    refine .inr ⟨p, _, h1, trivial, fun od => ?_⟩
    obtain ⟨a1, a2, a3⟩ := still_O (o := .frz od (.dK ks)) R x h2 h3 (f p rfl)
    exact l _ _ _ _ hk.2 a2 a1 (.dcK upd_same h4 (h5.mono a3) rfl hk.1) trivial
  | dat d => exact .inl (l _ _ _ _ hk x R r f)
  | loc d => exact .inl (l _ _ _ _ hk x R r f)
  | raw d => exact .inl (l _ _ _ _ hk x R r f)
  | exc d => exact .inl (l _ _ _ _ hk x R r f)
  | «at» _ _ _ => exact .inl (l _ _ _ _ hk x R r f)
  | newo _ => exact .inl (l _ _ _ _ hk x R r f)
  | per _ => exact .inl (l _ _ _ _ hk x R r f)
  | ro d => exact .inl (l _ _ _ _ hk x R r f)) lx
theorem de_stl (h : DE X W e te) : DE X W e (dStl te) := by
  obtain ⟨t, hp, g⟩ := h.ex
  exact de_pe (pe_lk hp) (sem_stl g)
/-- a slot -/
theorem dv (i : Nat) {x : Str} (hN : X.N[i]? = some x := by rfl) (hv : Vis X.env.scope x := by first | exact Or.inl rfl | exact Or.inr (Or.inl rfl) | exact Or.inr (Or.inr rfl)) (hd : (x == ("__debug__" : Str)) = false := by decide)
    (hcd : (x == ("__classdict__" : Str)) = false := by decide) : DE X W (.Name x pos) (dVar i) := de_var (pv i hN hv hd hcd)
/-- a module's constants -/
theorem de_gint {x : Str} {n : Int} (hm : ∃ t, X.mg x = some (.int n t)) (hg : Gl X x := by rfl) (hd : (x == ("__debug__" : Str)) = false := by decide) : DE X W (.Name x pos) (dC (.int n)) := by
  obtain ⟨t, hm⟩ := hm
  exact de_c (pe_glob (v := .int n) hg hm ⟨t, rfl⟩ hd) fun _ _ => .int n
theorem de_gstr {x z : Str} (hm : ∃ t, X.mg x = some (.str z t)) (hz : PyData.strOk z = true := by decide +kernel) (hg : Gl X x := by rfl) (hd : (x == ("__debug__" : Str)) = false := by decide) : DE X W (.Name x pos) (dC (.str z)) := by
  obtain ⟨t, hm⟩ := hm
  exact de_c (pe_glob (v := .str z) hg hm ⟨t, rfl⟩ hd) fun _ _ => .str z hz
/-- a built-in class as a value -/
theorem de_ty {x : Str} {T : String} (hm : X.mg x = none) (hv : bootBuiltins x = some (.type T)) (hg : Gl X x := by rfl) (hn : x ≠ "__name__" := by decide) (hd : (x == ("__debug__" : Str)) = false := by decide) : DE X W (.Name x pos) (dRaw (.ty T)) :=
  de_raw (pe_bltn hg hm hv rfl hn hd)
end
theorem bt_str : bootBuiltins "str" = some (.type "str") := by decide +kernel
theorem bt_int : bootBuiltins "int" = some (.type "int") := by decide +kernel
theorem bt_bool : bootBuiltins "bool" = some (.type "bool") := by decide +kernel
theorem bt_list : bootBuiltins "list" = some (.type "list") := by decide +kernel
theorem bt_tuple : bootBuiltins "tuple" = some (.type "tuple") := by decide +kernel
theorem bt_set : bootBuiltins "set" = some (.type "set") := by decide +kernel
theorem bb_len : bootBuiltins "len" = some (.builtin "len") := by decide +kernel
theorem bb_max : bootBuiltins "max" = some (.builtin "max") := by decide +kernel
theorem bb_min : bootBuiltins "min" = some (.builtin "min") := by decide +kernel
theorem bb_all : bootBuiltins "all" = some (.builtin "all") := by decide +kernel
theorem bb_sorted : bootBuiltins "sorted" = some (.builtin "sorted") := by decide +kernel
theorem bb_isinstance : bootBuiltins "isinstance" = some (.builtin "isinstance") := by decide +kernel
section
variable {P : Program} {w : World} {K : PySem.W.Frag} {mg : Str → Option Value} {base : Heap}
/-- a def by its body, with its contract -/
theorem def_ok {x qual : Str} {st : Stmt} {f : Addr} {fd : FuncData} {N ps : List Str} {k : Nat} {td : TDS} (sp : SpD) (F : Fun K x qual st f fd) (S : FnScope N ps (defScope st)) (hm : mg x = some (.ref f)) (hb : Binds K fd ps [])
    (body : ∀ (cdv : Value) (A : Around) (outer : List Env) (s : Shared) (H : Hp) (E : XK), Room k (A.deeper (envOfC qual (defScope st) s.heap.objs.size f cdv)) →
      Takes (cxOf (L2.CX P w) P w K mg base N qual (defScope st) f cdv A outer s H E) (fun cls d _ H => E cls d H) →
      PassesOwn (model P w) (A.deeper (envOfC qual (defScope st) s.heap.objs.size f cdv)) (envOfC qual (defScope st) s.heap.objs.size f cdv) (cxOf (L2.CX P w) P w K mg base N qual (defScope st) f cdv A outer s H E).xe →
      DSs (cxOf (L2.CX P w) P w K mg base N qual (defScope st) f cdv A outer s H E) (fun cls d _ H => E cls d H) (defBody st) td)
    (h : ∀ (es : List EV) (μ : Mu) (q : PQ) (x : XQ), es.length = ps.length → sp es μ q x → td { nx := fun _ μ' => exitQ μ.length q (.dat .none) μ', rt := exitQ μ.length q } (fun y μ' => x y (μ'.take μ.length)) (startD N es) μ) :
    DefAt P w K mg base x (k + 1) ps [] [] sp :=
  ⟨⟨f, fd, fd_of F S (fun cdv A outer s H E hr => body cdv A outer s H E hr (takes_of rfl rfl rfl rfl) (passes_of rfl)) h, hm, F.kp, hb⟩, .nil⟩
end
theorem tk0 {X : Cx} : Takes X WF := takes0
/-- the law's own contract: the script is handed in, True comes out -/
def spLawD : SpD := fun es μ q _ => ∃ ns : List Int, es = [.ro (ns.map .int)] ∧ ns.length ≤ 63 ∧ μ = [] ∧ ∀ μ', q (.dat (.bool true)) μ'
def spLaw (K : PySem.W.Frag) : Sp := fun vs H Q _ => ∃ (a : Addr) (ns : List Int), vs = [.ref a] ∧ SqL K H a (ns.map V.int) ∧ ns.length ≤ 63 ∧ ∀ H', Q (.bl true) H'
theorem drs_ints {K : PySem.W.Frag} {F : Hp} : ∀ ns : List Int, DRs K F (ns.map V.int) (ns.map .int)
  | [] => .nil
  | n :: r => .cons (.int n) (drs_ints r)
theorem law_sp {K : PySem.W.Frag} {vs : List V} {H : Hp} {Q : VK} {E : XK} (h : spLaw K vs H Q E) : spOf K 1 spLawD vs H Q E := by
  obtain ⟨a, ns, rfl, hs, hl, k⟩ := h
  refine ⟨rfl, ⟨H, fun b => if b = a then H a else none, fun _ => 0, fun _ _ => False⟩, [], [.ro (ns.map .int)], fun e _ => e = .dat (.bool true), fun _ _ => False, rfl, ⟨fun b o q => ?_, fun n c q => by simp at q, fun m n a hm => absurd hm (Nat.not_lt_zero _), fun n hn => absurd hn (Nat.not_lt_zero _), fun n a hn => absurd hn (Nat.not_lt_zero _), fun n t q => by simp at q⟩, .cons ⟨a, ns.map V.int, rfl, ?_, drs_ints ns⟩ .nil, ⟨ns, rfl, hl, rfl, fun _ => rfl⟩, fun e μ' v s' hq x R r f => ?_, fun _ _ _ _ _ z => z.elim⟩
  · have q' : (if b = a then H a else none) = some o := q
    split at q'
    · rename_i e
      rw [e]
      exact q'
    · cases q'
  · rcases hs with (h | ⟨o, h⟩) | h
    · exact .inl (.inl (show (if a = a then H a else none) = _ by rw [if_pos rfl]; exact h))
    · exact .inl (.inr ⟨o, show (if a = a then H a else none) = _ by rw [if_pos rfl]; exact h⟩)
    · exact .inr h
  · subst hq
    rw [vr_b r]
    exact k s'.H
end DL
set_option Elab.async false
set_option linter.all false
set_option maxRecDepth 100000
set_option maxHeartbeats 4000000
namespace DL
open PySem L2 PyProof.Rows
/-! ### words for proofs over data readings -/
section
variable {N : Nat} {q : PQ} {μ : Mu}
theorem exitQ_dat {d : PyData} : DL.exitQ N q (.dat d) μ = q (.dat d) (μ.take N) := Eq.trans rfl rfl
theorem exitQ_new {d : List PyData} : DL.exitQ N q (.new d) μ = q (.new d) (μ.take N) := Eq.trans rfl rfl
end
def isIntD : PyData → Bool
  | .int _ => true
  | .bool _ => true
  | _ => false
def isBoolD : PyData → Bool
  | .bool _ => true
  | _ => false
def isStrD : PyData → Bool
  | .str _ => true
  | _ => false
def isTupD : PyData → Bool
  | .tuple _ => true
  | _ => false
section
variable {d : PyData} {q : PQ} {μ : Mu}
theorem isi_int : oIsi [.dat d, .raw (.ty "int")] μ q = q (.dat (.bool (isIntD d))) μ := by
  cases d <;> simp [oIsi, tyE, tyOf, isT, isIntD]
theorem isi_bool : oIsi [.dat d, .raw (.ty "bool")] μ q = q (.dat (.bool (isBoolD d))) μ := by
  cases d <;> simp [oIsi, tyE, tyOf, isT, isBoolD]
theorem isi_str : oIsi [.dat d, .raw (.ty "str")] μ q = q (.dat (.bool (isStrD d))) μ := by
  cases d <;> simp [oIsi, tyE, tyOf, isT, isStrD]
theorem isi_tuple : oIsi [.dat d, .raw (.ty "tuple")] μ q = q (.dat (.bool (isTupD d))) μ := by
  cases d <;> simp [oIsi, tyE, tyOf, isT, isTupD]
end
section
variable {q : PQ} {μ : Mu} {z z' : Str} {xs ys : List PyData} {n : Nat} {i j : Int} {x y : EV}
theorem ix_s : oIx (.dat (.str z)) (.dat (.int i)) μ q = (z.length ≤ 100000 ∧ ∃ c, atI z.cps.toList i = some c ∧ q (.dat (.str ⟨#[c]⟩)) μ) := Eq.trans rfl rfl
theorem ix_tupD : oIx (.dat (.tuple xs)) (.dat (.int i)) μ q = (∃ d, atI xs i = some d ∧ q (.dat d) μ) := Eq.trans rfl rfl
theorem ix_lstD : oIx (.dat (.list xs)) (.dat (.int i)) μ q = (∃ d, atI xs i = some d ∧ q (.dat d) μ) := Eq.trans rfl rfl
theorem ix_new : oIx (.new xs) (.dat (.int i)) μ q = (∃ d, atI xs i = some d ∧ q (.dat d) μ) := Eq.trans rfl rfl
theorem ix_ro : oIx (.ro xs) (.dat (.int i)) μ q = (∃ d, atI xs i = some d ∧ q (.dat d) μ) := Eq.trans rfl rfl
theorem at_nn {α : Type} {as : List α} {k : Int} (h : 0 ≤ k) : atI as k = as[k.toNat]? := by
  unfold atI ixN
  rw [if_pos h]
  split
  · rfl
  · rename_i hk
    rw [List.getElem?_eq_none (by omega)]
    rfl
theorem ixN_nn {m : Nat} {k : Int} (h : 0 ≤ k) (h2 : k < m) : ixN m k = some k.toNat := by
  unfold ixN
  rw [if_pos h, if_pos h2]
theorem add_int : oAdd (.dat (.int i)) (.dat (.int j)) μ q = q (.dat (.int (i + j))) μ := Eq.trans rfl rfl
theorem add_strD : oAdd (.dat (.str z)) (.dat (.str z')) μ q = (z.length + z'.length ≤ 100000 ∧ q (.dat (.str (z ++ z'))) μ) := Eq.trans rfl rfl
theorem add_tup : oAdd (.dat (.tuple xs)) (.dat (.tuple ys)) μ q = (xs.length + ys.length ≤ 100000 ∧ q (.dat (.tuple (xs ++ ys))) μ) := Eq.trans rfl rfl
theorem add_lst (hx : lstOf μ x = some xs) (hy : lstOf μ y = some ys) : oAdd x y μ q = (xs.length + ys.length ≤ 100000 ∧ q (.new (xs ++ ys)) μ) := by
  unfold oAdd
  split
  · cases hx
  · cases hx
  · cases hx
  · rw [hx, hy]
theorem add_ln : oAdd (.dat (.list xs)) (.new ys) μ q = (xs.length + ys.length ≤ 100000 ∧ q (.new (xs ++ ys)) μ) := add_lst rfl rfl
theorem add_nn : oAdd (.new xs) (.new ys) μ q = (xs.length + ys.length ≤ 100000 ∧ q (.new (xs ++ ys)) μ) := add_lst rfl rfl
theorem mul_int : oMul (.dat (.int i)) (.dat (.int j)) μ q = (CMul i j ∧ q (.dat (.int (i * j))) μ) := Eq.trans rfl rfl
theorem sl_tupD {lo hi : Option Int} : oSl (.dat (.tuple xs)) lo hi μ q = q (.dat (.tuple (cutD xs lo hi))) μ := Eq.trans rfl rfl
theorem sl_lstD {lo hi : Option Int} : oSl (.dat (.list xs)) lo hi μ q = q (.new (cutD xs lo hi)) μ := Eq.trans rfl rfl
theorem stl_dat {d : PyData} : stlK q (.dat d) μ = q (.dat d) μ := Eq.trans rfl rfl
theorem stl_new : stlK q (.new xs) μ = q (.dat (.list xs)) μ := Eq.trans rfl rfl
theorem stl_ro : stlK q (.ro xs) μ = q (.ro xs) μ := Eq.trans rfl rfl
theorem stl_exc {y : Exn} : stlK q (.exc y) μ = q (.exc y) μ := Eq.trans rfl rfl
theorem cel_dat {d : PyData} : cellK q (.dat d) μ = q (.dat d) μ := Eq.trans rfl rfl
theorem cel_new : cellK q (.new xs) μ = q (.loc μ.length) (μ ++ [.lst xs]) := Eq.trans rfl rfl
theorem cel_loc : cellK q (.loc n) μ = q (.loc n) μ := Eq.trans rfl rfl
theorem nN_dat {d : PyData} : noNew (.dat d) = true := Eq.trans rfl rfl
theorem nN_loc : noNew (.loc n) = true := Eq.trans rfl rfl
theorem nN_ro : noNew (.ro xs) = true := Eq.trans rfl rfl
theorem nN_exc {y : Exn} : noNew (.exc y) = true := Eq.trans rfl rfl
theorem aO_nil : allOld [] = true := Eq.trans rfl rfl
theorem aO_cons {e : EV} {es : List EV} : allOld (e :: es) = (noNew e && allOld es) := Eq.trans rfl rfl
theorem wB_b {b : Bool} {k : Bool → Prop} : withB (.dat (.bool b)) k = k b := Eq.trans rfl rfl
theorem oI_ii {C : Int → Int → Prop} {g : Int → Int → PyData} : oI C g (.dat (.int i)) (.dat (.int j)) μ q = (C i j ∧ q (.dat (g i j)) μ) := Eq.trans rfl rfl
theorem oI0_ii {g : Int → Int → PyData} : oI0 g (.dat (.int i)) (.dat (.int j)) μ q = q (.dat (g i j)) μ := Eq.trans rfl rfl
theorem neg_i : oNeg (.dat (.int i)) μ q = q (.dat (.int (-i))) μ := Eq.trans rfl rfl
theorem eq_dd {d e : PyData} : oEq (.dat d) (.dat e) μ q = ((noD d = true ∧ noD e = true) ∧ min d.depth e.depth ≤ 64 ∧ q (.dat (.bool (PyData.eqv d e))) μ) := Eq.trans rfl rfl
theorem ne_dd {d e : PyData} : oNe (.dat d) (.dat e) μ q = ((noD d = true ∧ noD e = true) ∧ min d.depth e.depth ≤ 64 ∧ q (.dat (.bool (!PyData.eqv d e))) μ) := Eq.trans rfl rfl
theorem ne_dn {d : PyData} : oNe (.dat d) (.new xs) μ q = ((noD d = true ∧ noD (.list xs) = true) ∧ min d.depth (PyData.list xs).depth ≤ 64 ∧ q (.dat (.bool (!PyData.eqv d (.list xs)))) μ) := Eq.trans rfl rfl
theorem eq_nn : oEq (.new xs) (.new ys) μ q = ((noD (.list xs) = true ∧ noD (.list ys) = true) ∧ min (PyData.list xs).depth (PyData.list ys).depth ≤ 64 ∧ q (.dat (.bool (PyData.eqv (.list xs) (.list ys)))) μ) := Eq.trans rfl rfl
theorem sign_ss {neg : Bool} : oInSign neg (.dat (.str z)) (.dat (.str z')) μ q = (∃ c, z = ⟨#[c]⟩ ∧ q (.dat (.bool (if neg then !decide (c ∈ z'.cps.toList) else decide (c ∈ z'.cps.toList)))) μ) := Eq.trans rfl rfl
theorem max_ii : oMax2 [.dat (.int i), .dat (.int j)] μ q = q (.dat (.int (if j > i then j else i))) μ := Eq.trans rfl rfl
theorem min_ii : oMin2 [.dat (.int i), .dat (.int j)] μ q = q (.dat (.int (if j < i then j else i))) μ := Eq.trans rfl rfl
theorem wD_dat {d : PyData} {k : PyData → Mu → Prop} : withDat μ (.dat d) k = k d μ := Eq.trans rfl rfl
theorem wD_new {k : PyData → Mu → Prop} : withDat μ (.new xs) k = k (.list xs) μ := Eq.trans rfl rfl
end
theorem eqv_int {i j : Int} : PyData.eqv (.int i) (.int j) = decide (i = j) := by
  rw [PyData.eqv]
  exact Bool.beq_eq_decide_eq i j
theorem eqv_bool {i j : Bool} : PyData.eqv (.bool i) (.bool j) = (i == j) := by rw [PyData.eqv]
theorem eqv_str {i j : Str} : PyData.eqv (.str i) (.str j) = decide (i = j) := by
  rw [PyData.eqv]
  exact Bool.beq_eq_decide_eq i j
theorem dep_int {i : Int} : (PyData.int i).depth = 0 := by rw [PyData.depth]
theorem dep_bool {i : Bool} : (PyData.bool i).depth = 0 := by rw [PyData.depth]
theorem dep_str {i : Str} : (PyData.str i).depth = 0 := by rw [PyData.depth]
theorem dep_none : PyData.none.depth = 0 := by rw [PyData.depth]
/-! ### statements, one by one -/
section
variable {t u v : TDS} {te : TDE} {ta : TDA} {tc : TDT} {g : TDG} {ti : TDI} {d : DEnds} {E : XQ} {η : DEnv} {μ : Mu} {i j : Nat} {o : OD}
theorem q_next (h : v d E η μ) : sSeq sNext v d E η μ := h
theorem q_asg (h : te η μ (fun e μ1 => g e η μ1 fun η' μ' => v d E η' μ') E) : sSeq (sAsg te g) v d E η μ := h
theorem q_set (h : te η μ (fun e μ1 => noNew e = true ∧ v d E (η.set i (some e)) μ1) E) : sSeq (sAsg te (gNm i)) v d E η μ := h
theorem q_par (h : ta η μ (fun es μ1 => match es with
  | [e1, e2] => noNew e1 = true ∧ noNew e2 = true ∧ v d E ((η.set i (some e1)).set j (some e2)) μ1
  | _ => False) E) : sSeq (sPar i j ta) v d E η μ := h
theorem q_drop (h : te η μ (fun _ μ1 => v d E η μ1) E) : sSeq (sDrop te) v d E η μ := h
theorem q_ret (h : te η μ d.rt E) : sSeq (sRet te) v d E η μ := h
theorem q_retN (h : d.rt (.dat .none) μ) : sSeq sRetN v d E η μ := h
theorem q_if (h : tc η μ (fun b μ1 => if b = true then t { d with nx := v d E } E η μ1 else u { d with nx := v d E } E η μ1) E) : sSeq (sIf tc t u) v d E η μ := h
/-- .. an if without else -/
theorem q_when (h : tc η μ (fun b μ1 => if b = true then t { d with nx := v d E } E η μ1 else v d E η μ1) E) : sSeq (sIf tc t sNext) v d E η μ := h
theorem q_ifB (b : Bool) (h : ∀ K : Bool → Mu → Prop, K b μ → tc η μ K E) (h1 : b = true → t { d with nx := v d E } E η μ) (h2 : b = false → u { d with nx := v d E } E η μ) : sSeq (sIf tc t u) v d E η μ :=
  h _ (by cases b with
    | true => exact h1 rfl
    | false => exact h2 rfl)
theorem s_next (h : d.nx η μ) : sNext d E η μ := h
theorem s_asg (h : te η μ (fun e μ1 => g e η μ1 d.nx) E) : sAsg te g d E η μ := h
theorem s_set (h : te η μ (fun e μ1 => noNew e = true ∧ d.nx (η.set i (some e)) μ1) E) : sAsg te (gNm i) d E η μ := h
theorem s_drop (h : te η μ (fun _ μ1 => d.nx η μ1) E) : sDrop te d E η μ := h
theorem s_ret (h : te η μ d.rt E) : sRet te d E η μ := h
theorem s_retN (h : d.rt (.dat .none) μ) : sRetN d E η μ := h
theorem s_if (h : tc η μ (fun b μ1 => if b = true then t d E η μ1 else u d E η μ1) E) : sIf tc t u d E η μ := h
theorem s_when (h : tc η μ (fun b μ1 => if b = true then t d E η μ1 else d.nx η μ1) E) : sIf tc t sNext d E η μ := h
theorem q_whenB (b : Bool) (h : ∀ K : Bool → Mu → Prop, K b μ → tc η μ K E) (h1 : b = true → t { d with nx := v d E } E η μ) (h2 : b = false → v d E η μ) : sSeq (sIf tc t sNext) v d E η μ := q_ifB b h h1 h2
end
/-- what a comprehension asks of its items -/
def LcG (g : TDG) (tt : TDT) (te : TDE) (vs : List Nat) (η : DEnv) (q : PQ) (items : List EV) (G : Mu → Prop) (μ1 : Mu) : Prop := items.length ≤ 100000 ∧ ∃ Inv : Nat → List PyData → Mu → Prop, Inv 0 [] μ1 ∧ (∀ i acc μ, Inv i acc μ → G μ ∧ acc.length ≤ i) ∧
  (∀ (i : Nat) (e : EV) acc μ, items[i]? = some e → Inv i acc μ → g e (wipeD η vs) μ fun η2 μ2 => tt η2 μ2 (fun b μ3 => if b = true then te η2 μ3 (fun ev μ4 => withDat μ4 ev fun d μ5 => Inv (i + 1) (acc ++ [d]) (μ5.take μ1.length)) EF else Inv (i + 1) acc (μ3.take μ1.length)) EF) ∧
  ∀ acc μ, Inv items.length acc μ → q (.new acc) μ
/-- over items told by a list, every one kept, the store as it was -/
theorem lc_map {α : Type} {as : List α} {h : α → EV} {G : Mu → Prop} {g : TDG} {te : TDE} {vs : List Nat} {η : DEnv} {q : PQ} {μ1 : Mu} (f : α → PyData) (hz : as.length ≤ 100000) (hG : G μ1)
    (hs : ∀ (a : α) (K : PyData → Mu → Prop), a ∈ as → K (f a) μ1 → g (h a) (wipeD η vs) μ1 fun η2 μ2 => te η2 μ2 (fun ev μ4 => withDat μ4 ev fun d μ5 => K d (μ5.take μ1.length)) EF)
    (hq : q (.new (as.map f)) μ1) : LcG g tYesD te vs η q (as.map h) G μ1 := by
  refine ⟨by rw [List.length_map]; exact hz, fun i acc μ => μ = μ1 ∧ acc = (as.take i).map f, ⟨rfl, rfl⟩, ?_, ?_, ?_⟩
  · rintro i acc μ ⟨rfl, rfl⟩
    refine ⟨hG, ?_⟩
    rw [List.length_map, List.length_take]
    omega
  · rintro i e acc μ hi ⟨rfl, rfl⟩
    obtain ⟨a, ha, rfl⟩ : ∃ a, as[i]? = some a ∧ e = h a := by
      rw [List.getElem?_map] at hi
      cases q : as[i]? with
      | none => rw [q] at hi; cases hi
      | some a => rw [q] at hi; exact ⟨a, rfl, (Option.some.inj hi).symm⟩
    refine hs a (fun d μ' => μ' = μ ∧ (as.take i).map f ++ [d] = (as.take (i + 1)).map f) (List.mem_of_getElem? ha) ⟨rfl, ?_⟩
    rw [List.take_add_one, ha, List.map_append]
    rfl
  · rintro acc μ ⟨rfl, rfl⟩
    rw [List.length_map, List.take_length]
    exact hq
/-- .. with a test -/
theorem lc_filter {α : Type} {as : List α} {h : α → EV} {G : Mu → Prop} {g : TDG} {tt : TDT} {te : TDE} {vs : List Nat} {η : DEnv} {q : PQ} {μ1 : Mu} (p : α → Bool) (f : α → PyData) (hz : as.length ≤ 100000) (hG : G μ1)
    (hs : ∀ (a : α) (K : PyData → Mu → Prop) (K' : Mu → Prop), a ∈ as → (p a = true → K (f a) μ1) → (p a = false → K' μ1) → g (h a) (wipeD η vs) μ1 fun η2 μ2 => tt η2 μ2 (fun b μ3 => if b = true then te η2 μ3 (fun ev μ4 => withDat μ4 ev fun d μ5 => K d (μ5.take μ1.length)) EF else K' (μ3.take μ1.length)) EF)
    (hq : q (.new ((as.filter p).map f)) μ1) : LcG g tt te vs η q (as.map h) G μ1 := by
  refine ⟨by rw [List.length_map]; exact hz, fun i acc μ => μ = μ1 ∧ acc = ((as.take i).filter p).map f, ⟨rfl, rfl⟩, ?_, ?_, ?_⟩
  · rintro i acc μ ⟨rfl, rfl⟩
    refine ⟨hG, ?_⟩
    have := List.length_filter_le p (as.take i)
    rw [List.length_map]
    rw [List.length_take] at this
    omega
  · rintro i e acc μ hi ⟨rfl, rfl⟩
    obtain ⟨a, ha, rfl⟩ : ∃ a, as[i]? = some a ∧ e = h a := by
      rw [List.getElem?_map] at hi
      cases q : as[i]? with
      | none => rw [q] at hi; cases hi
      | some a => rw [q] at hi; exact ⟨a, rfl, (Option.some.inj hi).symm⟩
    refine hs a (fun d μ' => μ' = μ ∧ ((as.take i).filter p).map f ++ [d] = ((as.take (i + 1)).filter p).map f) (fun μ' => μ' = μ ∧ ((as.take i).filter p).map f = ((as.take (i + 1)).filter p).map f) (List.mem_of_getElem? ha) (fun hp => ⟨rfl, ?_⟩) (fun hp => ⟨rfl, ?_⟩)
    · rw [List.take_add_one, ha, List.filter_append, List.map_append]
      simp [hp]
    · rw [List.take_add_one, ha, List.filter_append, List.map_append]
      simp [hp]
  · rintro acc μ ⟨rfl, rfl⟩
    rw [List.length_map, List.take_length]
    exact hq
theorem map_get {α β : Type} {as : List α} {h : α → β} {i : Nat} {e : β} (x : (as.map h)[i]? = some e) : ∃ a, as[i]? = some a ∧ e = h a := by
  rw [List.getElem?_map] at x
  cases q : as[i]? with
  | none => rw [q] at x; cases x
  | some a => rw [q] at x; exact ⟨a, rfl, (Option.some.inj x).symm⟩
theorem get_lt {α : Type} {as : List α} {i : Nat} {a : α} (x : as[i]? = some a) : i < as.length := (List.getElem?_eq_some_iff.mp x).1
/-! ### the law's drawing -/
/-- a drawing state at n -/
def StAt (μ : Mu) (n : Nat) : Prop := ∃ a b : Int, μ[n]? = some (.lst [.int a, .int b]) ∧ 0 ≤ a ∧ a < 2147483648
/-- drawn from -/
def Stp (μ : Mu) (n : Nat) (μ' : Mu) : Prop := ∃ a b : Int, μ' = μ.set n (.lst [.int a, .int b]) ∧ 0 ≤ a ∧ a < 2147483648
theorem StAt.lt {μ : Mu} {n : Nat} (h : StAt μ n) : n < μ.length := let ⟨_, _, e, _⟩ := h; get_lt e
theorem Stp.len {μ μ' : Mu} {n : Nat} (h : Stp μ n μ') : μ'.length = μ.length := by
  obtain ⟨a, b, rfl, _⟩ := h
  exact List.length_set
theorem Stp.at {μ μ' : Mu} {n : Nat} (h : Stp μ n μ') (s : StAt μ n) : StAt μ' n := by
  have hl := s.lt
  obtain ⟨a, b, rfl, h1, h2⟩ := h
  exact ⟨a, b, by rw [List.getElem?_set_self hl], h1, h2⟩
theorem Stp.trans {μ μ1 μ2 : Mu} {n : Nat} (h : Stp μ n μ1) (h' : Stp μ1 n μ2) : Stp μ n μ2 := by
  obtain ⟨a, b, rfl, h1, h2⟩ := h
  obtain ⟨a', b', rfl, h3, h4⟩ := h'
  exact ⟨a', b', List.set_set .., h3, h4⟩
theorem Stp.take {μ μ' : Mu} {n : Nat} (h : Stp μ n μ') : μ'.take μ.length = μ' := by
  rw [← h.len]
  exact List.take_length
theorem pick {α : Type} {xs : List α} {r : Int} (h0 : 0 ≤ r) (h1 : r < xs.length) : ∃ d, xs[r.toNat]? = some d ∧ d ∈ xs := by
  have h : r.toNat < xs.length := by omega
  exact ⟨xs[r.toNat], List.getElem?_eq_getElem h, List.getElem_mem h⟩
def sp_cell : SpD := fun es μ q _ => ∃ (ns : List Int) (k : Int), es = [.ro (ns.map .int), .dat (.int k)] ∧ 0 ≤ k ∧ k ≤ 1000 ∧ ns.length ≤ 63 ∧ ∀ r : Int, q (.dat (.int r)) μ
def sp_state : SpD := fun es μ q _ => ∃ c k : Int, es = [.dat (.int c), .dat (.int k)] ∧ 0 ≤ k ∧ k ≤ 1000 ∧ ∀ a b : Int, 0 ≤ a → a < 2147483648 → q (.new [.int a, .int b]) μ
def sp_next : SpD := fun es μ q _ => ∃ (n : Nat) (k : Int), es = [.loc n, .dat (.int k)] ∧ StAt μ n ∧ 0 < k ∧ k < 1073741824 ∧ ∀ (r : Int) (μ' : Mu), 0 ≤ r → r < k → Stp μ n μ' → q (.dat (.int r)) μ'
end DL
set_option Elab.async false
set_option linter.all false
set_option maxRecDepth 100000
set_option maxHeartbeats 4000000
namespace DL
open PySem L2 PyProof.Rows
/-! ### words for proofs over data readings -/
/-- an old reading -/
def oldK (q : PQ) : PQ := fun e μ => match e with
  | .new _ => False
  | .newd _ => False
  | .newk _ => False
  | .newo _ => False
  | e => q e μ
theorem old_dat {q : PQ} {d : PyData} {μ : Mu} : oldK q (.dat d) μ = q (.dat d) μ := Eq.trans rfl rfl
theorem old_loc {q : PQ} {d : Nat} {μ : Mu} : oldK q (.loc d) μ = q (.loc d) μ := Eq.trans rfl rfl
theorem old_exc {q : PQ} {d : Exn} {μ : Mu} : oldK q (.exc d) μ = q (.exc d) μ := Eq.trans rfl rfl
theorem old_ro {q : PQ} {d : List PyData} {μ : Mu} : oldK q (.ro d) μ = q (.ro d) μ := Eq.trans rfl rfl
theorem dVar_0 {v : EV} {η : DEnv} {μ : Mu} {q : PQ} {E : XQ} : dVar 0 (some v :: η) μ q E = oldK q v μ := by
  cases v <;> rfl
theorem dVar_1 {a0 : Option EV} {v : EV} {η : DEnv} {μ : Mu} {q : PQ} {E : XQ} : dVar 1 (a0 :: some v :: η) μ q E = oldK q v μ := by
  cases v <;> rfl
theorem dVar_2 {a0 a1 : Option EV} {v : EV} {η : DEnv} {μ : Mu} {q : PQ} {E : XQ} : dVar 2 (a0 :: a1 :: some v :: η) μ q E = oldK q v μ := by
  cases v <;> rfl
theorem dVar_3 {a0 a1 a2 : Option EV} {v : EV} {η : DEnv} {μ : Mu} {q : PQ} {E : XQ} : dVar 3 (a0 :: a1 :: a2 :: some v :: η) μ q E = oldK q v μ := by
  cases v <;> rfl
theorem dVar_4 {a0 a1 a2 a3 : Option EV} {v : EV} {η : DEnv} {μ : Mu} {q : PQ} {E : XQ} : dVar 4 (a0 :: a1 :: a2 :: a3 :: some v :: η) μ q E = oldK q v μ := by
  cases v <;> rfl
theorem dVar_5 {a0 a1 a2 a3 a4 : Option EV} {v : EV} {η : DEnv} {μ : Mu} {q : PQ} {E : XQ} : dVar 5 (a0 :: a1 :: a2 :: a3 :: a4 :: some v :: η) μ q E = oldK q v μ := by
  cases v <;> rfl
theorem dVar_6 {a0 a1 a2 a3 a4 a5 : Option EV} {v : EV} {η : DEnv} {μ : Mu} {q : PQ} {E : XQ} : dVar 6 (a0 :: a1 :: a2 :: a3 :: a4 :: a5 :: some v :: η) μ q E = oldK q v μ := by
  cases v <;> rfl
theorem dVar_7 {a0 a1 a2 a3 a4 a5 a6 : Option EV} {v : EV} {η : DEnv} {μ : Mu} {q : PQ} {E : XQ} : dVar 7 (a0 :: a1 :: a2 :: a3 :: a4 :: a5 :: a6 :: some v :: η) μ q E = oldK q v μ := by
  cases v <;> rfl
theorem dVar_8 {a0 a1 a2 a3 a4 a5 a6 a7 : Option EV} {v : EV} {η : DEnv} {μ : Mu} {q : PQ} {E : XQ} : dVar 8 (a0 :: a1 :: a2 :: a3 :: a4 :: a5 :: a6 :: a7 :: some v :: η) μ q E = oldK q v μ := by
  cases v <;> rfl
theorem wDs_nil {k : List PyData → Prop} : withDats [] k = k [] := by simp [withDats, datsOf]
theorem wDs_cons {d : PyData} {es : List EV} {k : List PyData → Prop} : withDats (.dat d :: es) k = withDats es fun ds => k (d :: ds) := by
  have h : datsOf (.dat d :: es) = (datsOf es).map (d :: ·) := Eq.trans rfl rfl
  unfold withDats
  rw [h]
  cases datsOf es <;> rfl
theorem x_dC {d : PyData} {η : DEnv} {μ : Mu} {q : PQ} {E : XQ} : dC d η μ q E = q (.dat d) μ := Eq.trans rfl rfl
theorem x_dRaw {v : V} {η : DEnv} {μ : Mu} {q : PQ} {E : XQ} : dRaw v η μ q E = q (.raw v) μ := Eq.trans rfl rfl
theorem x_dFrz {t : TDE} {η : DEnv} {μ : Mu} {q : PQ} {E : XQ} : dFrz t η μ q E = t η μ (fun e μ1 => withDat μ1 e fun d μ2 => q (.dat d) μ2) E := Eq.trans rfl rfl
theorem x_dCell {t : TDE} {η : DEnv} {μ : Mu} {q : PQ} {E : XQ} : dCell t η μ q E = t η μ (cellK q) E := Eq.trans rfl rfl
theorem x_dStl {t : TDE} {η : DEnv} {μ : Mu} {q : PQ} {E : XQ} : dStl t η μ q E = t η μ (stlK q) E := Eq.trans rfl rfl
theorem x_aNil  {η : DEnv} {μ : Mu} {q : List EV → Mu → Prop} {E : XQ} : aNil η μ q E = q [] μ := Eq.trans rfl rfl
theorem x_aCons {t : TDE} {u : TDA} {η : DEnv} {μ : Mu} {q : List EV → Mu → Prop} {E : XQ} : aCons t u η μ q E = t η μ (fun e μ1 => u η μ1 (fun es μ2 => q (e :: es) μ2) E) E := Eq.trans rfl rfl
theorem x_dLst {t : TDA} {η : DEnv} {μ : Mu} {q : PQ} {E : XQ} : dLst t η μ q E = t η μ (fun es μ1 => withDats es fun ds => ds.length ≤ 100000 ∧ q (.new ds) μ1) E := Eq.trans rfl rfl
theorem x_dTup {t : TDA} {η : DEnv} {μ : Mu} {q : PQ} {E : XQ} : dTup t η μ q E = t η μ (fun es μ1 => withDats es fun ds => ds.length ≤ 100000 ∧ q (.dat (.tuple ds)) μ1) E := Eq.trans rfl rfl
theorem x_tVal {t : TDE} {η : DEnv} {μ : Mu} {q : Bool → Mu → Prop} {E : XQ} : tVal t η μ q E = t η μ (fun e μ1 => withB e fun b => q b μ1) E := Eq.trans rfl rfl
theorem x_tAndD {t u : TDT} {η : DEnv} {μ : Mu} {q : Bool → Mu → Prop} {E : XQ} : tAndD t u η μ q E = t η μ (fun b μ1 => if b = true then u η μ1 q E else q false μ1) E := Eq.trans rfl rfl
theorem x_tOrD {t u : TDT} {η : DEnv} {μ : Mu} {q : Bool → Mu → Prop} {E : XQ} : tOrD t u η μ q E = t η μ (fun b μ1 => if b = true then q true μ1 else u η μ1 q E) E := Eq.trans rfl rfl
theorem x_tNotD {t : TDT} {η : DEnv} {μ : Mu} {q : Bool → Mu → Prop} {E : XQ} : tNotD t η μ q E = t η μ (fun b μ1 => q (!b) μ1) E := Eq.trans rfl rfl
theorem x_dAndV {t u : TDE} {η : DEnv} {μ : Mu} {q : PQ} {E : XQ} : dAndV t u η μ q E = t η μ (fun e μ1 => withB e fun b => if b = true then u η μ1 q E else q (.dat (.bool false)) μ1) E := Eq.trans rfl rfl
theorem x_dOrV {t u : TDE} {η : DEnv} {μ : Mu} {q : PQ} {E : XQ} : dOrV t u η μ q E = t η μ (fun e μ1 => withB e fun b => if b = true then q (.dat (.bool true)) μ1 else u η μ1 q E) E := Eq.trans rfl rfl
theorem x_dNotV {t : TDE} {η : DEnv} {μ : Mu} {q : PQ} {E : XQ} : dNotV t η μ q E = t η μ (fun e μ1 => withB e fun b => q (.dat (.bool (!b))) μ1) E := Eq.trans rfl rfl
theorem x_dOp {o : OD} {ta tb : TDE} {η : DEnv} {μ : Mu} {q : PQ} {E : XQ} : dOp o ta tb η μ q E = ta η μ (fun x μ1 => tb η μ1 (fun y μ2 => o x y μ2 q) E) E := Eq.trans rfl rfl
theorem x_dUn {o : UD} {ta : TDE} {η : DEnv} {μ : Mu} {q : PQ} {E : XQ} : dUn o ta η μ q E = ta η μ (fun x μ1 => o x μ1 q) E := Eq.trans rfl rfl
theorem x_dCB {o : CD} {t : TDA} {η : DEnv} {μ : Mu} {q : PQ} {E : XQ} : dCB o t η μ q E = t η μ (fun es μ1 => o es μ1 q) E := Eq.trans rfl rfl
theorem x_dChain {o o' : OD} {ta tb tc : TDE} {η : DEnv} {μ : Mu} {q : PQ} {E : XQ} : dChain o o' ta tb tc η μ q E = ta η μ (fun x μ1 => tb η μ1 (fun y μ2 => noNew x = true ∧ noNew y = true ∧ o x y μ2 fun z μ3 => withB z fun k => if k = true then tc η μ3 (fun w μ4 => o' y w μ4 q) E else q (.dat (.bool false)) μ3) E) E := Eq.trans rfl rfl
def intK (k : Int → Prop) (e : EV) : Prop := match e with
  | .dat (.int i) => k i
  | _ => False
theorem intK_i {k : Int → Prop} {i : Int} : intK k (.dat (.int i)) = k i := Eq.trans rfl rfl
theorem x_oNo  {η : DEnv} {μ : Mu} {q : Option Int → Mu → Prop} {E : XQ} : oNo η μ q E = q none μ := Eq.trans rfl rfl
theorem x_oSome {t : TDE} {η : DEnv} {μ : Mu} {q : Option Int → Mu → Prop} {E : XQ} : oSome t η μ q E = t η μ (fun e μ1 => intK (fun i => q (some i) μ1) e) E := Eq.trans rfl rfl
theorem x_dSl {o : SD} {te : TDE} {tl th : TDO} {η : DEnv} {μ : Mu} {q : PQ} {E : XQ} : dSl o te tl th η μ q E = te η μ (fun x μ1 => tl η μ1 (fun l μ2 => th η μ2 (fun h μ3 => o x l h μ3 q) E) E) E := Eq.trans rfl rfl
theorem x_gNm {i : Nat} {e : EV} {η : DEnv} {μ : Mu} {q : DEnv → Mu → Prop} : gNm i e η μ q = (noNew e = true ∧ q (η.set i (some e)) μ) := Eq.trans rfl rfl
theorem x_gNl0  {η : DEnv} {μ : Mu} {q : DEnv → Mu → Prop} : gNl [] η μ q = q η μ := by
  simp [gNl]
theorem x_gCn {t : TDG} {u : TDGs} {d : PyData} {r : List PyData} {η : DEnv} {μ : Mu} {q : DEnv → Mu → Prop} : gCn t u (d :: r) η μ q = t (.dat d) η μ (fun η' μ' => u r η' μ' q) := Eq.trans rfl rfl
theorem x_gTp {n : Nat} {t : TDGs} {ds : List PyData} {η : DEnv} {μ : Mu} {q : DEnv → Mu → Prop} : gTp n t (.dat (.tuple ds)) η μ q = (ds.length = n ∧ t ds η μ q) := Eq.trans rfl rfl
theorem x_gSb {to ti : TDE} {o : SetD} {e : EV} {η : DEnv} {μ : Mu} {q : DEnv → Mu → Prop} : gSb to ti o e η μ q = to η μ (fun x μ1 => ti η μ1 (fun y μ2 => o x y e μ2 fun μ3 => q η μ3) fun _ _ => False) fun _ _ => False := Eq.trans rfl rfl
theorem x_dCall {n : Nat} {sp : SpD} {des : List EV} {t : TDA} {η : DEnv} {μ : Mu} {q : PQ} {E : XQ} : dCall n sp des t η μ q E = t η μ (fun es μ1 => allOld es = true ∧ (es ++ des).length = n ∧ sp (es ++ des) μ1 q E) E := Eq.trans rfl rfl
abbrev RI := List EV → (Mu → Prop) → Mu → Prop
def seqK (r : RI) (e : EV) (μ1 : Mu) : Prop := match e with
  | .loc n => match μ1[n]? with
    | some (.lst xs) => r (xs.map .dat) (fun μ => μ[n]? = some (.lst xs) ∨ μ[n]? = some (.frz xs)) μ1
    | some (.frz xs) => r (xs.map .dat) (fun _ => True) μ1
    | _ => False
  | .dat (.tuple xs) => r (xs.map .dat) (fun _ => True) μ1
  | .dat (.list xs) => r (xs.map .dat) (fun _ => True) μ1
  | .new xs => r (xs.map .dat) (fun _ => True) μ1
  | .dat (.str z) => r (z.cps.toList.map fun c => .dat (.str ⟨#[c]⟩)) (fun _ => True) μ1
  | .ro xs => r (xs.map .dat) (fun _ => True) μ1
  | _ => False
theorem seqK_str {r : RI} {z : Str} {μ : Mu} : seqK r (.dat (.str z)) μ = r (z.cps.toList.map fun c => .dat (.str ⟨#[c]⟩)) (fun _ => True) μ := Eq.trans rfl rfl
def rng1K (r : RI) (es : List EV) (μ1 : Mu) : Prop := match es with
  | [.dat (.int j)] => (-1000000 ≤ j ∧ j ≤ 1000000) ∧ r (rngItems 0 j.toNat) (fun _ => True) μ1
  | _ => False
theorem rng1_i {r : RI} {j : Int} {μ : Mu} : rng1K r [.dat (.int j)] μ = ((-1000000 ≤ j ∧ j ≤ 1000000) ∧ r (rngItems 0 j.toNat) (fun _ => True) μ) := Eq.trans rfl rfl
theorem x_iRange1 {t : TDA} {η : DEnv} {μ : Mu} {r : RI} {E : XQ} : iRange1 t η μ r E = t η μ (fun es μ1 => rng1K r es μ1) E := Eq.trans rfl rfl
theorem x_dBM {ty : EV → Mu → Prop} {o : MD} {to : TDE} {t : TDA} {η : DEnv} {μ : Mu} {q : PQ} {E : XQ} : dBM ty o to t η μ q E = to η μ (fun x μ1 => ty x μ1 ∧ t η μ1 (fun es μ2 => o x es μ2 q) E) E := Eq.trans rfl rfl
def boolsK (ds : List PyData) (k : List Bool → Prop) : Prop := match boolsOf ds with
  | some bs => k bs
  | none => False
theorem bools_k {bs : List Bool} {k : List Bool → Prop} : boolsK (bs.map .bool) k = k bs := by simp [boolsK, bools_map]
def lstK (μ : Mu) (e : EV) (k : List PyData → Prop) : Prop := match lstOf μ e with
  | some ds => k ds
  | none => False
def sqK (μ : Mu) (e : EV) (k : List PyData → Prop) : Prop := match seqOf μ e with
  | some ds => k ds
  | none => False
theorem lstK_new {xs : List PyData} {k : List PyData → Prop} {μ : Mu} : lstK μ (.new xs) k = k xs := Eq.trans rfl rfl
theorem sqK_lst {xs : List PyData} {k : List PyData → Prop} {μ : Mu} : sqK μ (.dat (.list xs)) k = k xs := Eq.trans rfl rfl
theorem x_oAll {f : List Bool → Bool} {e : EV} {μ : Mu} {q : PQ} : oAll f [e] μ q = lstK μ e fun ds => boolsK ds fun bs => q (.dat (.bool (f bs))) μ := Eq.trans rfl rfl
theorem x_oTuple {e : EV} {μ : Mu} {q : PQ} : oTuple [e] μ q = sqK μ e fun ds => q (.dat (.tuple ds)) μ := Eq.trans rfl rfl
theorem x_oNotN {x y : EV} {μ : Mu} {q : PQ} : oNotN x y μ q = (isRaw x = false ∧ isNon y = true ∧ q (.dat (.bool (!isNon x))) μ) := Eq.trans rfl rfl
theorem x_lc {ti : TDI} {g : TDG} {tt : TDT} {te : TDE} {vs : List Nat} {η : DEnv} {μ : Mu} {q : PQ} {E : XQ} : dLc ti g tt te vs η μ q E = ti η μ (LcG g tt te vs η q) E := Eq.trans rfl rfl
theorem cl_nil {N : Nat} : clean N [] = [] := Eq.trans rfl rfl
theorem cl_none {N : Nat} {η : DEnv} : clean N (none :: η) = none :: clean N η := Eq.trans rfl rfl
theorem cl_dat {N : Nat} {η : DEnv} {d : PyData} : clean N (some (.dat d) :: η) = some (.dat d) :: clean N η := Eq.trans rfl rfl
theorem cl_ro {N : Nat} {η : DEnv} {d : List PyData} : clean N (some (.ro d) :: η) = some (.ro d) :: clean N η := Eq.trans rfl rfl
theorem cl_loc {N n : Nat} {η : DEnv} (h : n < N) : clean N (some (.loc n) :: η) = some (.loc n) :: clean N η := by simp [clean, h]
/-- a law's call throws nothing -/
theorem cx_no {P : Program} {w : World} {o : List Env} {H : Hp} {s s' : Shared} {e : Value} (x : L2.CX P w o H s (fun _ _ _ => False) e s') : False := by
  obtain ⟨_, _, _, _, _, _, _, _, _, _, _, _, z⟩ := x
  exact z
end DL
set_option Elab.async false
set_option linter.all false
set_option maxRecDepth 100000
set_option maxHeartbeats 4000000
namespace DL
open PySem PySem.Spec PyProof.Rows L2
/-! ### exceptions: raised, caught, kept -/
section
variable {X : Cx} {pins : List (Addr × Obj)} {σ : L2.St} {H : Hp} {sI s' : Shared} {B : Heap}
/-- back on the ground, the exception's object tracked from now on -/
theorem landedK (I : Inv X pins σ H sI) (nb : ∀ b o, sI.heap.get? b = some o → b ∉ frs X.stack → B.get? b = some o) (st : B.StaysIn s'.heap) (up : sI.heap.UpToSlots s'.heap) (os : s'.os = sI.os) (ag : AllBare s'.gens)
    {a : Addr} {oe : Obj} {vs : Array Value} {cls : Value} {d : Option Addr} (hB : B.get? a = none) (na : H a = none) (nfr : a ∉ frs X.stack) (he : s'.heap.get? a = some oe) (hz : Zc cls d oe) (hd : oe.data = .fields vs) :
    Inv X pins σ (upd H a (excO a cls d)) s' := by
  have ha : sI.heap.get? a = none := by
    cases q : sI.heap.get? a with
    | none => rfl
    | some o => rw [nb a o q nfr] at hB; cases hB
  have nf : ∀ b ∈ frs X.stack, ∀ o, sI.heap.get? b = some o → ∃ sl, s'.heap.get? b = some { o with slots := sl } := fun b hb o e => by
    obtain ⟨_, o', e', hd⟩ := I.stack.mem hb
    rw [e] at e'; cases e'
    exact up b o e hd
  have ne : ∀ b o, sI.heap.get? b = some o → b ≠ a := fun b o e z => by rw [z, ha] at e; cases e
  have G : HOk X.prog X.w H s'.heap := (I.inGround nb).kept st
  have same : ∀ b u, H b = some u → upd H a (excO a cls d) b = some u := fun b u q => by rw [upd_ne (ne_of_none q na)]; exact q
  have J := I.call (ch := []) (h' := s'.heap) (g' := s'.gens) (t' := s'.toks) (d' := s'.drawn) (H' := upd H a (excO a cls d))
    ⟨fun b o e _ hb _ => st b o (nb b o e hb), fun b o e _ hb _ => nf b hb o e, fun b o e n _ => by rw [upd_ne (ne b o e)]; exact n, fun b o e _ => by
      by_cases hb : b ∈ frs X.stack
      · obtain ⟨sl, q⟩ := nf b hb o e
        exact ⟨_, q⟩
      · exact ⟨o, st b o (nb b o e hb)⟩, fun b xs e => same b _ e, fun b o u e => same b _ e, fun b ps e => ⟨#[], by rw [same b _ e]; simp⟩⟩
    (fun b u e => by
      by_cases hb : b = a
      · subst hb
        rw [upd_same] at e
        cases e
        exact ⟨⟨oe, vs, he, hz, hd⟩, ⟨oe, he⟩, fun h1 h2 ⟨o, ws, q, z⟩ k => ⟨o, ws, k o q, z⟩⟩
      · rw [upd_ne hb] at e
        exact (G b u e).stay (fun c v _ q => q) (fun c q => same c _ q) fun c xs q => same c _ q) ag (fun _ z => nomatch z)
  obtain ⟨a1, a2, a3, a4, a5⟩ := s'
  have e5 : a5 = sI.os := os
  subst e5
  exact J
theorem unsuiteK {a : Addr} (I : Inv (X.suite a (X.pn ++ pins)) [] σ H sI) (ok : X.Ok) : Inv X pins σ H sI :=
  ⟨ok, I.os, I.bare, I.base, I.loc, I.cell, I.free, I.freeC, fun p hp => I.pin p (by rw [List.append_nil]; exact hp), I.hok, I.len⟩
theorem suiteK {a : Addr} (I : Inv X pins σ H sI) : Inv (X.suite a (X.pn ++ pins)) [] σ H sI :=
  ⟨I.ok.suite _ _, I.os, I.bare, I.base, I.loc, I.cell, I.free, I.freeC, fun p hp => I.pin p (by rw [List.append_nil] at hp; exact hp), I.hok, I.len⟩
end
/-- what 'except x as n' wishes, the exception kept -/
def wKeep (K : PySem.W.Frag) (c : Value) (i : Nat) (ts : Addr → Value → Option Addr → TS) (Wout : WX) (D : Ends) : WX := fun cls d σ H =>
  ∃ b, PySem.W.exmOne K cls c = some b ∧ (b = true → ∀ a, H a = none → ts a cls d { nx := fun σ' H' => D.nx (σ'.set i none) H', rt := D.rt, bk := fun σ' H' => D.bk (σ'.set i none) H', ct := fun σ' H' => D.ct (σ'.set i none) H' } (σ.set i (some (.ref a))) (upd H a (excO a cls d))) ∧
    (b = false → Wout cls d σ H)
section
variable {X : Cx} {x n : Str} {c : Value} {i : Nat} {body suite : List Stmt} {b₀ : Stmt} {np pos pos' : Pos} {tb : WX → TS} {ts : Addr → Value → Option Addr → TS} {Wout : WX}
/-- out of a try's body, nothing raised -/
theorem outTry {pins : List (Addr × Obj)} {xe : Value → Shared → Prop} {D : Ends} {f : Flow} {s : Shared} (ok : X.Ok) (h : SP (X.tr (X.pn ++ pins) xe) [] D f s) : SP X pins D f s := by
  cases f <;> (try obtain ⟨u, t, r, I, j, k⟩ := h) <;> first
    | exact ⟨u, t, r, I.ofTry ok, j, k⟩
    | (obtain ⟨t, r, I, k⟩ := h; exact ⟨t, r, I.ofTry ok, k⟩)
/-- out of an except suite: the clause's name goes -/
theorem outSuite {pins : List (Addr × Obj)} {a : Addr} {D : Ends} {f : Flow} {s : Shared} (ok : X.Ok) (hN : X.N.Nodup) (hi : X.N[i]? = some n) (hln : X.env.kindOf n = some .local)
    (h : SP (X.suite a (X.pn ++ pins)) [] { nx := fun σ' H' => D.nx (σ'.set i none) H', rt := D.rt, bk := fun σ' H' => D.bk (σ'.set i none) H', ct := fun σ' H' => D.ct (σ'.set i none) H' } f s) :
    wpAny (model X.prog X.w) X.A (do bindName X.env n .none; unbindBehindTheSuite X.env n pos') (fun _ s7 => SP X pins D f s7) X.xe s := by
  cases f with
  | ret u =>
    obtain ⟨v, t, r, I, j, k⟩ := h
    exact gone_ok (unsuiteK I ok) hN hi hln fun s7 J => ⟨v, _, r, J, j, k⟩
  | _ =>
    obtain ⟨t, r, I, k⟩ := h
    exact gone_ok (unsuiteK I ok) hN hi hln fun s7 J => ⟨_, r, J, k⟩
/-- no clause takes it: on it flies -/
theorem flyOn {pins : List (Addr × Obj)} {σ : L2.St} {H : Hp} {sI s : Shared} {B : Heap} {a : Addr} {cls : Value} {d : Option Addr} {R : Flow → Shared → Prop} (hs : X.stack = X.env :: X.outer) (hf : X.env.frame = some X.env.locals) (tk : Takes X Wout)
    (I : Inv X pins σ H sI) (nb : ∀ b o, sI.heap.get? b = some o → b ∉ frs X.stack → B.get? b = some o) (up : sI.heap.UpToSlots s.heap) (fl : HandSPX.FlyingZ B (X.env :: X.outer) a (Zc cls d) s.heap) (na : H a = none) (os : s.os = sI.os) (ag : AllBare s.gens) (w : Wout cls d σ H) :
    wpAny (model X.prog X.w) X.A (handleBy (.ref a) X.env []) R X.xe s := by
  have e : wpAny (model X.prog X.w) X.A (setFlight (.ref a) X.env.frame) (fun _ s4 => wpAny (model X.prog X.w) X.A (throw (.ref a) : Sem Flow) R X.xe s4) X.xe s := by
    rw [hf]
    exact HandSPX.setFlight_upZ fl fun h4 q up' => wpAny_throw (tk _ _ ⟨a, B, sI, pins, σ, H, cls, d, rfl, I, nb, up.trans up', .inr (.inr (by rw [hs]; exact q)), na, os, ag, w⟩)
  obtain ⟨_, _, _, oe, vs, T, _, _, he, _, hd, h1, _⟩ := id fl
  refine wpAny_handleBy_nil ?_
  unfold PySem.passOn
  refine wpAny_bind (wpAny_field he hd h1 ?_)
  rw [if_neg (by simp)]
  first | exact wpAny_bind (wpAny_pure (wpAny_bind e)) | exact wpAny_bind e
theorem ps_try_keep (hs : X.stack = X.env :: X.outer) (hf : X.env.frame = some X.env.locals) (hN : X.N.Nodup) (hi : X.N[i]? = some n) (hln : X.env.kindOf n = some .local) (hc : Names X x c) (tk : Takes X Wout)
    (body_ : ∀ (W : WX) (pn : List (Addr × Obj)) (xe : Value → Shared → Prop), Takes (X.tr pn xe) W → PassesOwn (model X.prog X.w) X.A X.env xe → PSs (X.tr pn xe) body (tb W))
    (suite_ : ∀ (a : Addr) (cls : Value) (d : Option Addr) (pn : List (Addr × Obj)), PSs (X.suite a pn) (b₀ :: suite) (ts a cls d)) :
    PS X (.Try body [.ExceptHandler (some (.Name x np)) (some n) (b₀ :: suite) pos'] [] [] pos) (fun D σ H => tb (wKeep X.K c i ts Wout D) D σ H) := by
  refine ⟨fun pins s σ H D I h => wpAny_Try_except ?_⟩
  have ok := I.ok
  have fr0 : X.A.frames = some (X.env :: X.outer) := hs ▸ ok.frames
  have p := (body_ (wKeep X.K c i ts Wout D) (X.pn ++ pins) (fun e t => wpAny (model X.prog X.w) X.A (noteFrame e X.env) (fun _ t2 => wpAny (model X.prog X.w) X.A (setFlight e none) (fun _ t3 =>
    wpAny (model X.prog X.w) X.A (handleBy e X.env [.ExceptHandler (some (.Name x np)) (some n) (b₀ :: suite) pos']) (SP X pins D) X.xe t3) X.xe t2) X.xe t) (fun u t caught => ?_) PassesOwn.looking).run [] s σ H D (I.toTry _) h
  · refine wpAny_mono p (fun f t hsp => ?_) fun _ _ z => z
    have q := outTry ok hsp
    cases f with
    | next => exact wpAny_execs_nil q
    | _ => exact q
  · obtain ⟨a, B, sI, pins', σ', H', cls, d, rfl, J0, nb, up, sky, na, os, ag, b, hb, yes, no⟩ := caught
    have J := J0.ofTry ok
    refine Sky.land Zc.steady fr0 hf (hs ▸ sky : Sky B (X.env :: X.outer) a (Zc cls d) X.env.locals t.heap) fun h3 fl3 up3 => ?_
    have J3 : Inv X pins σ' H' { t with heap := h3 } := J.landed nb fl3.1 (up.trans up3) os ag
    have S3 := suiteK (a := a) J3
    obtain ⟨oe3, vs3, he3, hz3, hd3⟩ := fl3.there
    have out : a ∉ frs X.stack := by
      rw [hs]
      intro hm
      obtain ⟨_, o', e', z⟩ := fl3.2.2.1.mem hm
      cases he3.symm.trans e'
      exact z _ hd3
    have LT : PySem.W.Looks (model X.prog X.w) h3 (typeOf (.ref a)) cls := fun A Q E s k q => wpAny_typeOf_ref (k _ _ he3) (hz3.1 ▸ q)
    have sees : ∀ {Q E : Value → Shared → Prop}, Q c { t with heap := h3 } → wpAny (model X.prog X.w) (X.A.mark (some (.ref a))) (eval (.Name x np) X.env) Q E { t with heap := h3 } := fun q =>
      match hc with
      | ⟨hg, hd, .inl hm⟩ => ld_glob (X := X.suite a (X.pn ++ pins)) S3 hg hm q hd
      | ⟨hg, hd, .inr ⟨hm, hv, ne⟩⟩ => ld_blt (X := X.suite a (X.pn ++ pins)) S3 hg hm hv q ne hd
    refine wpAny_handleBy_cons (codeAny_handlers_test (sees ((PySem.W.exm_one (M := model X.prog X.w) J3.kIn LT hb).here ?_))) (by intro z; cases z)
    cases b with
    | false => exact flyOn hs hf tk J nb (up.trans up3) fl3 na os ag (no rfl)
    | true =>
      refine codeAny_handlers_suite_as (HandSPX.lands_againZ fl3 fun h4 fl4 up4 => ?_)
      obtain ⟨oe4, vs4, he4, hz4, hd4⟩ := fl4.there
      have J4 : Inv X pins σ' (upd H' a (excO a cls d)) { t with heap := h4 } := landedK (s' := { t with heap := h4 }) J nb fl4.1 ((up.trans up3).trans up4) os ag fl3.2.1 na out he4 hz4 hd4
      refine store_ok (X := X.suite a (X.pn ++ pins)) (v := .ref a) (suiteK J4) hN hi (.inl hln) rfl (fun s5 S5 => ?_) (.inr hln)
      exact wpAny_mono ((suite_ a cls d (X.pn ++ pins)).run [] s5 _ _ _ S5 (yes rfl a na)) (fun f s6 hsp => outSuite ok hN hi hln hsp) fun _ _ z => z.elim
end
end DL
set_option Elab.async false
set_option linter.all false
set_option maxRecDepth 100000
set_option maxHeartbeats 4000000
namespace DL
open PySem PySem.Spec PyProof.Rows L2
section
variable {K : PySem.W.Frag} {s : Wd} {μ : Mu}
/-- the world that holds an exception's object too -/
def Wd.trk (s : Wd) (a : Addr) (o : HO) : Wd := { s with H := upd s.H a o, F := upd s.F a o }
theorem trk_ok {a : Addr} {o : HO} (R : Rep K s μ) (na : s.H a = none) : Rep K (s.trk a o) μ ∧ Ext s μ.length (s.trk a o) μ.length := by
  have fa : s.F a = none := by
    cases q : s.F a with
    | none => rfl
    | some u => rw [R.sub a u q] at na; cases na
  have eF : Same s.F (upd s.F a o) := fun b u q => by rw [upd_ne (ne_of_none q fa)]; exact q
  have eH : ∀ b u, s.H b = some u → upd s.H a o b = some u := fun b u q => by rw [upd_ne (ne_of_none q na)]; exact q
  refine ⟨R.of rfl (fun b u q => ?_) (fun n c q => ?_) (fun b h => upd_live h) (R.beside eF fun n b hn hb => keeps_putF fun z => R.live n b hn hb (z ▸ na)), ⟨eF, fun _ _ => rfl, Nat.le_refl _, fun b u q _ => eH b u q, fun b h1 _ h3 _ => ?_, fun n h1 h2 => absurd h1 (Nat.not_le_of_lt h2), fun n a h1 h2 => .inr ⟨h1, h2⟩, fun b h => upd_live h⟩⟩
  · have q' : upd s.F a o b = some u := q
    show upd s.H a o b = some u
    by_cases hb : b = a
    · subst hb
      rw [upd_same] at q' ⊢
      exact q'
    · rw [upd_ne hb] at q' ⊢
      exact R.sub b u q'
  · have C := R.cell n c q
    have hn : s.L n ≠ a := fun e => R.here (List.getElem?_eq_some_iff.mp q).1 (by rw [e]; exact na)
    cases c with
    | lst xs =>
      obtain ⟨h1, ws, h2, h3⟩ := C
      exact ⟨(upd_ne hn).trans h1, ws, eH _ _ h2, h3.mono eF⟩
    | frz xs =>
      obtain ⟨ws, h2, h3⟩ := C
      exact ⟨ws, eF _ _ h2, h3.mono eF⟩
    | dct kvs =>
      obtain ⟨h1, ks, h2, h3, h4⟩ := C
      exact ⟨(upd_ne hn).trans h1, ks, eH _ _ h2, h3, h4.mono eF⟩
    | dck kvs =>
      obtain ⟨h1, ks, h2, h3, h4⟩ := C
      exact ⟨(upd_ne hn).trans h1, ks, eH _ _ h2, h3, h4.mono eF⟩
    | abs P =>
      obtain ⟨xs, hP, h1, ws, h2, h3⟩ := C
      exact ⟨xs, hP, (upd_ne hn).trans h1, ws, eH _ _ h2, h3.mono eF⟩
    | tab P nm => exact ⟨C.1, C.2.to eF ((upd_ne hn).trans C.2.nf) fun _ z => eH _ _ z⟩
    | own t => exact upd_live C
    | dead => exact upd_live C
  · show upd s.F a o b = none
    have : b ≠ a := fun e => h3 (by rw [e]; exact na)
    rw [upd_ne this]
    exact h1
end
/-- a block that raises, if it does, with the slots as they were ahead of it -/
structure DSx (X : Cx) (W : WX) (st : List Stmt) (td : TDS) : Prop where
  ex : ∃ t : TS, PSs X st t ∧ ∀ (s : Wd) (σ : L2.St) (η : DEnv) (μ : Mu) (D : Ends) (d : DEnds) (E : XQ), Sit X.K s μ σ η → td d E η μ → LS X.K s μ.length d EF D W → LX X.K s μ.length σ E W → t D σ s.H
def upS (K : PySem.W.Frag) (W : WX) (td : TDS) : TS := fun D σ H => ∃ (s : Wd) (η : DEnv) (μ : Mu) (d : DEnds) (E : XQ), s.H = H ∧ Sit K s μ σ η ∧ td d E η μ ∧ LS K s μ.length d EF D W ∧ LX K s μ.length σ E W
theorem up_dsx {X : Cx} {W : WX} {st : List Stmt} {td : TDS} (h : DSx X W st td) : PSs X st (upS X.K W td) := by
  obtain ⟨t, p, g⟩ := h.ex
  refine ⟨fun pins sh σ H D I hq => ?_⟩
  obtain ⟨s, η, μ, d, E, rfl, S, q, l, lx⟩ := hq
  exact p.run pins sh σ s.H D I (g s σ η μ D d E S q l lx)
theorem LS.none {K : PySem.W.Frag} {s : Wd} {N : Nat} {d : DEnds} {E : XQ} {D : Ends} {W W' : WX} (l : LS K s N d E D W) : LS K s N d EF D W' := ⟨l.nx, l.rt, l.bk, l.ct, fun _ _ _ _ _ _ z => z.elim⟩
def upN (K : PySem.W.Frag) (td : TDS) : TS := fun D σ H => ∃ (s : Wd) (η : DEnv) (μ : Mu) (d : DEnds), s.H = H ∧ Sit K s μ σ η ∧ td d EF η μ ∧ LS K s μ.length d EF D WF
theorem up_dss {X : Cx} {st : List Stmt} {td : TDS} (h : DSs X WF st td) : PSs X st (upN X.K td) := by
  obtain ⟨t, p, g⟩ := h.ex
  refine ⟨fun pins sh σ H D I hq => ?_⟩
  obtain ⟨s, η, μ, d, rfl, S, q, l⟩ := hq
  exact p.run pins sh σ s.H D I (g s σ η μ D d EF S q l)
section
variable {X : Cx} {W : WX} {e : Expr} {te : TDE} {pos : Pos}
theorem dsx_set {i : Nat} {x : Str} {pos' : Pos} (hN : X.N.Nodup) (hi : X.N[i]? = some x) (hx : Loc X.env.scope x) (he : DE X W e te) (hs : swapsWith e (some (.Name x pos')) pos.line X.env = pure false := by rfl) (hf : X.fn x = true ∨ X.env.scope.names.lookup x = some .local := by first | exact .inl rfl | exact .inr rfl | assumption) :
    DSx X W [.Assign [.Name x pos'] e pos] (sAsg te (gNm i)) := by
  obtain ⟨t1, p1, g1⟩ := he.ex
  refine ⟨_, pss_one (ps_set hN hi hx p1 hs hf), fun s σ η μ D d E S hq l lx => g1 s σ η μ _ _ E S hq (fun ev μ1 v s1 hk x R r f => ?_) lx⟩
  have S1 := S.go x R
  exact l.nx _ μ1 _ s1 hk.2 x ⟨R, S1.er.set i r⟩
end
/-- try: body, except C as n: suite; the exception stands in slot i -/
def sTry (K : PySem.W.Frag) (c : Value) (i : Nat) (tb ts : TDS) : TDS := fun d E η μ => tb d (fun x μ' => ∃ b, PySem.W.exmOne K (.ref x.c) c = some b ∧
  (b = true → ts { nx := fun η' μ2 => d.nx (η'.set i none) μ2, rt := d.rt, bk := fun η' μ2 => d.bk (η'.set i none) μ2, ct := fun η' μ2 => d.ct (η'.set i none) μ2 } EF (η.set i (some (.exc x))) μ') ∧ (b = false → E x μ')) η μ
section
variable {X : Cx} {W : WX} {x n : Str} {c : Value} {i : Nat} {body suite : List Stmt} {b₀ : Stmt} {np pos pos' : Pos} {tb ts : TDS}
theorem ds_try (hs : X.stack = X.env :: X.outer) (hf : X.env.frame = some X.env.locals) (hN : X.N.Nodup) (hi : X.N[i]? = some n) (hln : X.env.kindOf n = some .local) (hc : Names X x c) (tk : Takes X W)
    (hb : ∀ (W' : WX) (pn : List (Addr × Obj)) (xe : Value → Shared → Prop), Takes (X.tr pn xe) W' → PassesOwn (model X.prog X.w) X.A X.env xe → DSx (X.tr pn xe) W' body tb)
    (hsu : ∀ (a : Addr) (pn : List (Addr × Obj)), DSs (X.suite a pn) WF (b₀ :: suite) ts) :
    DS X W (.Try body [.ExceptHandler (some (.Name x np)) (some n) (b₀ :: suite) pos'] [] [] pos) (sTry X.K c i tb ts) := by
  refine ⟨_, ps_try_keep (tb := fun W' => upS X.K W' tb) (ts := fun _ _ _ => upN X.K ts) hs hf hN hi hln hc tk (fun W' pn xe tk' po => up_dsx (hb W' pn xe tk' po)) (fun a _ _ pn => up_dss (hsu a pn)), fun s σ η μ D d E S hq l => ?_⟩
  refine ⟨s, η, μ, d, _, rfl, S, hq, l.none, fun y μ' cls dd s' hE x' R r => ?_⟩
  obtain ⟨b, hb1, yes, no⟩ := hE
  obtain ⟨rfl, hr⟩ := id r
  refine ⟨b, hb1, fun h a na => ?_, fun h => l.xq y μ' _ dd σ s' (no h) x' R r⟩
  obtain ⟨R2, x2⟩ := trk_ok (o := excO a (.ref y.c) dd) R na
  have x3 := x'.trans x2 fun n hn => R.here hn
  have v : VR X.K (s'.trk a (excO a (.ref y.c) dd)) μ'.length (.ref a) (.exc y) := ⟨a, dd, rfl, upd_same, fun h => by
    rw [h] at hr
    cases dd with
    | none => rfl
    | some _ => exact hr.elim, fun fs h => by
    rw [h] at hr
    cases dd with
    | none => exact hr.elim
    | some e =>
      obtain ⟨ws, h1, h2, h3⟩ := hr
      exact ⟨e, ws, rfl, x2.f _ _ h1, h2, h3.mono x2.f⟩⟩
  have S2 : Sit X.K (s'.trk a (excO a (.ref y.c) dd)) μ' (σ.set i (some (.ref a))) (η.set i (some (.exc y))) := ⟨R2, (S.er.ext x3).set i v⟩
  have l2 := l.go x3 R2
  refine ⟨_, _, μ', _, rfl, S2, yes h, ⟨fun η' μ3 σ' s3 hk x4 S4 => ?_, l2.rt, fun η' μ3 σ' s3 hk x4 S4 => ?_, fun η' μ3 σ' s3 hk x4 S4 => ?_, fun _ _ _ _ _ _ z => z.elim⟩⟩
  · exact l2.nx _ μ3 _ s3 hk x4 ⟨S4.rep, S4.er.wipe1 i⟩
  · exact l2.bk _ μ3 _ s3 hk x4 ⟨S4.rep, S4.er.wipe1 i⟩
  · exact l2.ct _ μ3 _ s3 hk x4 ⟨S4.rep, S4.er.wipe1 i⟩
end
/-- raise C('m'), C without own __init__ -/
def sRaise (C : Addr) : TDS := fun _ E _ μ => E ⟨C, none⟩ μ
theorem ds_raise {X : Cx} {W : WX} {C : Addr} {bmB : List Value} {B newId initId : String} {x m : Str} {j : Nat} {p p2 pos pos' : Pos} (hc : X.calm = true) (tk : Takes X W) (F : ExcBaseFacts B newId initId bmB) (q : PySem.W.excIn X.K C bmB newId = true) (gC : X.mg x = some (.ref C)) (kC : PySem.W.keepIn X.K (.ref C) = true) (r : Raises X (.ref C)) (hg : Gl X x)
    (hdb : (x == ("__debug__" : Str)) = false := by decide) : DS X W (.Raise (some (.Call (.Name x p) [.Constant (.str m) j p2] [] pos)) none pos') (sRaise C) :=
  ⟨_, ps_raise hc tk (pmk_own F q gC kC r hg hdb), fun s σ η μ D d E S hq l => l.xq ⟨C, none⟩ μ (.ref C) none σ s hq (Ext.refl _ _) S.rep ⟨rfl, trivial⟩⟩
/-- isinstance of a caught one that is kept -/
def rIsK (K : PySem.W.Frag) : List V → Hp → VK → Prop := fun xs H Q => ∃ (a D : Addr) (c : V) (cv : Value) (b : Bool), xs = [.ref a, c] ∧ (H a = some (excO a (.ref D) none) ∨ ∃ dd fs, H a = some (excO a (.ref D) (some dd)) ∧ H dd = some (.xd fs)) ∧ ExcC K D ∧ (∀ u, RelV c u → u = cv) ∧ PySem.W.kitOne K (.ref D) cv = some b ∧ Q (.bl b) H
theorem call_isK {X : Cx} : CallR X (.builtin "isinstance") (rIsK X.K) := by
  intro pins s σ H xs us Q I r h
  obtain ⟨a, D, c, cv, b, rfl, hH, C, hcv, e, q⟩ := h
  cases r with
  | cons rx rr =>
    cases rr with
    | cons rt rr =>
      cases rr
      cases rx
      cases hcv _ rt
      rcases hH with hH | ⟨dd, fs, hH, hdd⟩
      case inr =>
        obtain ⟨⟨oe, vs, hget, hz, hv⟩, _, _⟩ := I.hok a _ hH
        have hx : ObjOk X.prog X.w H s.heap dd (.xd fs) := I.hok dd _ hdd
        obtain ⟨mA, hns, hr⟩ := hx
        obtain ⟨od, ho, hl⟩ := lookIn_ns hns
        have J : PySem.W.InstAt s.heap a oe D (some od) := ⟨hget, hz.1, by unfold PySem.W.notCls; rw [hv] <;> rfl, by rw [hz.2]; exact ho⟩
        obtain ⟨cd, hcd, _⟩ := PySem.W.any_some C.hd
        exact PySem.W.kia_one (PySem.W.kitx_exc (by rw [hcd]; rfl) C.hg C.hk C.hs C.ha C.hn C.ht C.hm) I.kIn J e (fun z => nomatch z) fun tk => ⟨.bl b, H, I.kept (t' := tk) fun _ _ z => z, rfl, q⟩
      obtain ⟨⟨oe, vs, hget, hz, hv⟩, _, _⟩ := I.hok a _ hH
      have J : PySem.W.InstAt s.heap a oe D none := by
        obtain ⟨oc, od, oda, osl⟩ := oe
        obtain ⟨h1, h2⟩ := hz
        dsimp only at h1 h2 hv
        subst h1 h2 hv
        exact ⟨hget, rfl, rfl, trivial⟩
      exact PySem.W.kia_one (PySem.W.handS_kitx_exc C.hg C.hk C.hs C.hd C.ha C.hn C.ht C.hm) I.kIn J e (fun z => nomatch z) fun tk => ⟨.bl b, H, I.kept (t' := tk) fun _ _ z => z, rfl, q⟩
/-- .. by data: the class is a value that is known -/
def oIsK (K : PySem.W.Frag) (D : Addr → Prop) : CD := fun es μ q => match es with
  | [.exc y, .raw v] => ExcC K y.c ∧ ∃ cv b, (∀ u, RelV v u → u = cv) ∧ PySem.W.kitOne K (.ref y.c) cv = some b ∧ q (.dat (.bool b)) μ
  | _ => False
theorem cs_isK {K : PySem.W.Frag} {D : Addr → Prop} : CallS K (rIsK K) (oIsK K D) := by
  intro s0 N0 s μ xs es q Q R xt r h l
  unfold oIsK at h
  split at h
  · rename_i y u
    obtain ⟨C, cv, b, h1, h2, hq⟩ := h
    cases r with
    | cons rx fx rr =>
      cases rr with
      | cons ry fy rr =>
        cases rr
        obtain ⟨a, d, rfl, e, hd, hd2⟩ := rx
        cases ry
        cases hf : y.fs with
        | none =>
          cases hd hf
          exact ⟨a, _, _, cv, b, rfl, .inl (R.sub _ _ e), C, h1, h2, l _ _ _ s hq xt R (.bl b) trivial⟩
        | some fs =>
          obtain ⟨dd, ws, rfl, g1, _, _⟩ := hd2 fs hf
          exact ⟨a, _, _, cv, b, rfl, .inr ⟨dd, ws, R.sub _ _ e, R.sub _ _ g1⟩, C, h1, h2, l _ _ _ s hq xt R (.bl b) trivial⟩
  · exact h.elim
end DL
set_option Elab.async false
set_option linter.all false
set_option maxRecDepth 100000
set_option maxHeartbeats 4000000
namespace DL
open PySem PySem.Spec PyProof.Rows L2
/-! ### in, sorted, int, classes as values -/
section
variable {X : Cx} {W : WX} {e : Expr} {te : TDE} {pos : Pos}
/-- a class of the program as a value -/
theorem de_gcls {x : Str} {C : Addr} (hm : X.mg x = some (.ref C)) (hg : Gl X x := by rfl) (hd : (x == ("__debug__" : Str)) = false := by decide) : DE X W (.Name x pos) (dRaw (.ref C)) := de_raw (pe_glob (v := .ref C) hg hm rfl hd)
end
/-- the data that a list or a tuple holds -/
def boxD : PyData → Option (List PyData)
  | .list ds => some ds
  | .tuple ds => some ds
  | _ => none
def rMem (K : PySem.W.Frag) (neg : Bool) : R2 := fun x y H Q => ∃ d c ds, Dp K H x d ∧ Dp K H y c ∧ boxD c = some ds ∧ d.canLay0 = true ∧ c.canLay0 = true ∧ d.depth ≤ 60 ∧ Q (.bl (if neg then !ds.any fun z => PyData.eqv z d else ds.any fun z => PyData.eqv z d)) H
theorem opD_in {X : Cx} (hu : X.A.units + 64 < cLine) : OpR X (compareOp .In) (rMem X.K false) := by
  intro pins s σ H x y v u Q I rx ry h
  obtain ⟨d, c, ds, hd, hc, hb, ld, lc, dd, q⟩ := h
  obtain ⟨as, r1⟩ := Dp.reads I d x v hd rx
  obtain ⟨bs, r2⟩ := Dp.reads I c y u hc ry
  have room : X.A.units + 1 + min (PyData.depthAll ds) d.depth < cLine := by omega
  cases c with
  | list es =>
    cases hb
    exact SeqAt.in_list_reads r2 r1 (by simpa [PyData.canLay0] using lc) ld room ⟨.bl _, H, I, rfl, q⟩
  | tuple es =>
    cases hb
    exact SeqAt.in_tuple_reads r2 r1 (by simpa [PyData.canLay0] using lc) ld room ⟨.bl _, H, I, rfl, q⟩
  | _ => cases hb
theorem opD_notIn {X : Cx} (hu : X.A.units + 64 < cLine) : OpR X (compareOp .NotIn) (rMem X.K true) := by
  intro pins s σ H x y v u Q I rx ry h
  obtain ⟨d, c, ds, hd, hc, hb, ld, lc, dd, q⟩ := h
  obtain ⟨as, r1⟩ := Dp.reads I d x v hd rx
  obtain ⟨bs, r2⟩ := Dp.reads I c y u hc ry
  have room : X.A.units + 1 + min (PyData.depthAll ds) d.depth < cLine := by omega
  cases c with
  | list es =>
    cases hb
    exact SeqAt.notIn_list_reads r2 r1 (by simpa [PyData.canLay0] using lc) ld room ⟨.bl _, H, I, rfl, q⟩
  | tuple es =>
    cases hb
    exact SeqAt.notIn_tuple_reads r2 r1 (by simpa [PyData.canLay0] using lc) ld room ⟨.bl _, H, I, rfl, q⟩
  | _ => cases hb
def oMem (neg : Bool) : OD := fun x y μ q => match datOf μ x, datOf μ y with
  | some d, some c => match boxD c with
    | some ds => (noD d = true ∧ noD c = true) ∧ d.depth ≤ 60 ∧ q (.dat (.bool (if neg then !ds.any fun z => PyData.eqv z d else ds.any fun z => PyData.eqv z d))) μ
    | none => False
  | _, _ => False
theorem os_mem {K : PySem.W.Frag} {neg : Bool} : OpS K (rMem K neg) (oMem neg) := by
  intro s0 N0 s μ x y ex ey q Q R xt rx fx ry fy h l
  unfold oMem at h
  split at h
  · rename_i d c hd hc
    split at h
    · rename_i ds hb
      obtain ⟨⟨n1, n2⟩, h⟩ := h
      obtain ⟨a1, a2⟩ := dat_ok R rx hd n1
      obtain ⟨b1, b2⟩ := dat_ok R ry hc n2
      exact ⟨d, c, ds, a1, b1, hb, a2, b2, h.1, ans R xt l h.2 (.bl _)⟩
    · exact h.elim
  · exact h.elim
/-- int(x) -/
def oInt : CD := fun es μ q => match es with
  | [.dat (.int i)] => q (.dat (.int i)) μ
  | [.dat (.bool b)] => q (.dat (.int (if b then 1 else 0))) μ
  | _ => False
theorem cs_int {K : PySem.W.Frag} : CallS K (fun xs H Q => (∃ i, xs = [.int i] ∧ Q (.int i) H) ∨ ∃ k, xs = [.bl k] ∧ Q (.int (if k then 1 else 0)) H) oInt := by
  intro s0 N0 s μ xs es q Q R xt r h l
  unfold oInt at h
  split at h
  · cases r with
    | cons rx fx rr =>
      cases rr
      cases (show DR K s.F _ (.int _) from rx)
      exact .inl ⟨_, rfl, ans R xt l h (.int _)⟩
  · cases r with
    | cons rx fx rr =>
      cases rr
      cases (show DR K s.F _ (.bool _) from rx)
      exact .inr ⟨_, rfl, ans R xt l h (.int _)⟩
  · exact h.elim
end DL
set_option Elab.async false
set_option linter.all false
set_option maxRecDepth 100000
set_option maxHeartbeats 4000000
namespace DL
open PySem L2 PyProof.Rows
section
variable {K : PySem.W.Frag} {c : Value} {C : Addr} {i : Nat} {tb ts v : TDS} {d : DEnds} {E : XQ} {η : DEnv} {μ : Mu} {q : PQ}
theorem s_raise (h : E ⟨C, none⟩ μ) : sRaise C d E η μ := h
theorem q_raise (h : E ⟨C, none⟩ μ) : sSeq (sRaise C) v d E η μ := h
theorem int_b {b : Bool} : oInt [.dat (.bool b)] μ q = q (.dat (.int (if b then 1 else 0))) μ := Eq.trans rfl rfl
/-- some of them is the thing -/
def has (ds : List PyData) (d : PyData) : Bool := ds.any fun z => PyData.eqv z d
theorem mem_n {neg : Bool} {d : PyData} {ds : List PyData} : oMem neg (.dat d) (.new ds) μ q = ((noD d = true ∧ noD (.list ds) = true) ∧ d.depth ≤ 60 ∧ q (.dat (.bool (if neg then !has ds d else has ds d))) μ) := Eq.trans rfl rfl
theorem isK_e {D : Addr → Prop} {y : Exn} {u : V} : oIsK K D [.exc y, .raw u] μ q = (ExcC K y.c ∧ ∃ cv b, (∀ w, RelV u w → w = cv) ∧ PySem.W.kitOne K (.ref y.c) cv = some b ∧ q (.dat (.bool b)) μ) := Eq.trans rfl rfl
theorem rel_ref {C : Addr} : ∀ w, RelV (.ref C) w → w = .ref C := fun w h => by cases h; rfl
theorem rel_ty {z : String} : ∀ w, RelV (.ty z) w → w = .type z := fun w h => by cases h; rfl
theorem mul_ni {a : List PyData} {k : Int} : oMul (.new a) (.dat (.int k)) μ q = ((-1000 ≤ k ∧ k ≤ 1000 ∧ a.length ≤ 1000) ∧ q (.new (List.replicate k.toNat a).flatten) μ) := Eq.trans rfl rfl
end
/-- equality of data with itself -/
theorem bt_ValueError : bootBuiltins "ValueError" = some (.type "ValueError") := by decide +kernel
end DL
set_option Elab.async false
set_option linter.all false
set_option maxRecDepth 100000
set_option maxHeartbeats 4000000
namespace DL
open PySem L2 PyProof.Rows
/-! ### defs with defaults -/
section
variable {X : Cx} {W : WX} {x n : Str} {c : Value} {i : Nat} {body suite : List Stmt} {b₀ : Stmt} {np pos pos' : Pos} {tb ts : TDS}
theorem ds_tryK {K : PySem.W.Frag} (hK : X.K = K) (hs : X.stack = X.env :: X.outer) (hf : X.env.frame = some X.env.locals) (hN : X.N.Nodup) (hi : X.N[i]? = some n) (hln : X.env.kindOf n = some .local) (hc : Names X x c) (tk : Takes X W)
    (hb : ∀ (W' : WX) (pn : List (Addr × Obj)) (xe : Value → Shared → Prop), Takes (X.tr pn xe) W' → PassesOwn (model X.prog X.w) X.A X.env xe → DSx (X.tr pn xe) W' body tb)
    (hsu : ∀ (a : Addr) (pn : List (Addr × Obj)), DSs (X.suite a pn) WF (b₀ :: suite) ts) :
    DS X W (.Try body [.ExceptHandler (some (.Name x np)) (some n) (b₀ :: suite) pos'] [] [] pos) (sTry K c i tb ts) := by
  subst hK
  exact ds_try hs hf hN hi hln hc tk hb hsu
end
end DL
set_option Elab.async false
set_option linter.all false
set_option maxRecDepth 100000
set_option maxHeartbeats 4000000
namespace DL
open PySem L2 PyProof.Rows
/-! ### lists that are known by a property alone -/
section
variable {K : PySem.W.Frag} {s : Wd} {μ : Mu} {n : Nat} {P : List PyData → Prop} {xs : List PyData}
theorem Rep.cellSet (R : Rep K s μ) (c : Cell) (h : CellAt K s (s.L n) c) (ho : ∀ t, c ≠ .own t := by intro t z; cases z) : Rep K s (μ.set n c) :=
  R.of (by simp) R.sub (fun m c' q => by
    by_cases e : n = m
    · subst e
      by_cases hl : n < μ.length
      · rw [List.getElem?_set_self hl] at q
        cases q
        exact h
      · rw [List.getElem?_eq_none (by simpa using hl)] at q
        cases q
    · rw [List.getElem?_set_ne e] at q
      exact R.cell m c' q) (fun _ h => h) (fun m t q => by
    by_cases e : n = m
    · subst e
      by_cases hl : n < μ.length
      · rw [List.getElem?_set_self hl] at q
        cases q
        exact absurd rfl (ho t)
      · rw [List.getElem?_eq_none (by simpa using hl)] at q
        cases q
    · rw [List.getElem?_set_ne e] at q
      exact R.tree m t q)
theorem Rep.open (R : Rep K s μ) (h : μ[n]? = some (.abs P)) : ∃ xs, P xs ∧ Rep K s (μ.set n (.lst xs)) := by
  obtain ⟨xs, hP, c⟩ := R.cell n _ h
  exact ⟨xs, hP, R.cellSet (.lst xs) c⟩
theorem Rep.close (R : Rep K s μ) (h : μ[n]? = some (.lst xs)) (hP : P xs) : Rep K s (μ.set n (.abs P)) := R.cellSet (.abs P) ⟨xs, hP, R.cell n _ h⟩
theorem set_back {c c' : Cell} (h : μ[n]? = some c) : (μ.set n c').set n c = μ := by
  rw [List.set_set]
  obtain ⟨h1, h2⟩ := List.getElem?_eq_some_iff.mp h
  rw [← h2, List.set_getElem_self]
theorem spOf_abs {k : Nat} {spc spa : SpD} (h : ∀ es μ q x, spa es μ q x → ∃ n P, μ[n]? = some (.abs P) ∧ ∀ xs, P xs → spc es (μ.set n (.lst xs)) (fun e μ' => ∃ ys, P ys ∧ μ' = μ.set n (.lst ys) ∧ q e μ) (fun _ _ => False))
    {vs : List V} {H : Hp} {Q : VK} {E : XK} (hs : spOf K k spa vs H Q E) : spOf K k spc vs H Q E := by
  obtain ⟨hl, s, μ, es, q, x, rfl, R, hv, hsp, l, lx⟩ := hs
  obtain ⟨n, P, hn, hx⟩ := h es μ q x hsp
  obtain ⟨xs, hP, R'⟩ := R.open hn
  refine ⟨hl, s, μ.set n (.lst xs), es, _, _, rfl, R', by rw [List.length_set]; exact hv, hx xs hP, fun e μ' v s' hq x' R2 r f => ?_, fun _ _ _ _ _ z => z.elim⟩
  obtain ⟨ys, hP2, rfl, hq⟩ := hq
  have hlt := (List.getElem?_eq_some_iff.mp hn).1
  have R3 := R2.close (n := n) (xs := ys) (by rw [List.getElem?_set_self hlt]) hP2
  rw [set_back hn] at R3
  rw [List.length_set] at r
  rw [List.length_set, List.length_set] at x'
  exact l e μ v s' hq x' R3 r f
theorem DefAt.abs {Pr : Program} {w : World} {mg : Str → Option Value} {base : Heap} {x : Str} {k : Nat} {ps : List Str} {dvs : List V} {ds : List Value} {spc spa : SpD} (D : DefAt Pr w K mg base x k ps dvs ds spc)
    (h : ∀ es μ q x, spa es μ q x → ∃ n P, μ[n]? = some (.abs P) ∧ ∀ xs, P xs → spc es (μ.set n (.lst xs)) (fun e μ' => ∃ ys, P ys ∧ μ' = μ.set n (.lst ys) ∧ q e μ) (fun _ _ => False)) : DefAt Pr w K mg base x k ps dvs ds spa := by
  obtain ⟨f, fd, G, h1, h2, h3⟩ := D.ex
  exact ⟨⟨f, fd, G.imp fun vs H Q E hs => spOf_abs h hs, h1, h2, h3⟩, D.dv⟩
end
/-- a drawing state -/
def rngP (xs : List PyData) : Prop := ∃ a b : Int, xs = [.int a, .int b] ∧ 0 ≤ a ∧ a < 2147483648
def isR (μ : Mu) (n : Nat) : Prop := μ[n]? = some (.abs rngP)
theorem isR.lt {μ : Mu} {n : Nat} (h : isR μ n) : n < μ.length := get_lt h
theorem isR_app {μ ν : Mu} {n : Nat} (h : isR μ n) : isR (μ ++ ν) n = True := eq_true (by
  unfold isR
  rw [List.getElem?_append_left h.lt]
  exact h)
theorem isR_h {μ : Mu} {n : Nat} (h : isR μ n) : isR μ n = True := eq_true h
theorem isR_last {μ ν : Mu} : isR (μ ++ .abs rngP :: ν) μ.length = True := eq_true (by simp [isR])
def sp_nextA : SpD := fun es μ q _ => match es with
  | [.loc n, .dat (.int k)] => isR μ n ∧ 0 < k ∧ k < 1073741824 ∧ ∀ r : Int, 0 ≤ r → r < k → q (.dat (.int r)) μ
  | _ => False
theorem nextA_eq {n : Nat} {k : Int} {μ : Mu} {q : PQ} {x : XQ} : sp_nextA [.loc n, .dat (.int k)] μ q x = (isR μ n ∧ 0 < k ∧ k < 1073741824 ∧ ∀ r : Int, 0 ≤ r → r < k → q (.dat (.int r)) μ) := Eq.trans rfl rfl
theorem next_abs : ∀ es μ q x, sp_nextA es μ q x → ∃ n P, μ[n]? = some (.abs P) ∧ ∀ xs, P xs → sp_next es (μ.set n (.lst xs)) (fun e μ' => ∃ ys, P ys ∧ μ' = μ.set n (.lst ys) ∧ q e μ) (fun _ _ => False) := by
  intro es μ q x h
  unfold sp_nextA at h
  split at h
  · rename_i n k
    obtain ⟨hr, h0, h1, hq⟩ := h
    refine ⟨n, rngP, hr, fun xs hP => ?_⟩
    obtain ⟨a, b, rfl, ha, hb⟩ := hP
    refine ⟨n, k, rfl, ⟨a, b, List.getElem?_set_self hr.lt, ha, hb⟩, h0, h1, fun r μ' r0 r1 st => ?_⟩
    obtain ⟨a', b', rfl, ha', hb'⟩ := st
    exact ⟨_, ⟨a', b', rfl, ha', hb'⟩, by rw [List.set_set], hq r r0 r1⟩
  · exact h.elim
def cellAK (P : List PyData → Prop) (q : PQ) : PQ := fun e μ1 => match e with
  | .new xs => P xs ∧ q (.loc μ1.length) (μ1 ++ [.abs P])
  | _ => False
/-- a new list known by a property -/
def dCellA (P : List PyData → Prop) (t : TDE) : TDE := fun η μ q E => t η μ (cellAK P q) E
theorem sem_cellA {K : PySem.W.Frag} {W : WX} {P : List PyData → Prop} {t : TE} {td : TDE} (g : SemE K W t td) : SemE K W t (dCellA P td) := fun s σ η μ Q q E S hq l lx => g s σ η μ Q _ E S hq (fun e μ' v s' hk x R r f => by
  cases e with
  | new xs =>
    obtain ⟨hP, hk⟩ := hk
    obtain ⟨p, vs, rfl, h1, h2, h3, h4⟩ := r
    obtain ⟨a1, a2⟩ := cell_new R x h1 h2 h3 h4 (f p rfl)
    have a3 := a1.close (n := μ'.length) (xs := xs) (by simp) hP
    have e1 : (μ' ++ [Cell.lst xs]).set μ'.length (.abs P) = μ' ++ [.abs P] := by simp
    rw [e1] at a3
    have e2 : (μ' ++ [Cell.abs P]).length = (μ' ++ [Cell.lst xs]).length := by simp
    exact l (.loc μ'.length) _ _ (newL s' μ'.length p (· = p)) hk (by rw [e2]; exact a2) a3 ⟨by simp, by rw [newL_L]⟩ trivial
  | dat d => exact hk.elim
  | loc d => exact hk.elim
  | raw d => exact hk.elim
  | exc d => exact hk.elim
  | ro d => exact hk.elim
  | newd d => exact hk.elim
  | newk d => exact hk.elim
  | «at» _ _ _ => exact hk.elim
  | newo _ => exact hk.elim
  | per _ => exact hk.elim) lx
theorem de_cellA {X : Cx} {W : WX} {e : Expr} {te : TDE} (P : List PyData → Prop) (h : DE X W e te) : DE X W e (dCellA P te) := by
  obtain ⟨t, hp, g⟩ := h.ex
  exact de_pe hp (sem_cellA g)
theorem x_dCellA {P : List PyData → Prop} {t : TDE} {η : DEnv} {μ : Mu} {q : PQ} {E : XQ} : dCellA P t η μ q E = t η μ (cellAK P q) E := Eq.trans rfl rfl
theorem cellA_new {P : List PyData → Prop} {q : PQ} {μ : Mu} {xs : List PyData} : cellAK P q (.new xs) μ = (P xs ∧ q (.loc μ.length) (μ ++ [.abs P])) := Eq.trans rfl rfl
def sp_stateA : SpD := fun es μ q _ => match es with
  | [.dat (.int c), .dat (.int k)] => 0 ≤ k ∧ k ≤ 1000 ∧ ∀ xs, rngP xs → q (.new xs) μ
  | _ => False
theorem stateA_eq {c k : Int} {μ : Mu} {q : PQ} {x : XQ} : sp_stateA [.dat (.int c), .dat (.int k)] μ q x = (0 ≤ k ∧ k ≤ 1000 ∧ ∀ xs, rngP xs → q (.new xs) μ) := Eq.trans rfl rfl
theorem DefAt.imp {K : PySem.W.Frag} {Pr : Program} {w : World} {mg : Str → Option Value} {base : Heap} {x : Str} {k : Nat} {ps : List Str} {dvs : List V} {ds : List Value} {sp sp' : SpD} (D : DefAt Pr w K mg base x k ps dvs ds sp)
    (h : ∀ es μ q x, sp' es μ q x → sp es μ q x) : DefAt Pr w K mg base x k ps dvs ds sp' := by
  obtain ⟨f, fd, G, h1, h2, h3⟩ := D.ex
  refine ⟨⟨f, fd, G.imp fun vs H Q E hs => ?_, h1, h2, h3⟩, D.dv⟩
  obtain ⟨hl, s, μ, es, q, x, e, R, hv, hsp, l, lx⟩ := hs
  exact ⟨hl, s, μ, es, q, x, e, R, hv, h es μ q x hsp, l, lx⟩
theorem state_abs : ∀ es μ q x, sp_stateA es μ q x → sp_state es μ q x := by
  intro es μ q x h
  unfold sp_stateA at h
  split at h
  · exact ⟨_, _, rfl, h.1, h.2.1, fun a b h0 h1 => h.2.2 _ ⟨a, b, rfl, h0, h1⟩⟩
  · exact h.elim
def sp_cellA : SpD := fun es μ q _ => match es with
  | [.ro ds, .dat (.int k)] => ∃ ns : List Int, ds = ns.map .int ∧ 0 ≤ k ∧ k ≤ 1000 ∧ ns.length ≤ 63 ∧ ∀ r : Int, q (.dat (.int r)) μ
  | _ => False
theorem map_int_inj {a b : List Int} : (a.map PyData.int = b.map PyData.int) = (a = b) := propext ⟨fun h => by
  have := congrArg (fun l => l.map fun d => match d with | PyData.int i => i | _ => 0) h
  simpa [Function.comp_def] using this, fun h => by rw [h]⟩
theorem cellA_eq {ns : List Int} {k : Int} {μ : Mu} {q : PQ} {x : XQ} : sp_cellA [.ro (ns.map .int), .dat (.int k)] μ q x = (0 ≤ k ∧ k ≤ 1000 ∧ ns.length ≤ 63 ∧ ∀ r : Int, q (.dat (.int r)) μ) := by
  unfold sp_cellA
  simp only [map_int_inj]
  exact propext ⟨fun ⟨ms, e, h⟩ => by subst e; exact h, fun h => ⟨ns, rfl, h⟩⟩
theorem cell_abs : ∀ es μ q x, sp_cellA es μ q x → sp_cell es μ q x := by
  intro es μ q x h
  unfold sp_cellA at h
  split at h
  · obtain ⟨ns, rfl, h⟩ := h
    exact ⟨ns, _, rfl, h⟩
  · exact h.elim
/-! ### slots forgotten -/
def forget (η : DEnv) : List Nat → DEnv
  | [] => η
  | v :: vs => (forget η vs).set v none
theorem ER.forget {K : PySem.W.Frag} {s : Wd} {N : Nat} {σ : L2.St} {η : DEnv} (h : ER K s N σ η) (vs : List Nat) : ER K s N σ (DL.forget η vs) := by
  induction vs with
  | nil => exact h
  | cons v vs ih =>
    refine ih.sub (by simp [DL.forget]) fun i e q => ?_
    unfold DL.forget at q
    by_cases hj : v = i
    · subst hj
      by_cases hl : v < (DL.forget η vs).length
      · rw [List.getElem?_set_self hl] at q
        cases q
      · rw [List.getElem?_eq_none (by simpa using hl)] at q
        cases q
    · rwa [List.getElem?_set_ne hj] at q
theorem Sit.forget {K : PySem.W.Frag} {s : Wd} {μ : Mu} {σ : L2.St} {η : DEnv} (h : Sit K s μ σ η) (vs : List Nat) : Sit K s μ σ (DL.forget η vs) := ⟨h.rep, h.er.forget vs⟩
theorem fg_nil {η : DEnv} : forget η [] = η := Eq.trans rfl rfl
theorem fg_cons {η : DEnv} {v : Nat} {vs : List Nat} : forget η (v :: vs) = (forget η vs).set v none := Eq.trans rfl rfl
/-- behind a statement slots are forgotten -/
def sWipe (vs : List Nat) (t : TDS) : TDS := fun d E η μ => t { d with nx := fun η' μ' => d.nx (forget η' vs) μ' } E η μ
section
variable {X : Cx} {W : WX} {st : Stmt} {t : TDS} {pos : Pos} {tA : TDT}
theorem ds_wipe (vs : List Nat) (h : DS X W st t) : DS X W st (sWipe vs t) := by
  obtain ⟨t1, p1, g1⟩ := h.ex
  exact ⟨t1, p1, fun s σ η μ D d E S hq l => g1 s σ η μ D _ E S hq ⟨fun η' μ' σ' s' q x S' => l.nx _ _ _ _ q x (S'.forget vs), l.rt, l.bk, l.ct, l.xq⟩⟩
def sForF (vs : List Nat) (ti : TDI) (g : TDG) (tb : TDS) : TDS := fun d E η μ => ti η μ (fun items G μ1 => ∃ Inv : Nat → DEnv → Mu → Prop, Inv 0 (forget η vs) μ1 ∧ (∀ i η μ, Inv i η μ → G μ) ∧
  (∀ (i : Nat) (e : EV) η μ, items[i]? = some e → Inv i η μ → g e η μ fun η2 μ2 => tb { nx := fun η' μ' => Inv (i + 1) (clean μ1.length (forget η' vs)) (μ'.take μ1.length), ct := fun η' μ' => Inv (i + 1) (clean μ1.length (forget η' vs)) (μ'.take μ1.length), bk := d.nx, rt := d.rt } E η2 μ2) ∧
  ∀ η μ, Inv items.length η μ → d.nx η μ) E
theorem ds_forF (vs : List Nat) {tg iter : Expr} {body : List Stmt} {is : List Nat} {ti : TDI} {g : TDG} {tb : TDS} (hp : PassesOwn (model X.prog X.w) X.A X.env X.xe) (hc : X.calm = true) (hi : DI X W tg iter ti) (hg : DG X tg is g) (hb : DSs X W body tb)
    (hs : ∀ x, foldedSetIterable iter X.env x = pure x := by intro _; rfl) : DS X W (.For tg iter body [] pos) (sForF vs ti g tb) := by
  obtain ⟨wi, p1, g1⟩ := hi.ex
  obtain ⟨gg, p2, g2⟩ := hg.ex
  obtain ⟨tb', p3, g3⟩ := hb.ex
  refine ⟨_, ps_for hp hc p1 p2 p3 hs, fun s σ η μ D d E S hq l => g1 s σ η μ _ _ E S hq (fun J items G μ1 s1 hk x1 R1 wk => ?_) (l.lx σ)⟩
  obtain ⟨Inv, h0, hG, hs, hd⟩ := hk
  have l1 := l.go x1 R1
  refine ⟨fun i m σ' H' => m = items.length - i ∧ i ≤ items.length ∧ ∃ (s' : Wd) (η' : DEnv) (μ' : Mu), s'.H = H' ∧ Ext s1 μ1.length s' μ'.length ∧ Sit X.K s' μ' σ' η' ∧ Inv i η' μ', ⟨items.length, by simp, Nat.zero_le _, s1, _, μ1, rfl, Ext.refl _ _, (S.go x1 R1).forget vs, h0⟩, ?_⟩
  rintro i m σ' H' ⟨rfl, hi, s', η', μ', rfl, x', S', iv⟩
  have ⟨wgo, wstop, wy⟩ := wk i s' μ' x' S'.rep (hG i η' μ' iv)
  by_cases hlt : i < items.length
  · refine .inr ⟨wgo hlt, fun σ2 H2 => ∃ (s2 : Wd) (η2 : DEnv) (μ2 : Mu), s2.H = H2 ∧ Ext s1 μ1.length s2 μ2.length ∧ Sit X.K s2 μ2 σ2 η2 ∧ Inv (i + 1) η2 μ2, fun σ2 H2 h2 => ⟨items.length - (i + 1), by omega, rfl, hlt, h2⟩, fun x H'' hy => ?_⟩
    obtain ⟨s2, e, rfl, he, hne, x2, R2, r2⟩ := wy x H'' hlt hy
    have x12 := x'.trans x2 fun n hn => S'.rep.here hn
    refine g2 s2 σ' η' μ' x e _ _ (S'.go x2 R2) r2 (hs i e η' μ' he iv) fun η3 μ3 σ3 s3 hk3 x3 S3 _ => ?_
    have x13 := x12.trans x3 fun n hn => R2.here hn
    have l3 := l1.go x13 S3.rep
    have fin : ∀ (η4 : DEnv) (μ4 : Mu) (σ4 : L2.St) (s4 : Wd), Inv (i + 1) (clean μ1.length (forget η4 vs)) (μ4.take μ1.length) → Ext s3 μ3.length s4 μ4.length → Sit X.K s4 μ4 σ4 η4 →
        ∃ (s2 : Wd) (η2 : DEnv) (μ2 : Mu), s2.H = s4.H ∧ Ext s1 μ1.length s2 μ2.length ∧ Sit X.K s2 μ2 σ4 η2 ∧ Inv (i + 1) η2 μ2 := fun η4 μ4 σ4 s4 hk4 x4 S4 => by
      have x14 := x13.trans x4 fun n hn => S3.rep.here hn
      have e4 : (μ4.take μ1.length).length = μ1.length := by rw [List.length_take]; have := x14.le; omega
      exact ⟨s4, _, _, rfl, by rw [e4]; exact x14.take (Nat.le_refl _) x14.le, (S4.forget vs).clean x14.le, hk4⟩
    exact g3 s3 σ3 η3 μ3 _ _ E S3 hk3 ⟨fin, l3.rt, l3.nx, fin, l3.xq⟩
  · have e : i = items.length := by omega
    subst e
    exact .inl ⟨wstop, (l1.go x' S'.rep).nx η' μ' σ' s' (hd η' μ' iv) (Ext.refl _ _) S'⟩
end
/-! ### stepping -/
def ForGF (vs : List Nat) (g : TDG) (tb : TDS) (d : DEnds) (E : XQ) (η : DEnv) (items : List EV) (G : Mu → Prop) (μ1 : Mu) : Prop := ∃ Inv : Nat → DEnv → Mu → Prop, Inv 0 (forget η vs) μ1 ∧ (∀ i η μ, Inv i η μ → G μ) ∧
  (∀ (i : Nat) (e : EV) η μ, items[i]? = some e → Inv i η μ → g e η μ fun η2 μ2 => tb { nx := fun η' μ' => Inv (i + 1) (clean μ1.length (forget η' vs)) (μ'.take μ1.length), ct := fun η' μ' => Inv (i + 1) (clean μ1.length (forget η' vs)) (μ'.take μ1.length), bk := d.nx, rt := d.rt } E η2 μ2) ∧
  ∀ η μ, Inv items.length η μ → d.nx η μ
section
variable {t v : TDS} {ti : TDI} {tc : TDT} {g : TDG} {d : DEnds} {E : XQ} {η : DEnv} {μ μ1 : Mu} {vs : List Nat}
theorem s_wipe (h : t { d with nx := fun η' μ' => d.nx (forget η' vs) μ' } E η μ) : sWipe vs t d E η μ := h
theorem q_wipe (h : t { d with nx := fun η' μ' => v d E (forget η' vs) μ' } E η μ) : sSeq (sWipe vs t) v d E η μ := h
theorem s_forF (h : ti η μ (ForGF vs g t d E η) E) : sForF vs ti g t d E η μ := h
theorem q_forF (h : ti η μ (ForGF vs g t { d with nx := v d E } E η) E) : sSeq (sForF vs ti g t) v d E η μ := h
theorem for_st {α σ : Type} {as : List α} {h : α → EV} {G : Mu → Prop} (ok : Nat → σ → Prop) (up : DEnv → σ → DEnv) (sto : Mu → σ → Mu) (s0 : σ)
    (e0 : up (forget η vs) s0 = forget η vs) (m0 : sto μ1 s0 = μ1) (k0 : ok 0 s0) (hG : ∀ s, G (sto μ1 s))
    (hs : ∀ (i : Nat) (a : α) (s : σ) (J : DEnv → Mu → Prop), as[i]? = some a → ok i s → (∀ s', ok (i + 1) s' → J (up (forget η vs) s') (sto μ1 s')) →
      g (h a) (up (forget η vs) s) (sto μ1 s) fun η2 μ2 => t { nx := fun η' μ' => J (clean μ1.length (forget η' vs)) (μ'.take μ1.length), ct := fun η' μ' => J (clean μ1.length (forget η' vs)) (μ'.take μ1.length), bk := d.nx, rt := d.rt } E η2 μ2)
    (hd : ∀ s, ok as.length s → d.nx (up (forget η vs) s) (sto μ1 s)) : ForGF vs g t d E η (as.map h) G μ1 := by
  refine ⟨fun i η' μ' => ∃ s, ok i s ∧ η' = up (forget η vs) s ∧ μ' = sto μ1 s, ⟨s0, k0, e0.symm, m0.symm⟩, ?_, ?_, ?_⟩
  · rintro i η' μ' ⟨s, _, rfl, rfl⟩
    exact hG s
  · rintro i e η' μ' hi ⟨s, hk, rfl, rfl⟩
    obtain ⟨a, ha, rfl⟩ := map_get hi
    exact hs i a s (fun η' μ' => ∃ s, ok (i + 1) s ∧ η' = up (forget η vs) s ∧ μ' = sto μ1 s) ha hk fun s' k => ⟨s', k, rfl, rfl⟩
  · rintro η' μ' ⟨s, hk, rfl, rfl⟩
    rw [List.length_map] at hk
    exact hd s hk
/-- a loop that goes on while p, and leaves otherwise -/
theorem for_all {α : Type} {as : List α} {h : α → EV} {G : Mu → Prop} (p : α → Bool) (hG : G μ1)
    (hs : ∀ (i : Nat) (a : α) (J : DEnv → Mu → Prop), as[i]? = some a → (∀ b ∈ as.take i, p b = true) → (p a = true → J (forget η vs) μ1) →
      g (h a) (forget η vs) μ1 fun η2 μ2 => t { nx := fun η' μ' => J (clean μ1.length (forget η' vs)) (μ'.take μ1.length), ct := fun η' μ' => J (clean μ1.length (forget η' vs)) (μ'.take μ1.length), bk := d.nx, rt := d.rt } E η2 μ2)
    (hd : (∀ b ∈ as, p b = true) → d.nx (forget η vs) μ1) : ForGF vs g t d E η (as.map h) G μ1 := by
  refine for_st (fun i (_ : Unit) => ∀ b ∈ as.take i, p b = true) (fun η _ => η) (fun μ _ => μ) () rfl rfl (fun b hb => by simp at hb) (fun _ => hG) ?_ ?_
  · rintro i a s J ha hp hJ
    refine hs i a J ha hp fun hpa => hJ () fun b hb => ?_
    rw [List.take_add_one, ha] at hb
    simp only [Option.toList_some, List.mem_append, List.mem_singleton] at hb
    rcases hb with hb | rfl
    · exact hp b hb
    · exact hpa
  · rintro s hp
    rw [List.take_length] at hp
    exact hd hp
end
end DL
set_option Elab.async false
set_option linter.all false
set_option maxRecDepth 100000
set_option maxHeartbeats 4000000
namespace DL
open PySem L2 PyProof.Rows
/-! ### what a cell holds, by equations -/
def lcR (c : Option Cell) (k : List PyData → Prop) : Prop := match c with
  | some (.lst xs) => k xs
  | some (.frz xs) => k xs
  | _ => False
def lcK (c : Option Cell) (k : List PyData → Prop) : Prop := match c with
  | some (.lst xs) => k xs
  | _ => False
theorem lcR_l {xs : List PyData} {k : List PyData → Prop} : lcR (some (.lst xs)) k = k xs := Eq.trans rfl rfl
theorem lcR_f {xs : List PyData} {k : List PyData → Prop} : lcR (some (.frz xs)) k = k xs := Eq.trans rfl rfl
theorem lcK_l {xs : List PyData} {k : List PyData → Prop} : lcK (some (.lst xs)) k = k xs := Eq.trans rfl rfl
section
variable {μ ν : Mu} {n : Nat} {q : PQ} {xs ys : List PyData} {N : Nat}
theorem c_len : oLen [.loc n] μ q = lcR μ[n]? fun xs => q (.dat (.int xs.length)) μ := by
  simp only [oLen, seqOf, tupOf, roOf, lstOf, lcR]
  all_goals (cases μ[n]? with
    | none => rfl
    | some c => cases c <;> rfl)
theorem c_ix {i : Int} : oIx (.loc n) (.dat (.int i)) μ q = lcR μ[n]? fun xs => ∃ d, atI xs i = some d ∧ q (.dat d) μ := by
  simp only [oIx, seqOf, tupOf, roOf, lstOf, lcR]
  all_goals (cases μ[n]? with
    | none => rfl
    | some c => cases c <;> rfl)
theorem c_app {d : PyData} : oAppend (.loc n) [.dat d] μ q = lcK μ[n]? fun xs => xs.length < 100000 ∧ q (.dat .none) (μ.set n (.lst (xs ++ [d]))) := by
  simp only [oAppend, withL, lcK]
  all_goals (cases μ[n]? with
    | none => rfl
    | some c => cases c <;> rfl)
theorem c_set {k : Int} {d : PyData} {q : Mu → Prop} : oSetL (.loc n) (.dat (.int k)) (.dat d) μ q = lcK μ[n]? fun xs => ∃ j, ixN xs.length k = some j ∧ q (μ.set n (.lst (xs.set j d))) := by
  simp only [oSetL, withL, lcK]
  all_goals (cases μ[n]? with
    | none => rfl
    | some c => cases c <;> rfl)
theorem c_isL : isLstE (.loc n) μ = lcR μ[n]? fun _ => True := by
  simp only [isLstE, lstOf, lcR]
  all_goals (cases μ[n]? with
    | none => simp
    | some c => cases c <;> simp)
theorem c_sqK {k : List PyData → Prop} : sqK μ (.loc n) k = lcR μ[n]? k := by
  simp only [sqK, seqOf, tupOf, roOf, lstOf, lcR]
  all_goals (cases μ[n]? with
    | none => rfl
    | some c => cases c <;> rfl)
theorem c_mem {neg : Bool} {d : PyData} : oMem neg (.dat d) (.loc n) μ q = lcR μ[n]? fun ds => (noD d = true ∧ noD (.list ds) = true) ∧ d.depth ≤ 60 ∧ q (.dat (.bool (if neg then !has ds d else has ds d))) μ := by
  simp only [oMem, datOf, lstOf, boxD, has, lcR]
  all_goals (cases μ[n]? with
    | none => rfl
    | some c => cases c <;> rfl)
theorem c_sl {lo hi : Option Int} : oSl (.loc n) lo hi μ q = lcR μ[n]? fun xs => q (.new (cutD xs lo hi)) μ := by
  simp only [oSl, lstOf, lcR]
  all_goals (cases μ[n]? with
    | none => rfl
    | some c => cases c <;> rfl)
def seqC (r : RI) (n : Nat) (μ : Mu) (c : Option Cell) : Prop := match c with
  | some (.lst xs) => r (xs.map .dat) (fun μ => μ[n]? = some (.lst xs) ∨ μ[n]? = some (.frz xs)) μ
  | some (.frz xs) => r (xs.map .dat) (fun _ => True) μ
  | _ => False
theorem c_seqK {r : RI} : seqK r (.loc n) μ = seqC r n μ μ[n]? := by
  have e : seqK r (.loc n) μ = (match μ[n]? with
    | some (.lst xs) => r (xs.map .dat) (fun μ => μ[n]? = some (.lst xs) ∨ μ[n]? = some (.frz xs)) μ
    | some (.frz xs) => r (xs.map .dat) (fun _ => True) μ
    | _ => False) := Eq.trans rfl rfl
  rw [e]
  cases μ[n]? with
  | none => rfl
  | some c => cases c <;> rfl
theorem seqC_l {r : RI} : seqC r n μ (some (.lst xs)) = r (xs.map .dat) (fun μ => μ[n]? = some (.lst xs) ∨ μ[n]? = some (.frz xs)) μ := Eq.trans rfl rfl
/-- made still -/
def wdC (k : PyData → Mu → Prop) (n : Nat) (μ : Mu) (c : Option Cell) : Prop := match c with
  | some (.lst xs) => k (.list xs) (μ.set n (.frz xs))
  | some (.frz xs) => k (.list xs) μ
  | _ => False
theorem c_wD {k : PyData → Mu → Prop} : withDat μ (.loc n) k = wdC k n μ μ[n]? := by
  simp only [withDat, toDat, wdC]
  all_goals (cases μ[n]? with
    | none => rfl
    | some c => cases c <;> rfl)
theorem wdC_l {k : PyData → Mu → Prop} : wdC k n μ (some (.lst xs)) = k (.list xs) (μ.set n (.frz xs)) := Eq.trans rfl rfl
def exC (q : PQ) (N : Nat) (μ : Mu) (c : Option Cell) : Prop := match c with
  | some (.lst xs) => q (.new xs) (μ.take N)
  | some (.frz xs) => q (.dat (.list xs)) (μ.take N)
  | some (.dct kvs) => q (.newd kvs) (μ.take N)
  | some (.dck kvs) => q (.newk kvs) (μ.take N)
  | _ => False
theorem exitQ_ge (h : N ≤ n) : DL.exitQ N q (.loc n) μ = exC q N μ μ[n]? := by
  have : ¬ n < N := by omega
  simp only [DL.exitQ, this, if_false, exC]
  all_goals (cases μ[n]? with
    | none => rfl
    | some c => cases c <;> rfl)
theorem exC_l : exC q N μ (some (.lst xs)) = q (.new xs) (μ.take N) := Eq.trans rfl rfl
/-! stores with cells behind -/
variable {c c0 c1 c2 d : Cell}
theorem get_a0 : (μ ++ c :: ν)[μ.length]? = some c := by simp
theorem set_a0 : (μ ++ c :: ν).set μ.length d = μ ++ d :: ν := by simp
theorem tk_0 : μ.take μ.length = μ := List.take_length
theorem tk_a0 : (μ ++ ν).take μ.length = μ := by simp
theorem tk_a1 : (μ ++ c :: ν).take (μ.length + 1) = μ ++ [c] := by
  rw [List.take_append, List.take_of_length_le (by omega)]
  simp
end
/-! no dict -/
theorem noD_n : noD .none = true := by simp [noD]
theorem noD_b {b : Bool} : noD (.bool b) = true := by simp [noD]
theorem noD_i {b : Int} : noD (.int b) = true := by simp [noD]
theorem noD_s {b : Str} : noD (.str b) = true := by simp [noD]
theorem noD_l {b : List PyData} : noD (.list b) = noDs b := by simp [noD]
theorem noD_t {b : List PyData} : noD (.tuple b) = noDs b := by simp [noD]
theorem noDs_nil : noDs [] = true := by simp [noDs]
theorem noDs_cons {d : PyData} {b : List PyData} : noDs (d :: b) = (noD d && noDs b) := by simp [noDs]
theorem noDs_map {α : Type} {f : α → PyData} (h : ∀ a, noD (f a) = true) (xs : List α) : noDs (xs.map f) = true := by
  induction xs with
  | nil => simp [noDs]
  | cons x xs ih => simp [noDs, ih, h]
theorem noDs_s {xs : List Str} : noDs (xs.map PyData.str) = true := noDs_map (fun _ => noD_s) xs
/-! data that is equal -/
theorem eqv_tup {xs ys : List PyData} : PyData.eqv (.tuple xs) (.tuple ys) = PyData.eqvAll xs ys := by rw [PyData.eqv]
theorem eqv_lst {xs ys : List PyData} : PyData.eqv (.list xs) (.list ys) = PyData.eqvAll xs ys := by rw [PyData.eqv]
theorem eqvA_nn : PyData.eqvAll [] [] = true := by rw [PyData.eqvAll]
theorem eqvA_cc {x y : PyData} {xs ys : List PyData} : PyData.eqvAll (x :: xs) (y :: ys) = (PyData.eqv x y && PyData.eqvAll xs ys) := by rw [PyData.eqvAll]
theorem eqvA_nc {y : PyData} {ys : List PyData} : PyData.eqvAll [] (y :: ys) = false := by rw [PyData.eqvAll]
theorem eqvA_cn {y : PyData} {ys : List PyData} : PyData.eqvAll (y :: ys) [] = false := by rw [PyData.eqvAll]
theorem dep_tup {xs : List PyData} : (PyData.tuple xs).depth = PyData.depthAll xs + 1 := by rw [PyData.depth]
theorem dep_lst {xs : List PyData} : (PyData.list xs).depth = PyData.depthAll xs + 1 := by rw [PyData.depth]
theorem depA_nil : PyData.depthAll [] = 0 := by rw [PyData.depthAll]
theorem depA_cons {x : PyData} {xs : List PyData} : PyData.depthAll (x :: xs) = max x.depth (PyData.depthAll xs) := by rw [PyData.depthAll]
theorem depA_map {α : Type} (f : α → PyData) {n : Nat} (h : ∀ a, (f a).depth ≤ n) : ∀ xs : List α, PyData.depthAll (xs.map f) ≤ n
  | [] => by rw [List.map_nil, depA_nil]; exact Nat.zero_le _
  | x :: xs => by
    rw [List.map_cons, depA_cons]
    exact Nat.max_le.mpr ⟨h x, depA_map f h xs⟩
/-- an encoding by data whose == is the equality -/
structure Enc {α : Type} (f : α → PyData) (n : Nat) : Prop where
  nod : ∀ a, noD (f a) = true
  inj : ∀ a b, PyData.eqv (f a) (f b) = true ↔ a = b
  dep : ∀ a, (f a).depth ≤ n
theorem Enc.eqv {α : Type} [DecidableEq α] {f : α → PyData} {n : Nat} (h : Enc f n) (a b : α) : PyData.eqv (f a) (f b) = decide (a = b) := by
  rw [Bool.eq_iff_iff, h.inj, decide_eq_true_eq]
theorem enc_int : Enc PyData.int 0 := ⟨fun _ => noD_i, fun a b => by rw [eqv_int, decide_eq_true_eq], fun a => by rw [dep_int]; omega⟩
theorem enc_str : Enc PyData.str 0 := ⟨fun _ => noD_s, fun a b => by rw [eqv_str, decide_eq_true_eq], fun a => by rw [dep_str]; omega⟩
theorem Enc.all {α : Type} {f : α → PyData} {n : Nat} (h : Enc f n) : ∀ xs ys : List α, PyData.eqvAll (xs.map f) (ys.map f) = true ↔ xs = ys
  | [], [] => by simp [eqvA_nn]
  | [], _ :: _ => by simp [eqvA_nc]
  | _ :: _, [] => by simp [eqvA_cn]
  | x :: xs, y :: ys => by rw [List.map_cons, List.map_cons, eqvA_cc, Bool.and_eq_true, h.inj, h.all xs ys, List.cons.injEq]
theorem Enc.list {α : Type} {f : α → PyData} {n : Nat} (h : Enc f n) : Enc (fun xs : List α => .list (xs.map f)) (n + 1) :=
  ⟨fun a => by rw [noD_l]; exact noDs_map h.nod a, fun a b => by rw [eqv_lst, h.all], fun a => by rw [dep_lst]; exact Nat.succ_le_succ (depA_map f h.dep a)⟩
theorem Enc.tup {α : Type} {f : α → PyData} {n : Nat} (h : Enc f n) : Enc (fun xs : List α => .tuple (xs.map f)) (n + 1) :=
  ⟨fun a => by rw [noD_t]; exact noDs_map h.nod a, fun a b => by rw [eqv_tup, h.all], fun a => by rw [dep_tup]; exact Nat.succ_le_succ (depA_map f h.dep a)⟩
theorem Enc.t2 {α β : Type} {f : α → PyData} {g : β → PyData} {n m : Nat} (h : Enc f n) (k : Enc g m) : Enc (fun p : α × β => .tuple [f p.1, g p.2]) (n + m + 1) :=
  ⟨fun a => by simp [noD_t, noDs_cons, noDs_nil, h.nod, k.nod], fun a b => by rw [eqv_tup, eqvA_cc, eqvA_cc, eqvA_nn, Bool.and_true, Bool.and_eq_true, h.inj, k.inj, Prod.ext_iff],
   fun a => by rw [dep_tup, depA_cons, depA_cons, depA_nil]; have := h.dep a.1; have := k.dep a.2; omega⟩
theorem Enc.t4 {α β γ δ : Type} {f : α → PyData} {g : β → PyData} {e : γ → PyData} {o : δ → PyData} {n m l p : Nat} (h : Enc f n) (k : Enc g m) (j : Enc e l) (i : Enc o p) : Enc (fun p : α × β × γ × δ => .tuple [f p.1, g p.2.1, e p.2.2.1, o p.2.2.2]) (n + m + l + p + 1) :=
  ⟨fun a => by simp [noD_t, noDs_cons, noDs_nil, h.nod, k.nod, j.nod, i.nod], fun a b => by simp only [eqv_tup, eqvA_cc, eqvA_nn, Bool.and_true, Bool.and_eq_true, h.inj, k.inj, j.inj, i.inj, Prod.ext_iff],
   fun a => by simp only [dep_tup, depA_cons, depA_nil]; have := h.dep a.1; have := k.dep a.2.1; have := j.dep a.2.2.1; have := i.dep a.2.2.2; omega⟩
end DL
set_option Elab.async false
set_option linter.all false
set_option maxRecDepth 100000
set_option maxHeartbeats 4000000
namespace DL
open PySem L2 PyProof.Rows
theorem Enc.eq {α : Type} {f : α → PyData} {n : Nat} (h : Enc f n) {a b : α} : (f a = f b) = (a = b) :=
  propext ⟨fun e => (h.inj a b).mp (by rw [← e]; exact (h.inj a a).mpr rfl), fun e => by rw [e]⟩
theorem Enc.map_eq {α : Type} {f : α → PyData} {n : Nat} (h : Enc f n) {a b : List α} : (a.map f = b.map f) = (a = b) :=
  propext ⟨fun e => (h.all a b).mp (by rw [← e]; exact (h.all a a).mpr rfl), fun e => by rw [e]⟩
/-- the shape of a whole number between two bounds -/
def isNum (d : PyData) (a b : Int) : Bool := match d with
  | .int i => decide (a ≤ i) && decide (i ≤ b)
  | _ => false
theorem isNum_ex {t : PyData} {a b : Int} (h : isNum t a b = true) : ∃ n : Int, t = .int n ∧ a ≤ n ∧ n ≤ b := by
  cases t with
  | int i =>
    simp only [isNum, Bool.and_eq_true, decide_eq_true_eq] at h
    exact ⟨i, rfl, h⟩
  | _ => cases h
theorem kit_self {K : PySem.W.Frag} {D : Addr} : PySem.W.kitOne K (.ref D) (.ref D) = some true := by
  unfold PySem.W.kitOne
  rw [if_pos (beq_iff_eq.mpr rfl)]
theorem kit_ref {K : PySem.W.Frag} {D C : Addr} {b : Bool} (ne : D ≠ C) (hdct : PySem.W.hasDictIn K C = true) (ht : PySem.W.typeIn K (.ref C) = some (.type "type")) (h4 : PySem.W.subIn K (.ref D) (.ref C) = some b) : PySem.W.kitOne K (.ref D) (.ref C) = some b := by
  obtain ⟨cd, hc, _⟩ := PySem.W.any_some hdct
  have e2 : ((PySem.W.clsIn K C).isSome && PySem.W.typeIn K (.ref C) == some (.type "type")) = true := by rw [hc, ht] <;> rfl
  unfold PySem.W.kitOne
  rw [if_neg (fun h => ne (Value.ref.inj (beq_iff_eq.mp h)))]
  show (if ((PySem.W.clsIn K C).isSome && PySem.W.typeIn K (.ref C) == some (.type "type")) = true then PySem.W.subIn K (.ref D) (.ref C) else none) = some b
  rw [if_pos e2]
  exact h4
theorem kit_typ {K : PySem.W.Frag} {D : Addr} {S : String} {b : Bool} (hm : PySem.W.kitMeta S = true) (hne : Value.ref D = .type S → False) (h4 : PySem.W.subIn K (.ref D) (.type S) = some b) : PySem.W.kitOne K (.ref D) (.type S) = some b := by
  unfold PySem.W.kitOne
  rw [if_neg (fun h => hne (beq_iff_eq.mp h))]
  show (if PySem.W.kitMeta S = true then PySem.W.subIn K (.ref D) (.type S) else none) = some b
  rw [if_pos hm]
  exact h4
theorem isK_mk {K : PySem.W.Frag} {D : Addr → Prop} {μ : Mu} {q : PQ} {c : Addr} {fs : Option (List (Str × PyData))} {u : V} {cv : Value} {b : Bool} (h1 : ExcC K c) (h2 : ∀ w, RelV u w → w = cv) (r : RelV u cv) (h3 : PySem.W.kitOne K (.ref c) cv = some b) : oIsK K D [.exc ⟨c, fs⟩, .raw u] μ q = q (.dat (.bool b)) μ := by
  rw [isK_e]
  refine propext ⟨fun ⟨_, cv', b', g1, g2, g3⟩ => ?_, fun h => ⟨h1, cv, b, h2, h3, h⟩⟩
  have e := g1 cv r
  subst e
  rw [h3] at g2
  cases g2
  exact g3
theorem rng_c {p : Prop} : (∀ xs, rngP xs → rngP xs ∧ p) = p := propext ⟨fun h => (h _ ⟨0, 0, rfl, Int.le_refl _, by decide⟩).2, fun h xs hx => ⟨hx, h⟩⟩
theorem cmul_l {i j : Int} (h1 : -18446744073709551616 < i) (h2 : i < 18446744073709551616) : CMul i j = True := eq_true (.inl ⟨h1, h2⟩)
theorem cmul_r {i j : Int} (h1 : -18446744073709551616 < j) (h2 : j < 18446744073709551616) : CMul i j = True := eq_true (.inr ⟨h1, h2⟩)
theorem cdiv_h {i j : Int} (h1 : 0 < j) (h2 : j < 1073741824) : CDiv i j = True := eq_true ⟨h1, h2⟩
theorem cpow_h {i j : Int} (h1 : 0 ≤ j) (h2 : j ≤ 1000000) (h3 : -18446744073709551616 < i) (h4 : i < 18446744073709551616) : CPow i j = True := eq_true ⟨h1, h2, by show i.natAbs < 18446744073709551616; omega⟩
theorem nle_h {a b : Nat} (h : a ≤ b) : (a ≤ b) = True := eq_true h
theorem nlt_h {a b : Nat} (h : a < b) : (a < b) = True := eq_true h
theorem ile_h {a b : Int} (h : a ≤ b) : (a ≤ b) = True := eq_true h
theorem ilt_h {a b : Int} (h : a < b) : (a < b) = True := eq_true h
/-- an item that a drawn number picks -/
theorem pick_at {xs : List PyData} {r : Int} {k : PyData → Prop} (h0 : 0 ≤ r) (h1 : r < xs.length) (h : ∀ d ∈ xs, k d) : ∃ d, xs[r.toNat]? = some d ∧ k d := by
  obtain ⟨d, h2, h3⟩ := pick h0 h1
  exact ⟨d, h2, h d h3⟩
/-- comprehensions over encoded items -/
theorem lc_mapD {α : Type} {as : List α} {en : α → PyData} {G : Mu → Prop} {g : TDG} {te : TDE} {vs : List Nat} {η : DEnv} {q : PQ} {μ1 : Mu} {f : α → PyData} (hz : as.length ≤ 100000) (hG : G μ1)
    (hs : ∀ (a : α) (K : PyData → Mu → Prop), a ∈ as → K (f a) μ1 → g (.dat (en a)) (wipeD η vs) μ1 fun η2 μ2 => te η2 μ2 (fun ev μ4 => withDat μ4 ev fun d μ5 => K d (μ5.take μ1.length)) EF)
    (hq : q (.new (as.map f)) μ1) : LcG g tYesD te vs η q ((as.map en).map .dat) G μ1 := by
  rw [List.map_map]
  exact lc_map (h := EV.dat ∘ en) f hz hG hs hq
theorem lc_rngF {lo : Int} {n : Nat} {G : Mu → Prop} {g : TDG} {tt : TDT} {te : TDE} {vs : List Nat} {η : DEnv} {q : PQ} {μ1 : Mu} {p : Nat → Bool} {f : Nat → PyData} (hz : n ≤ 100000) (hG : G μ1)
    (hs : ∀ (a : Nat) (K : PyData → Mu → Prop) (K' : Mu → Prop), a < n → (if p a = true then K (f a) μ1 else K' μ1) → g (.dat (.int (lo + (a : Nat)))) (wipeD η vs) μ1 fun η2 μ2 => tt η2 μ2 (fun b μ3 => if b = true then te η2 μ3 (fun ev μ4 => withDat μ4 ev fun d μ5 => K d (μ5.take μ1.length)) EF else K' (μ3.take μ1.length)) EF)
    (hq : q (.new (((List.range n).filter p).map f)) μ1) : LcG g tt te vs η q (rngItems lo n) G μ1 := by
  refine lc_filter (h := fun k : Nat => EV.dat (.int (lo + (k : Nat)))) p f (by rw [List.length_range]; exact hz) hG (fun a K K' ha h1 h2 => hs a K K' (List.mem_range.mp ha) ?_) hq
  split
  · exact h1 (by assumption)
  · rename_i h
    exact h2 (by simpa using h)
/-! loops over encoded items, over ranges -/
section
variable {t : TDS} {g : TDG} {d : DEnds} {E : XQ} {η : DEnv} {μ1 : Mu} {vs : List Nat}
theorem for_stD {α σ : Type} {as : List α} {en : α → PyData} {G : Mu → Prop} (ok : Nat → σ → Prop) (up : DEnv → σ → DEnv) (sto : Mu → σ → Mu) (s0 : σ)
    (e0 : up (forget η vs) s0 = forget η vs) (m0 : sto μ1 s0 = μ1) (k0 : ok 0 s0) (hG : ∀ s, G (sto μ1 s))
    (hs : ∀ (i : Nat) (a : α) (s : σ) (J : DEnv → Mu → Prop), as[i]? = some a → ok i s → (∀ s', ok (i + 1) s' → J (up (forget η vs) s') (sto μ1 s')) →
      g (.dat (en a)) (up (forget η vs) s) (sto μ1 s) fun η2 μ2 => t { nx := fun η' μ' => J (clean μ1.length (forget η' vs)) (μ'.take μ1.length), ct := fun η' μ' => J (clean μ1.length (forget η' vs)) (μ'.take μ1.length), bk := d.nx, rt := d.rt } E η2 μ2)
    (hd : ∀ s, ok as.length s → d.nx (up (forget η vs) s) (sto μ1 s)) : ForGF vs g t d E η ((as.map en).map .dat) G μ1 := by
  rw [List.map_map]
  exact for_st (h := EV.dat ∘ en) ok up sto s0 e0 m0 k0 hG hs hd
theorem for_stR {σ : Type} {lo : Int} {n : Nat} {G : Mu → Prop} (ok : Nat → σ → Prop) (up : DEnv → σ → DEnv) (sto : Mu → σ → Mu) (s0 : σ)
    (e0 : up (forget η vs) s0 = forget η vs) (m0 : sto μ1 s0 = μ1) (k0 : ok 0 s0) (hG : ∀ s, G (sto μ1 s))
    (hs : ∀ (i : Nat) (s : σ) (J : DEnv → Mu → Prop), i < n → ok i s → (∀ s', ok (i + 1) s' → J (up (forget η vs) s') (sto μ1 s')) →
      g (.dat (.int (lo + (i : Nat)))) (up (forget η vs) s) (sto μ1 s) fun η2 μ2 => t { nx := fun η' μ' => J (clean μ1.length (forget η' vs)) (μ'.take μ1.length), ct := fun η' μ' => J (clean μ1.length (forget η' vs)) (μ'.take μ1.length), bk := d.nx, rt := d.rt } E η2 μ2)
    (hd : ∀ s, ok n s → d.nx (up (forget η vs) s) (sto μ1 s)) : ForGF vs g t d E η (rngItems lo n) G μ1 := by
  refine for_st (as := List.range n) (h := fun k : Nat => EV.dat (.int (lo + (k : Nat)))) ok up sto s0 e0 m0 k0 hG (fun i a s J ha hk hJ => ?_) (fun s hk => hd s (by rw [List.length_range] at hk; exact hk))
  have h1 := get_lt ha
  rw [List.length_range] at h1
  rw [List.getElem?_range h1] at ha
  cases ha
  exact hs i s J h1 hk hJ
end
section
variable {tc : TDT} {t v u : TDS} {d : DEnds} {E : XQ} {η : DEnv} {μ : Mu} {vs : List Nat}
/-- a statement whose ways meet again in J -/
theorem q_wipeR (J : DEnv → Mu → Prop) (hj : ∀ η' μ', J η' μ' → v d E η' μ') (h : (∀ η' μ', J η' μ' → v d E η' μ') → t { d with nx := fun η' μ' => v d E (forget η' vs) μ' } E η μ) : sSeq (sWipe vs t) v d E η μ := h hj
end
end DL
set_option Elab.async false
set_option linter.all false
set_option maxRecDepth 100000
set_option maxHeartbeats 4000000
namespace DL
open PySem PySem.Spec PyProof.Rows L2
/-! ### dicts -/
section
variable {K : PySem.W.Frag} {s s0 : Wd} {N0 : Nat} {μ : Mu}
theorem cellF {s : Wd} {a b : Addr} {vs : List V} {c : Cell} (h : CellAt K s b c) (hq : s.H a = some (.tup vs)) (hn : s.F a = none) (sub : Same s.F s.H) : CellAt K { s with F := upd s.F a (.tup vs) } b c := by
  have e : Same s.F (upd s.F a (.tup vs)) := fun x o' q => by rw [upd_ne (ne_of_none q hn)]; exact q
  have ne : ∀ {o}, s.H b = some o → (∀ ws, o ≠ .tup ws) → b ≠ a := fun hb ho z => by rw [z, hq] at hb; cases hb; exact ho _ rfl
  cases c with
  | lst xs => obtain ⟨h1, ws, h2, h3⟩ := h; exact ⟨(upd_ne (ne h2 fun _ z => nomatch z)).trans h1, ws, h2, h3.mono e⟩
  | frz xs => obtain ⟨ws, h2, h3⟩ := h; exact ⟨ws, e _ _ h2, h3.mono e⟩
  | dct kvs => obtain ⟨h1, ks, h2, h3, h4⟩ := h; exact ⟨(upd_ne (ne h2 fun _ z => nomatch z)).trans h1, ks, h2, h3, h4.mono e⟩
  | dck kvs => obtain ⟨h1, ks, h2, h3, h4⟩ := h; exact ⟨(upd_ne (ne h2 fun _ z => nomatch z)).trans h1, ks, h2, h3, h4.mono e⟩
  | abs P => obtain ⟨xs, hP, h1, ws, h2, h3⟩ := h; exact ⟨xs, hP, (upd_ne (ne h2 fun _ z => nomatch z)).trans h1, ws, h2, h3.mono e⟩
  | tab P nm => exact ⟨h.1, h.2.to e ((upd_ne (by obtain ⟨_, ps, h2, _⟩ := h.2; exact ne h2 fun _ z => nomatch z)).trans h.2.nf) fun _ z => z⟩
  | own t => exact h
  | dead => exact h
/-- a tuple that stands becomes still -/
theorem tup_still {q : Addr} {vs : List V} {ds : List PyData} (R : Rep K s μ) (hq : s.H q = some (.tup vs)) (hd : DRs K s.F vs ds) :
    ∃ F', Same s.F F' ∧ Rep K { s with F := F' } μ ∧ Ext s μ.length { s with F := F' } μ.length ∧ DR K F' (.ref q) (.tuple ds) := by
  cases hF : s.F q with
  | some o =>
    have := R.sub q o hF
    rw [hq] at this
    cases this
    exact ⟨s.F, fun _ _ z => z, R, Ext.refl _ _, .tup hF hd⟩
  | none =>
    have e : Same s.F (upd s.F q (.tup vs)) := fun x o' z => by rw [upd_ne (ne_of_none z hF)]; exact z
    refine ⟨upd s.F q (.tup vs), e, R.of rfl (fun a u z => ?_) (fun n c z => cellF (R.cell n c z) hq hF R.sub) (fun _ h => h) (R.beside e fun n a _ _ => keeps_F (.inr ⟨vs, hq⟩)), ⟨e, fun _ _ => rfl, Nat.le_refl _, fun _ _ z _ => z, fun a h1 _ _ h4 => ?_, fun n h1 h2 => absurd h1 (Nat.not_le_of_lt h2), fun n a h1 h2 => .inr ⟨h1, h2⟩, fun _ h => h⟩, .tup upd_same (hd.mono e)⟩
    · have z' : upd s.F q (.tup vs) a = some u := z
      by_cases ha : a = q
      · subst ha
        rw [upd_same] at z'
        cases z'
        exact hq
      · rw [upd_ne ha] at z'
        exact R.sub a u z'
    · show upd s.F q (.tup vs) a = none
      rw [upd_ne fun z => h4 vs (by rw [z]; exact hq)]
      exact h1
theorem drs_keys {F : Hp} : ∀ {k : List Key}, (∀ x ∈ k, keyOk x) → DRs K F (k.map kV) (k.map keyD)
  | [], _ => .nil
  | .inl i :: r, h => .cons (.int i) (drs_keys fun x hx => h x (by simp [hx]))
  | .inr z :: r, h => .cons (.str z (h (.inr z) (by simp))) (drs_keys fun x hx => h x (by simp [hx]))
/-- the key that data tells -/
def keyOf : PyData → Option Key
  | .int i => some (.inl i)
  | .str x => some (.inr x)
  | _ => none
def keysOf : List PyData → Option (List Key)
  | [] => some []
  | d :: ds => match keyOf d, keysOf ds with
    | some k, some ks => some (k :: ks)
    | _, _ => none
theorem keyOf_ok {F : Hp} {v : V} {d : PyData} {k : Key} (r : DR K F v d) (h : keyOf d = some k) : v = kV k ∧ d = keyD k ∧ keyOk k := by
  cases r with
  | int i => cases h; exact ⟨rfl, rfl, trivial⟩
  | str x hx => cases h; exact ⟨rfl, rfl, hx⟩
  | _ => cases h
theorem keysOf_ok {F : Hp} : ∀ {vs : List V} {ds : List PyData} {k : List Key}, DRs K F vs ds → keysOf ds = some k → vs = k.map kV ∧ ds = k.map keyD ∧ ∀ x ∈ k, keyOk x
  | _, _, _, .nil, h => by cases h; exact ⟨rfl, rfl, fun x hx => by simp at hx⟩
  | _, _, _, .cons (d := d) (ds := ds) r rs, h => by
    unfold keysOf at h
    cases h1 : keyOf d with
    | none => rw [h1] at h; cases h
    | some k0 =>
      cases h2 : keysOf ds with
      | none => rw [h1, h2] at h; cases h
      | some ks =>
        rw [h1, h2] at h
        cases h
        obtain ⟨rfl, rfl, a3⟩ := keyOf_ok r h1
        obtain ⟨rfl, rfl, b3⟩ := keysOf_ok rs h2
        refine ⟨rfl, rfl, fun x hx => ?_⟩
        rcases List.mem_cons.mp hx with rfl | hx
        · exact a3
        · exact b3 x hx
/-! a dict's entries, changed -/
def putD {κ : Type} [DecidableEq κ] (kvs : List (κ × PyData)) (k : κ) (d : PyData) : List (κ × PyData) :=
  if (kvs.any fun kv => decide (kv.1 = k)) = true then kvs.map (fun kv => if kv.1 = k then (kv.1, d) else kv) else kvs ++ [(k, d)]
def getD {κ : Type} [DecidableEq κ] (kvs : List (κ × PyData)) (k : κ) : Option PyData := (kvs.find? fun kv => decide (kv.1 = k)).map (·.2)
theorem any_keys {κ α β : Type} [DecidableEq κ] {ks : List (κ × α)} {kvs : List (κ × β)} (h : ks.map (·.1) = kvs.map (·.1)) (k : κ) : (ks.any fun kv => decide (kv.1 = k)) = kvs.any fun kv => decide (kv.1 = k) := by
  have e1 : (ks.any fun kv => decide (kv.1 = k)) = (ks.map (·.1)).any fun x => decide (x = k) := by rw [List.any_map]; rfl
  have e2 : (kvs.any fun kv => decide (kv.1 = k)) = (kvs.map (·.1)).any fun x => decide (x = k) := by rw [List.any_map]; rfl
  rw [e1, e2, h]
end
/-! {}, d[k] = v -/
/-! k in d; in a list or tuple -/
def rInD (neg : Bool) : R2 := fun x y H Q => ∃ a o, y = .ref a ∧ DGet H a x o ∧ Q (.bl (if neg then !o.isSome else o.isSome)) H
theorem opD_inD {X : Cx} (hu : X.A.units + 1 < cLine) : OpR X (compareOp .In) (rInD false) := by
  intro pins s σ H x y v u Q I rx ry h
  obtain ⟨a, o, rfl, g, q⟩ := h
  obtain rfl : u = Value.ref a := ry
  exact d_in hu I g rx fun s3 I3 => ⟨.bl o.isSome, H, I3, rfl, q⟩
theorem opD_notInD {X : Cx} (hu : X.A.units + 1 < cLine) : OpR X (compareOp .NotIn) (rInD true) := by
  intro pins s σ H x y v u Q I rx ry h
  obtain ⟨a, o, rfl, g, q⟩ := h
  obtain rfl : u = Value.ref a := ry
  exact d_notIn hu I g rx fun s3 I3 => ⟨.bl (!o.isSome), H, I3, rfl, q⟩
abbrev rMemA (K : PySem.W.Frag) (neg : Bool) : R2 := fun x y H Q => rMem K neg x y H Q ∨ rInD neg x y H Q
theorem opA_in {X : Cx} (hu : X.A.units + 64 < cLine) : OpR X (compareOp .In) (rMemA X.K false) := (opD_in hu).or (opD_inD (by omega))
theorem opA_notIn {X : Cx} (hu : X.A.units + 64 < cLine) : OpR X (compareOp .NotIn) (rMemA X.K true) := (opD_notIn hu).or (opD_notInD (by omega))
def hasKs (d : List (PyData × PyData)) (key : PyData) : Bool := d.any fun p => PyData.eqv p.1 key
def oMemA (neg : Bool) : OD := fun x y μ q => match x, y with
  | .dat (.tuple ds), .dat (.dict d) => (keysOf ds).isSome = true ∧ (d.all fun p => isTupD p.1) = true ∧ q (.dat (.bool (if neg then !hasKs d (.tuple ds) else hasKs d (.tuple ds)))) μ
  | .dat (.tuple ds), .loc n => match μ[n]? with
    | some (.dct kvs) => (keysOf ds).isSome = true ∧ q (.dat (.bool (if neg then !hasKs (kvT kvs) (.tuple ds) else hasKs (kvT kvs) (.tuple ds)))) μ
    | _ => oMem neg x y μ q
  | _, _ => oMem neg x y μ q
theorem enc_key : Enc keyD 0 := ⟨fun a => by cases a <;> simp [keyD, noD], fun a b => by
  cases a with
  | inl i => cases b with
    | inl j => simp [keyD, eqv_int]
    | inr z => simp [keyD, PyData.eqv]
  | inr y => cases b with
    | inl j => simp [keyD, PyData.eqv]
    | inr z => simp [keyD, eqv_str], fun a => by cases a <;> simp [keyD, PyData.depth]⟩
theorem hasKs_T (kvs : List (List Key × PyData)) (k : List Key) : hasKs (kvT kvs) (.tuple (k.map keyD)) = kvs.any fun kv => decide (kv.1 = k) := by
  unfold hasKs kvT
  rw [List.any_map]
  congr 1
  funext p
  simp only [Function.comp]
  rw [eqv_tup, Bool.eq_iff_iff, enc_key.all, decide_eq_true_eq]
theorem os_memA {K : PySem.W.Frag} {neg : Bool} : OpS K (rMemA K neg) (oMemA neg) := by
  intro s0 N0 s μ x y ex ey q Q R xt rx fx ry fy h l
  have low : oMem neg ex ey μ q → rMemA K neg x y s.H Q := fun h => .inl (os_mem s0 N0 s μ x y ex ey q Q R xt rx fx ry fy h l)
  have key : ∀ {ds : List PyData} {a : Addr} {ks : List (List Key × V)} {kvs : List (List Key × PyData)}, DR K s.F x (.tuple ds) → (keysOf ds).isSome = true → Rd s.H a (.dT ks) → ks.map (·.1) = kvs.map (·.1) → y = .ref a → q (.dat (.bool (if neg then !hasKs (kvT kvs) (.tuple ds) else hasKs (kvT kvs) (.tuple ds)))) μ → rMemA K neg x y s.H Q := by
    intro ds a ks kvs rx' hk rd hks ey' hq
    cases rx' with
    | @tup b vs _ hb hs =>
      obtain ⟨k, hk⟩ := Option.isSome_iff_exists.mp hk
      obtain ⟨rfl, rfl, hok⟩ := keysOf_ok hs hk
      refine .inr ⟨a, valV ks k, ey', .inr ⟨ks, k, b, rd, rfl, R.sub _ _ hb, rfl⟩, ?_⟩
      rw [hasKs_T] at hq
      rw [← valV_any k ks, any_keys hks k]
      exact ans R xt l hq (.bl _)
  unfold oMemA at h
  split at h
  · rename_i ds d
    obtain ⟨h1, h2, h3⟩ := h
    have ry' : DR K s.F y (.dict d) := ry
    cases ry' with
    | dcT hF hk hs e =>
      subst e
      exact key rx h1 (.inr ⟨_, R.sub _ _ hF⟩) hk.1 rfl h3
    | @dcK a od ks kvs _ hF hk hs e ne =>
      subst e
      cases kvs with
      | nil => exact absurd rfl ne
      | cons p r =>
        obtain ⟨k0, v0⟩ := p
        exfalso
        have : isTupD (keyD k0) = true := by
          simp only [kvK, List.map_cons, List.all_cons, Bool.and_eq_true] at h2
          exact h2.1
        cases k0 <;> simp [keyD, isTupD] at this
  · rename_i ds n
    split at h
    · rename_i kvs hn
      obtain ⟨hlt, rfl⟩ := ry
      obtain ⟨hf, ks, hH, hk, hs⟩ := R.cell n _ hn
      exact key rx h.1 (.inl hH) hk.1 rfl h.2
    · exact low h
  · exact low h
end DL
set_option Elab.async false
set_option linter.all false
set_option maxRecDepth 100000
set_option maxHeartbeats 4000000
namespace DL
open PySem PySem.Spec PyProof.Rows L2
/-! ### what is walked: dicts too, zip -/
def iAnyD (K : PySem.W.Frag) (tl : TE) : TI := fun σ H R => tl σ H fun x H1 => ((∃ a xs, x = .ref a ∧ SqL K H1 a xs ∧ R (Itl K a) H1) ∨ (∃ a xs, x = .ref a ∧ SqT K H1 a xs ∧ R (Itt K a) H1) ∨ ∃ z, x = .str z ∧ R (Its z) H1) ∨
  ∃ d o, x = .ref d ∧ ((∃ kvs, H1 d = some (.frz o (.dK kvs)) ∧ R (Itk d o kvs) H1) ∨ ∃ kvs, H1 d = some (.frz o (.dT kvs)) ∧ R (Itkt d o kvs) H1)
theorem pi_anyD {X : Cx} {tg le : Expr} {tl : TE} (hp : PE X le tl) : PI X tg le (iAnyD X.K tl) := by
  refine ⟨fun pins s σ H R I h => ?_⟩
  refine thn (hp.run pins s σ H _ I h) fun v s1 hv => ?_
  obtain ⟨x, H1, I1, r1, (⟨a, xs, rfl, hq, q⟩ | ⟨a, xs, rfl, hq, q⟩ | ⟨z, rfl, q⟩) | ⟨d, o, rfl, ⟨kvs, hd, q⟩ | ⟨kvs, hd, q⟩⟩⟩ := hv
  · obtain rfl : v = Value.ref a := r1
    obtain ⟨its, rv, p, hz⟩ := I1.list hq
    exact wpAny_pyIter_list p.isList (pi_one (J := Itl X.K a) (tk := s1.toks) I1 _ (turn_list a _) ⟨_, Heap.get?_push_size _ rfl, rfl, rfl⟩ q)
  · obtain rfl : v = Value.ref a := r1
    obtain ⟨its, rv, p, hz⟩ := I1.tuple hq
    exact wpAny_pyIter_tuple (show s1.heap.IsTuple a its.toArray from p) (pi_one (J := Itt X.K a) (tk := s1.toks) I1 _ (turn_tuple a _) ⟨_, Heap.get?_push_size _ rfl, rfl, rfl⟩ q)
  · obtain ⟨t, rfl⟩ := r1
    cases hall : z.cps.all (· < 128) with
    | false => exact wpAny_pyIter_wide hall (pi_one (J := Its z) (tk := s1.toks) I1 _ (turn_str _ z t "str_iterator" (.inr rfl)) ⟨_, Heap.get?_push_size _ rfl, rfl, rfl⟩ q)
    | true => exact wpAny_pyIter_ascii hall (pi_one (J := Its z) (tk := s1.toks) I1 _ (turn_str _ z t "str_ascii_iterator" (.inl rfl)) ⟨_, Heap.get?_push_size _ rfl, rfl, rfl⟩ q)
  · obtain rfl : v = Value.ref d := r1
    obtain ⟨hs, hgd, hx, es, ep, vs, hdt, hsz, kv, hm⟩ := I1.frzK hd
    refine iter_keys hs hgd hx hdt (pi_one (tk := s1.toks) I1 _ (turn_keys _ hdt) ⟨_, Heap.get?_push_size _ rfl, rfl, ?_⟩ q)
    rw [hsz] <;> rfl
  · obtain rfl : v = Value.ref d := r1
    obtain ⟨hs, hgd, hx, es, ep, hdt, hsz, ent⟩ := I1.frzT hd
    refine iter_keys hs hgd hx hdt (pi_one (tk := s1.toks) I1 _ (turn_keysT _ hdt) ⟨_, Heap.get?_push_size _ rfl, rfl, ?_⟩ q)
    rw [hsz] <;> rfl
section
variable {K : PySem.W.Frag} {s0 : Wd} {N0 : Nat} {G : Mu → Prop} {d : Addr} {od : Obj}
theorem walkDT {ks : List (List Key × V)} {kvs : List (List Key × PyData)} (hF : s0.F d = some (.frz od (.dT ks))) (hk : sameT ks kvs) : WalkS K (Itkt d od ks) s0 N0 ((kvT kvs).map fun p => .dat p.1) G := by
  intro n s μ x R _
  have hH := R.sub _ _ (x.f _ _ hF)
  have hl : ks.length = kvs.length := by have := congrArg List.length hk.1; simpa using this
  have hl2 : ((kvT kvs).map fun p => EV.dat p.1).length = ks.length := by simp [kvT, hl]
  refine ⟨fun hn => ⟨hH, by rw [hl2] at hn; exact hn⟩, ⟨hH, by rw [hl2]; exact Nat.le_refl _⟩, fun v H' hn hy => ?_⟩
  obtain ⟨rfl, k, v', q, hkv, rfl, hq⟩ := hy
  have h1 : (ks.map (·.1))[n]? = some k := by rw [List.getElem?_map, hkv]; rfl
  rw [hk.1, List.getElem?_map] at h1
  cases hg : kvs[n]? with
  | none => rw [hg] at h1; cases h1
  | some p =>
    rw [hg] at h1
    cases h1
    obtain ⟨F', f1, R', x', r'⟩ := tup_still R hq (drs_keys (hk.2 p (List.mem_of_getElem? hg)))
    exact ⟨{ s with F := F' }, .dat (.tuple (p.1.map keyD)), rfl, by simp [kvT, hg], rfl, x', R', r'⟩
theorem walkDK {ks : List (Key × V)} {kvs : List (Key × PyData)} (hF : s0.F d = some (.frz od (.dK ks))) (hk : sameK ks kvs) : WalkS K (Itk d od ks) s0 N0 ((kvK kvs).map fun p => .dat p.1) G := by
  intro n s μ x R _
  have hH := R.sub _ _ (x.f _ _ hF)
  have hl : ks.length = kvs.length := by have := congrArg List.length hk.1; simpa using this
  have hl2 : ((kvK kvs).map fun p => EV.dat p.1).length = ks.length := by simp [kvK, hl]
  refine ⟨fun hn => ⟨hH, by rw [hl2] at hn; exact hn⟩, ⟨hH, by rw [hl2]; exact Nat.le_refl _⟩, fun v H' hn hy => ?_⟩
  obtain ⟨rfl, k, v', hkv, rfl⟩ := hy
  have h1 : (ks.map (·.1))[n]? = some k := by rw [List.getElem?_map, hkv]; rfl
  rw [hk.1, List.getElem?_map] at h1
  cases hg : kvs[n]? with
  | none => rw [hg] at h1; cases h1
  | some p =>
    rw [hg] at h1
    cases h1
    refine ⟨s, .dat (keyD p.1), rfl, by simp [kvK, hg], rfl, Ext.refl _ _, R, ?_⟩
    have := hk.2 p (List.mem_of_getElem? hg)
    obtain ⟨k0, v0⟩ := p
    cases k0 with
    | inl i => exact (show DR K s.F (.int i) (.int i) from .int i)
    | inr z => exact (show DR K s.F (.str z) (.str z) from .str z this)
end
def seqDK (r : RI) (e : EV) (μ1 : Mu) : Prop := match e with
  | .dat (.dict d) => r (d.map fun p => .dat p.1) (fun _ => True) μ1
  | e => seqK r e μ1
def iSeqD (t : TDE) : TDI := fun η μ r E => t η μ (fun e μ1 => seqDK r e μ1) E
theorem x_iSeqD {t : TDE} {η : DEnv} {μ : Mu} {r : RI} {E : XQ} : iSeqD t η μ r E = t η μ (fun e μ1 => seqDK r e μ1) E := Eq.trans rfl rfl
theorem seqDK_t {r : RI} {d : List PyData} {μ : Mu} : seqDK r (.dat (.tuple d)) μ = r (d.map .dat) (fun _ => True) μ := Eq.trans rfl rfl
theorem seqDK_s {r : RI} {z : Str} {μ : Mu} : seqDK r (.dat (.str z)) μ = seqK r (.dat (.str z)) μ := Eq.trans rfl rfl
theorem seqDK_n {r : RI} {d : List PyData} {μ : Mu} : seqDK r (.new d) μ = r (d.map .dat) (fun _ => True) μ := Eq.trans rfl rfl
theorem seqDK_c {r : RI} {n : Nat} {μ : Mu} : seqDK r (.loc n) μ = seqC r n μ μ[n]? := c_seqK
theorem di_seqD {X : Cx} {W : WX} {tg e : Expr} {te : TDE} (h : DE X W e te) : DI X W tg e (iSeqD te) := by
  obtain ⟨t, p, g⟩ := h.ex
  refine ⟨_, pi_anyD p, fun s σ η μ R r E S hq l lx => g s σ η μ _ _ E S hq (fun ev μ1 v s1 hk x1 R1 rv fv => ?_) lx⟩
  cases ev with
  | dat d =>
    have rd : DR X.K s1.F v d := rv
    cases rd with
    | lst h1 h2 => exact .inl (.inl ⟨_, _, rfl, SqL.of (R1.sub _ _ h1), l _ _ _ μ1 s1 hk x1 R1 (walkL fun s2 μ2 x R2 _ => ⟨_, SqL.of (R2.sub _ _ (x.f _ _ h1)), h2.mono x.f⟩)⟩)
    | tup h1 h2 => exact .inl (.inr (.inl ⟨_, _, rfl, SqT.of (R1.sub _ _ h1), l _ _ _ μ1 s1 hk x1 R1 (walkT fun s2 μ2 x R2 _ => ⟨SqT.of (R2.sub _ _ (x.f _ _ h1)), h2.mono x.f⟩)⟩))
    | str z hz => exact .inl (.inr (.inr ⟨z, rfl, l _ _ _ μ1 s1 hk x1 R1 (walkZ (F := s1.F) (.str z hz))⟩))
    | dcT h1 h2 h3 h4 =>
      subst h4
      exact .inr ⟨_, _, rfl, .inr ⟨_, R1.sub _ _ h1, l _ _ _ μ1 s1 hk x1 R1 (walkDT h1 h2)⟩⟩
    | dcK h1 h2 h3 h4 _ =>
      subst h4
      exact .inr ⟨_, _, rfl, .inl ⟨_, R1.sub _ _ h1, l _ _ _ μ1 s1 hk x1 R1 (walkDK h1 h2)⟩⟩
    | _ => exact hk.elim
  | new xs =>
    obtain ⟨p, vs, rfl, a1, a2, a3, a4⟩ := rv
    exact .inl (.inl ⟨p, vs, rfl, SqL.of a1, l _ _ (fun _ => True) μ1 s1 hk x1 R1 (walkL fun s2 μ2 x R2 _ => ⟨_, SqL.of (x.keep _ _ a1 a3), a4.mono x.f⟩)⟩)
  | loc n =>
    obtain ⟨hn, rfl⟩ := rv
    have hk' : seqC r n μ1 μ1[n]? := by
      have : seqDK r (.loc n) μ1 := hk
      rwa [seqDK_c] at this
    unfold seqC at hk'
    split at hk'
    · rename_i xs hc
      obtain ⟨_, vs, a1, a2⟩ := R1.cell n _ hc
      refine .inl (.inl ⟨_, vs, rfl, SqL.of a1, l _ _ _ μ1 s1 hk' x1 R1 (walkL fun s2 μ2 x R2 g => ?_)⟩)
      rw [← x.l n hn]
      rcases g with g | g
      · obtain ⟨_, ws, b1, b2⟩ := R2.cell n _ g
        exact ⟨ws, SqL.of b1, b2⟩
      · obtain ⟨ws, b1, b2⟩ := R2.cell n _ g
        exact ⟨ws, SqL.of (R2.sub _ _ b1), b2⟩
    · rename_i xs hc
      obtain ⟨vs, a1, a2⟩ := R1.cell n _ hc
      exact .inl (.inl ⟨_, vs, rfl, SqL.of (R1.sub _ _ a1), l _ _ _ μ1 s1 hk' x1 R1 (walkL fun s2 μ2 x R2 _ => ⟨_, SqL.of (R2.sub _ _ (x.f _ _ a1)), a2.mono x.f⟩)⟩)
    · exact hk'.elim
  | raw u => exact hk.elim
  | exc x => exact hk.elim
  | newd x => exact hk.elim
  | newk x => exact hk.elim
  | «at» _ _ _ => exact hk.elim
  | newo _ => exact hk.elim
  | per _ => exact hk.elim
  | ro xs =>
    obtain ⟨a, vs, rfl, h1, h2⟩ := rv
    exact .inl (.inl ⟨a, vs, rfl, R1.sub.seq h1, l _ _ _ μ1 s1 hk x1 R1 (walkL fun s2 μ2 x R2 _ => ⟨_, R2.sub.seq (x.f.seq h1), h2.mono x.f⟩)⟩)
/-! zip of two -/
end DL
set_option Elab.async false
set_option linter.all false
set_option maxRecDepth 100000
set_option maxHeartbeats 4000000
namespace DL
open PySem PySem.Spec PyProof.Rows L2
/-! ### shifts of nought -/
theorem isIntD_none : isIntD .none = false := Eq.trans rfl rfl
theorem isIntD_bool {b : Bool} : isIntD (.bool b) = true := Eq.trans rfl rfl
theorem isIntD_int {i : Int} : isIntD (.int i) = true := Eq.trans rfl rfl
theorem isIntD_str {z : Str} : isIntD (.str z) = false := Eq.trans rfl rfl
theorem isIntD_list {xs : List PyData} : isIntD (.list xs) = false := Eq.trans rfl rfl
theorem isIntD_tuple {xs : List PyData} : isIntD (.tuple xs) = false := Eq.trans rfl rfl
theorem isIntD_dict {kv : List (PyData × PyData)} : isIntD (.dict kv) = false := Eq.trans rfl rfl
theorem isBoolD_none : isBoolD .none = false := Eq.trans rfl rfl
theorem isBoolD_bool {b : Bool} : isBoolD (.bool b) = true := Eq.trans rfl rfl
theorem isBoolD_int {i : Int} : isBoolD (.int i) = false := Eq.trans rfl rfl
theorem isBoolD_str {z : Str} : isBoolD (.str z) = false := Eq.trans rfl rfl
theorem isBoolD_list {xs : List PyData} : isBoolD (.list xs) = false := Eq.trans rfl rfl
theorem isBoolD_tuple {xs : List PyData} : isBoolD (.tuple xs) = false := Eq.trans rfl rfl
theorem isBoolD_dict {kv : List (PyData × PyData)} : isBoolD (.dict kv) = false := Eq.trans rfl rfl
theorem isStrD_none : isStrD .none = false := Eq.trans rfl rfl
theorem isStrD_bool {b : Bool} : isStrD (.bool b) = false := Eq.trans rfl rfl
theorem isStrD_int {i : Int} : isStrD (.int i) = false := Eq.trans rfl rfl
theorem isStrD_str {z : Str} : isStrD (.str z) = true := Eq.trans rfl rfl
theorem isStrD_list {xs : List PyData} : isStrD (.list xs) = false := Eq.trans rfl rfl
theorem isStrD_tuple {xs : List PyData} : isStrD (.tuple xs) = false := Eq.trans rfl rfl
theorem isStrD_dict {kv : List (PyData × PyData)} : isStrD (.dict kv) = false := Eq.trans rfl rfl
theorem isTupD_none : isTupD .none = false := Eq.trans rfl rfl
theorem isTupD_bool {b : Bool} : isTupD (.bool b) = false := Eq.trans rfl rfl
theorem isTupD_int {i : Int} : isTupD (.int i) = false := Eq.trans rfl rfl
theorem isTupD_str {z : Str} : isTupD (.str z) = false := Eq.trans rfl rfl
theorem isTupD_list {xs : List PyData} : isTupD (.list xs) = false := Eq.trans rfl rfl
theorem isTupD_tuple {xs : List PyData} : isTupD (.tuple xs) = true := Eq.trans rfl rfl
theorem isTupD_dict {kv : List (PyData × PyData)} : isTupD (.dict kv) = false := Eq.trans rfl rfl
/-! ### equations of dicts -/
def keysP (ds : List PyData) : Prop := (keysOf ds).isSome = true
section
variable {μ : Mu} {n : Nat} {q : PQ} {ds xs : List PyData} {d : PyData} {neg : Bool}
theorem memA_n : oMemA neg (.dat d) (.new xs) μ q = oMem neg (.dat d) (.new xs) μ q := by cases d <;> rfl
def memC (neg : Bool) (x : PyData) (n : Nat) (μ : Mu) (q : PQ) (c : Option Cell) : Prop := match c with
  | some (.dct kvs) => match x with
    | .tuple ds => keysP ds ∧ q (.dat (.bool (if neg then !hasKs (kvT kvs) (.tuple ds) else hasKs (kvT kvs) (.tuple ds)))) μ
    | _ => False
  | _ => oMem neg (.dat x) (.loc n) μ q
theorem c_memA : oMemA neg (.dat d) (.loc n) μ q = memC neg d n μ q μ[n]? := by
  have no : ∀ {kvs}, μ[n]? = some (.dct kvs) → oMem neg (.dat d) (.loc n) μ q = False := fun h => by simp [oMem, datOf, lstOf, h]
  unfold memC
  cases h : μ[n]? with
  | none => cases d <;> simp [oMemA, h]
  | some c =>
    cases c with
    | dct kvs => cases d <;> simp [oMemA, h, keysP, no h]
    | _ => cases d <;> simp [oMemA, h]
theorem memC_l {xs : List PyData} : memC neg d n μ q (some (.lst xs)) = oMem neg (.dat d) (.loc n) μ q := Eq.trans rfl rfl
end
/-! ### cells of a floor: a dict of places -/
end DL
set_option Elab.async false
set_option linter.all false
set_option maxRecDepth 100000
set_option maxHeartbeats 4000000
namespace DL
open PySem PySem.Spec PyProof.Rows L2
/-! ### list(d), d a dict with tuple keys -/
section
variable {K : PySem.W.Frag} {s0 s : Wd} {N0 : Nat} {μ : Mu}
theorem tups_still {ks : List (List Key × V)} {bs : List Addr} (h : Paired (fun p b => s.H b = some (.tup (p.1.map kV))) ks bs) : ∀ {F1 : Hp}, Rep K { s with F := F1 } μ → (∀ p ∈ ks, ∀ x ∈ p.1, keyOk x) →
    ∃ F', Same F1 F' ∧ Rep K { s with F := F' } μ ∧ Ext { s with F := F1 } μ.length { s with F := F' } μ.length ∧ DRs K F' (bs.map V.ref) (ks.map fun p => .tuple (p.1.map keyD)) := by
  induction h with
  | nil => exact fun R _ => ⟨_, fun _ _ z => z, R, Ext.refl _ _, .nil⟩
  | @cons p b ps qs hq t ih =>
    intro F1 R ok
    obtain ⟨F2, f2, R2, x2, r2⟩ := tup_still (s := { s with F := F1 }) R hq (drs_keys (ok p (by simp)))
    obtain ⟨F3, f3, R3, x3, r3⟩ := ih R2 fun p hp => ok p (by simp [hp])
    exact ⟨F3, fun a o z => f3 a o (f2 a o z), R3, x2.trans x3 fun n hn => R2.here hn, .cons (r2.mono f3) r3⟩
end
def oListA : CD := fun es μ q => match es with
  | [.dat (.dict d)] => (d.all fun p => isTupD p.1) = true ∧ q (.new (d.map (·.1))) μ
  | es => oList es μ q
def rListA (K : PySem.W.Frag) : List V → Hp → VK → Prop := fun xs H Q => (∃ p ys, xs = [.ref p] ∧ (SqL K H p ys ∨ SqT K H p ys) ∧ ∀ l, H l = none → Q (.ref l) (upd H l (.lst ys))) ∨
  (∃ d kvs, xs = [V.ref d] ∧ Rd H d (.dT kvs) ∧ ∀ p bs, H p = none → IsKeys H kvs bs → Q (.ref p) (upd H p (.lst (bs.map V.ref))))
theorem call_listA {X : Cx} (hc : X.calm = true) : CallR X (.type "list") (rListA X.K) := call_list_of.or (call_list_dT hc)
theorem cs_listA {K : PySem.W.Frag} : CallS K (rListA K) oListA := by
  intro s0 N0 s μ xs es q Q R xt r h l
  unfold oListA at h
  split at h
  · rename_i d
    obtain ⟨h1, h2⟩ := h
    cases r with
    | cons rx fx rr =>
      cases rr
      have rd : DR K s.F _ (.dict d) := rx
      cases rd with
      | dcT hF hk hs e =>
        subst e
        refine .inr ⟨_, _, rfl, .inr ⟨_, R.sub _ _ hF⟩, fun p bs hp hb => ?_⟩
        rename_i ks kvs
        have hkk : ∀ p ∈ ks, ∀ x ∈ p.1, keyOk x := fun p hp => by
          have : p.1 ∈ kvs.map (·.1) := by rw [← hk.1]; exact List.mem_map_of_mem hp
          obtain ⟨p', hp', e⟩ := List.mem_map.mp this
          rw [← e]
          exact hk.2 p' hp'
        obtain ⟨F', f', R', x', r'⟩ := tups_still (s := s) (F1 := s.F) hb R hkk
        have e : (kvT kvs).map (·.1) = ks.map fun p => .tuple (p.1.map keyD) := by
          have e1 : ((kvT kvs).map (·.1)) = (kvs.map (·.1)).map fun k => PyData.tuple (k.map keyD) := by simp [kvT]
          rw [e1, ← hk.1, List.map_map]
          rfl
        rw [e] at h2
        exact ans_new (s := { s with F := F' }) R' (xt.trans x' fun n hn => R.here hn) l h2 r' hp
      | @dcK a od ks kvs _ hF hk hs e ne =>
        subst e
        cases kvs with
        | nil => exact absurd rfl ne
        | cons p r =>
          obtain ⟨k0, v0⟩ := p
          exfalso
          have : isTupD (keyD k0) = true := by
            simp only [kvK, List.map_cons, List.all_cons, Bool.and_eq_true] at h1
            exact h1.1
          cases k0 <;> simp [keyD, isTupD] at this
  · exact .inl (cs_list s0 N0 s μ xs _ q Q R xt r h l)
end DL
set_option Elab.async false
set_option linter.all false
set_option maxRecDepth 100000
set_option maxHeartbeats 4000000
namespace DL
open PySem PySem.Spec PyProof.Rows L2
/-! ### dict(d), d a dict with tuple keys -/
end DL
set_option Elab.async false
set_option linter.all false
set_option maxRecDepth 100000
set_option maxHeartbeats 4000000
namespace DL
open PySem PySem.Spec PyProof.Rows L2
/-! ### dict(pairs), the keys tuples -/
end DL
set_option Elab.async false
set_option linter.all false
set_option maxRecDepth 100000
set_option maxHeartbeats 4000000
namespace DL
open PySem PySem.Spec PyProof.Rows L2
/-! ### o[i] op= e -/
def sAugS (to ti te : TDE) (oi oo : OD) (os : SetD) : TDS := fun d E η μ => to η μ (fun x μ1 => ti η μ1 (fun y μ2 => noNew x = true ∧ noNew y = true ∧ oi x y μ2 fun z μ3 => noNew z = true ∧ te η μ3 (fun u μ4 => noNew u = true ∧ oo z u μ4 fun r μ5 => os x y r μ5 fun μ6 => d.nx η μ6) E) E) E
section
variable {to ti te : TDE} {oi oo : OD} {os : SetD} {v : TDS} {d : DEnds} {E : XQ} {η : DEnv} {μ : Mu}
theorem s_augS (h : to η μ (fun x μ1 => ti η μ1 (fun y μ2 => noNew x = true ∧ noNew y = true ∧ oi x y μ2 fun z μ3 => noNew z = true ∧ te η μ3 (fun u μ4 => noNew u = true ∧ oo z u μ4 fun r μ5 => os x y r μ5 fun μ6 => d.nx η μ6) E) E) E) : sAugS to ti te oi oo os d E η μ := h
theorem q_augS (h : to η μ (fun x μ1 => ti η μ1 (fun y μ2 => noNew x = true ∧ noNew y = true ∧ oi x y μ2 fun z μ3 => noNew z = true ∧ te η μ3 (fun u μ4 => noNew u = true ∧ oo z u μ4 fun r μ5 => os x y r μ5 fun μ6 => v d E η μ6) E) E) E) : sSeq (sAugS to ti te oi oo os) v d E η μ := h
end
end DL
set_option Elab.async false
set_option linter.all false
set_option maxRecDepth 100000
set_option maxHeartbeats 4000000
namespace DL
open PySem PySem.Spec PyProof.Rows L2
/-! ### while, its body laying cells that stay -/
/-! ### xs.pop() -/
/-! ### d.pop(k) -/
def dropD {κ : Type} [DecidableEq κ] (kvs : List (κ × PyData)) (k : κ) : List (κ × PyData) := kvs.filter fun kv => decide (kv.1 ≠ k)
/-! ### len(d) -/
def rLenD (K : PySem.W.Frag) : List V → Hp → VK → Prop := fun xs H Q => (∃ x n, xs = [x] ∧ LenV K x H n ∧ Q (.int n) H) ∨ ∃ (p : Addr) (n : Nat), xs = [.ref p] ∧ ((∃ kvs : List (List Key × V), Rd H p (.dT kvs) ∧ n = kvs.length) ∨ ∃ kvs : List (Key × V), Rd H p (.dK kvs) ∧ n = kvs.length) ∧ Q (.int n) H
theorem call_lenD1 {X : Cx} : CallR X (.builtin "len") fun xs H Q => ∃ (p : Addr) (n : Nat), xs = [.ref p] ∧ ((∃ kvs : List (List Key × V), Rd H p (.dT kvs) ∧ n = kvs.length) ∨ ∃ kvs : List (Key × V), Rd H p (.dK kvs) ∧ n = kvs.length) ∧ Q (.int n) H := by
  intro pins s σ H xs us Q I r h
  obtain ⟨p, n, rfl, hp, q⟩ := h
  obtain ⟨u, rfl, rx⟩ := vals1 r
  obtain rfl : u = .ref p := rx
  rcases hp with ⟨kvs, hp, rfl⟩ | ⟨kvs, hp, rfl⟩
  · obtain ⟨z, hd, ys, rel, dd⟩ := dt_rd I.hok hp
    have hl : kvs.length = ys.length := Paired.length rel
    refine call_len_dictH hd dd (by rw [← hl]; rw [sizeLine_eq] at z; omega) ?_
    rw [← hl]
    exact ⟨.int ((kvs.length : Nat) : Int), H, I.tok _, ⟨_, rfl⟩, q⟩
  · exact d_len I hp fun t s' I' => ⟨.int ((kvs.length : Nat) : Int), H, I', ⟨_, rfl⟩, q⟩
theorem call_lenA {X : Cx} : CallR X (.builtin "len") (rLenD X.K) := call_len.or call_lenD1
def oLenD : CD := fun es μ q => match es with
  | [.dat (.dict d)] => q (.dat (.int d.length)) μ
  | [.loc n] => match μ[n]? with
    | some (.dct kvs) => q (.dat (.int kvs.length)) μ
    | some (.dck kvs) => q (.dat (.int kvs.length)) μ
    | _ => oLen [.loc n] μ q
  | es => oLen es μ q
theorem cs_lenD {K : PySem.W.Frag} : CallS K (rLenD K) oLenD := by
  intro s0 N0 s μ xs es q Q R xt r h l
  have low : ∀ {es}, VRs K s μ.length s0.H xs es → oLen es μ q → rLenD K xs s.H Q := fun r h => .inl (cs_len s0 N0 s μ xs _ q Q R xt r h l)
  unfold oLenD at h
  split at h
  · rename_i d
    cases r with
    | cons rx fx rr =>
      cases rr
      rename_i x
      have rd : DR K s.F x (.dict d) := rx
      cases rd with
      | dcT hF hk hs e =>
        subst e
        refine .inr ⟨_, _, rfl, .inl ⟨_, .inr ⟨_, R.sub _ _ hF⟩, rfl⟩, ?_⟩
        have e2 := congrArg List.length hk.1
        simp only [List.length_map] at e2
        rw [e2]
        have e3 : ∀ kvs : List (List Key × PyData), (kvT kvs).length = kvs.length := fun kvs => by simp [kvT]
        rw [e3] at h
        exact ans R xt l h (.int _)
      | dcK hF hk hs e ne =>
        subst e
        refine .inr ⟨_, _, rfl, .inr ⟨_, .inr ⟨_, R.sub _ _ hF⟩, rfl⟩, ?_⟩
        have e2 := congrArg List.length hk.1
        simp only [List.length_map] at e2
        rw [e2]
        have e3 : ∀ kvs : List (Key × PyData), (kvK kvs).length = kvs.length := fun kvs => by simp [kvK]
        rw [e3] at h
        exact ans R xt l h (.int _)
  · rename_i n
    split at h
    · rename_i kvs hn
      cases r with
      | cons rx fx rr =>
        cases rr
        obtain ⟨hlt, rfl⟩ := rx
        obtain ⟨hf, ks, hH, hk, hd⟩ := R.cell n _ hn
        refine .inr ⟨_, _, rfl, .inl ⟨_, .inl hH, rfl⟩, ?_⟩
        have e2 := congrArg List.length hk.1
        simp only [List.length_map] at e2
        rw [e2]
        exact ans R xt l h (.int _)
    · rename_i kvs hn
      cases r with
      | cons rx fx rr =>
        cases rr
        obtain ⟨hlt, rfl⟩ := rx
        obtain ⟨hf, ks, hH, hk, hd⟩ := R.cell n _ hn
        refine .inr ⟨_, _, rfl, .inr ⟨_, .inl hH, rfl⟩, ?_⟩
        have e2 := congrArg List.length hk.1
        simp only [List.length_map] at e2
        rw [e2]
        exact ans R xt l h (.int _)
    · exact low r h
  · exact low r h
section
variable {μ : Mu} {q : PQ} {xs : List PyData} {z : Str} {n : Nat}
theorem lnD_str : oLenD [.dat (.str z)] μ q = (z.length ≤ 100000 ∧ q (.dat (.int z.length)) μ) := Eq.trans rfl rfl
theorem lnD_tup : oLenD [.dat (.tuple xs)] μ q = q (.dat (.int xs.length)) μ := Eq.trans rfl rfl
theorem lnD_lst : oLenD [.dat (.list xs)] μ q = q (.dat (.int xs.length)) μ := Eq.trans rfl rfl
theorem lnD_ro : oLenD [.ro xs] μ q = q (.dat (.int xs.length)) μ := Eq.trans rfl rfl
theorem lnD_d {d : List (PyData × PyData)} : oLenD [.dat (.dict d)] μ q = q (.dat (.int d.length)) μ := Eq.trans rfl rfl
def lnC (n : Nat) (μ : Mu) (q : PQ) (c : Option Cell) : Prop := match c with
  | some (.dct kvs) => q (.dat (.int kvs.length)) μ
  | some (.dck kvs) => q (.dat (.int kvs.length)) μ
  | _ => oLen [.loc n] μ q
theorem c_lenD : oLenD [.loc n] μ q = lnC n μ q μ[n]? := by
  simp only [oLenD, lnC]
theorem lnC_l {xs : List PyData} : lnC n μ q (some (.lst xs)) = oLen [.loc n] μ q := Eq.trans rfl rfl
end
end DL
set_option Elab.async false
set_option linter.all false
set_option maxRecDepth 100000
set_option maxHeartbeats 4000000
namespace DL
open PySem PySem.Spec PyProof.Rows L2
/-! ### sorted(xs), xs of any data that compare -/
theorem each_of_vals {K : PySem.W.Frag} {H : Hp} {xs : List V} {us : List Value} {ds : List PyData} (rv : Vals xs us) : xs.length = ds.length → PySem.W.EachIs (fun v (b : V × PyData) => RelV b.1 v) us (xs.zip ds) := by
  induction rv generalizing ds with
  | nil => intro _; exact .nil
  | cons r t ih =>
    intro hl
    cases ds with
    | nil => simp at hl
    | cons d ds => exact .cons r (ih (by simpa using hl))
theorem each_reads {X : Cx} {pins : List (Addr × Obj)} {σ : L2.St} {H : Hp} {s : Shared} (I : Inv X pins σ H s) {xs : List V} {us : List Value} (rv : Vals xs us) : ∀ {ds : List PyData}, DpAll X.K H xs ds → PySem.W.EachIs (fun v (b : V × PyData) => ∃ as, Reads s.heap v b.2 as) us (xs.zip ds) := by
  induction rv with
  | nil => intro ds h; cases h; exact .nil
  | cons r t ih =>
    intro ds h
    cases h with
    | cons h1 h2 => exact .cons (Dp.reads I _ _ _ h1 r) (ih h2)
theorem vals_each {us : List Value} {bs : List (V × PyData)} (h : PySem.W.EachIs (fun v (b : V × PyData) => RelV b.1 v) us bs) : Vals (bs.map Prod.fst) us := by
  induction h with
  | nil => exact .nil
  | cons r t ih => exact .cons r ih
/-- the items of a list, sorted -/
def sortVD (xs : List V) (ds : List PyData) : List (V × PyData) := (xs.zip ds).mergeSort (PySem.W.dataLe false Prod.snd)
def rSortL (K : PySem.W.Frag) : List V → Hp → VK → Prop := fun vs H Q => ∃ (a : Addr) (xs : List V) (ds : List PyData), vs = [V.ref a] ∧ SqL K H a xs ∧ DpAll K H xs ds ∧ xs.length = ds.length ∧ PySem.W.AllAlike ds ∧ PySem.W.Sortable ds ∧ (∀ d ∈ ds, d.depth ≤ 60) ∧
  ∀ p, H p = none → Q (.ref p) (upd H p (.lst ((sortVD xs ds).map Prod.fst)))
theorem call_sortL {X : Cx} (hu : X.A.units + 64 < cLine) : CallR X (.builtin "sorted") (rSortL X.K) := by
  intro pins s σ H vs us Q I r h
  obtain ⟨a, xs, ds, rfl, hs, hd, hl0, hal, hk, hdep, q⟩ := h
  obtain ⟨its, rv, hl, hz⟩ := I.list hs
  obtain ⟨u, rfl, ru⟩ := vals1 r
  obtain rfl : u = Value.ref a := ru
  have hzl : (xs.zip ds).length = xs.length := by rw [List.length_zip, ← hl0, Nat.min_self]
  have e2 : (xs.zip ds).map Prod.snd = ds := List.map_snd_zip (by omega)
  refine PySem.W.sorted_data (enc := Prod.snd) hl.isList (each_of_vals (K := X.K) (H := H) rv hl0) (each_reads I rv hd) (by rw [e2]; exact hal) (by rw [e2]; exact hk) (by rw [hzl]; exact hz) (fun b hb => ?_) fun out ho eo => ?_
  · have := hdep b.2 (by rw [← e2]; exact List.mem_map_of_mem hb)
    omega
  · obtain ⟨ep, he'⟩ := PyProof.Rows.sortedAll_at s.heap its out.toArray
    have hv : Vals ((sortVD xs ds).map Prod.fst) out := vals_each eo
    refine ⟨.ref _, upd H (s.heap.objs.size + 1) (.lst ((sortVD xs ds).map Prod.fst)), I.laid (t' := s.toks) (fun _ _ => PyProof.Rows.sortedAll_old) (Nat.le_succ _) ⟨?_, out, ep, hv, he'⟩, rfl, q _ (I.hok.fresh (Nat.le_succ _))⟩
    rw [hv.length, ho, hzl]
    exact hz
/-! sorted(t), t a tuple -/
def rSortT (K : PySem.W.Frag) : List V → Hp → VK → Prop := fun vs H Q => ∃ (a : Addr) (xs : List V) (ds : List PyData), vs = [V.ref a] ∧ SqT K H a xs ∧ DpAll K H xs ds ∧ xs.length = ds.length ∧ PySem.W.AllAlike ds ∧ PySem.W.Sortable ds ∧ (∀ d ∈ ds, d.depth ≤ 60) ∧
  ∀ p, H p = none → Q (.ref p) (upd H p (.lst ((sortVD xs ds).map Prod.fst)))
theorem call_sortT {X : Cx} (hu : X.A.units + 64 < cLine) : CallR X (.builtin "sorted") (rSortT X.K) := by
  intro pins s σ H vs us Q I r h
  obtain ⟨a, xs, ds, rfl, hs, hd, hl0, hal, hk, hdep, q⟩ := h
  obtain ⟨its, rv, hl, hz⟩ := I.tuple hs
  obtain ⟨u, rfl, ru⟩ := vals1 r
  obtain rfl : u = Value.ref a := ru
  have hzl : (xs.zip ds).length = xs.length := by rw [List.length_zip, ← hl0, Nat.min_self]
  have e2 : (xs.zip ds).map Prod.snd = ds := List.map_snd_zip (by omega)
  have r1 := each_of_vals (K := X.K) (H := H) rv hl0
  have hil : its.length = xs.length := (Vals.length rv).symm
  refine Calls.call_function_entry PyProof.Rows.kind_sorted PyProof.Rows.plain_sorted PyProof.Rows.entry_sorted (PyProof.Rows.args_sorted1 _) ?_
  unfold Builtin.«sorted»
  refine wpAny_bind (m := checkCount "sorted" 1 1 _) (wpAny_pure ?_)
  obtain ⟨o, ho, hc, n, hdd⟩ := hl
  refine wpAny_bind (PySem.wpAny_collect_seq a (.inr rfl) ho hc hdd (fun h' kp => ?_) (by rw [List.size_toArray]; omega))
  have I1 : Inv X pins σ H { s with heap := h' } := I.kept kp
  have r2 := each_reads I1 rv hd
  refine wpAny_bind (wpAny_newList ?_ (by rw [List.toList_toArray]; omega))
  rw [List.toList_toArray]
  have hoL : (h'.push (seqObj "list" its.toArray 0)).get? h'.objs.size = some (seqObj "list" its.toArray 0) := Heap.get?_push_size _ rfl
  show wpAny _ _ _ _ _ { s with heap := h'.push (seqObj "list" its.toArray 0) }
  have old : ∀ b ob, h'.get? b = some ob → (PySem.W.sortingHeap (h'.push (seqObj "list" its.toArray 0)) h'.objs.size its).get? b = some ob := fun b ob hb =>
    PySem.W.sortingHeap_old (Nat.ne_of_lt (Heap.lt_size hb)) (Heap.get?_push_of_some _ hb)
  have r3 : PySem.W.EachIs (fun v (e : V × PyData) => ∃ as, Reads (PySem.W.sortingHeap (h'.push (seqObj "list" its.toArray 0)) h'.objs.size its) v e.2 as) its (xs.zip ds) := r2.mono fun _ _ ⟨as, rr⟩ => ⟨as, PyProof.Rows.Reads.keeps old rr⟩
  refine wpAny_bind (wpAny_holding (wpAny_call_entry PyProof.Rows.slot_list_sort ⟨_, hoL, rfl⟩ PyProof.Rows.entry_list_sort
    (PySem.W.list_sort_vals (κ := PySem.W.dataKind (PySem.W.sortingHeap (h'.push (seqObj "list" its.toArray 0)) h'.objs.size its) ((xs.zip ds).map Prod.snd)) (s := { s with heap := h'.push (seqObj "list" its.toArray 0) }) hoL
      (PySem.W.SortsAt.data (s := { s with heap := PySem.W.sortingHeap (h'.push (seqObj "list" its.toArray 0)) h'.objs.size its }) (PySem.W.each_map (R := fun v d => ∃ as, Reads (PySem.W.sortingHeap (h'.push (seqObj "list" its.toArray 0)) h'.objs.size its) v d as) _ r3) (by rw [e2]; exact hal) (by rw [e2]; exact hk) (fun dd hdd => ?_)) (by omega) ⟨_, rfl, ?_⟩) (PyProof.Rows.args_list_sort _)))
  · rw [e2] at hdd
    have := hdep dd hdd
    show X.A.units + 2 + _ < cLine
    omega
  · have eo := PySem.W.sortVals_data (enc := fun e : V × PyData => e.2) false r1 r3 (by rw [show (xs.zip ds).map (fun e => e.2) = ds from e2]; exact hal)
    have hv := vals_each eo
    generalize hout : PySem.W.sortVals _ false its its = out at eo hv
    obtain ⟨e', he'⟩ := PyProof.Rows.sortedHeap_at (vs := its) (out := out.toArray) hoL
    have hlen : ((sortVD xs ds).map Prod.fst).length ≤ sizeLine := by
      unfold sortVD
      rw [List.length_map, List.length_mergeSort, hzl]
      exact hz
    refine wpAny_pure ⟨_, rfl, .ref h'.objs.size, upd H h'.objs.size (.lst ((sortVD xs ds).map Prod.fst)), I1.laid (t' := s.toks) (fun b u e => ?_) (Nat.le_refl _)
      (show ObjOk X.prog X.w _ _ _ (.lst _) from ⟨hlen, out, e', hv, he'⟩), rfl, q _ (I1.hok.fresh (Nat.le_refl _))⟩
    have hb : b < h'.objs.size := Heap.lt_size e
    rw [PyProof.Rows.sortedHeap_old (Nat.ne_of_lt hb) (by rw [size_push']; exact Nat.lt_succ_of_lt hb)]
    exact Heap.get?_push_of_some _ e
/-! sorted(d), d with tuple keys -/
def rSortDT : List V → Hp → VK → Prop := fun vs H Q => ∃ (a : Addr) (kvs : List (List Key × V)), vs = [V.ref a] ∧ Rd H a (.dT kvs) ∧ PySem.W.AllAlike (kvs.map fun p => .tuple (p.1.map keyD)) ∧ PySem.W.Sortable (kvs.map fun p => .tuple (p.1.map keyD)) ∧
  ∀ (p : Addr) (L : List (Addr × List Key)), H p = none → L.map Prod.snd = kvs.map Prod.fst → (∀ e ∈ L, H e.1 = some (.tup (e.2.map kV))) →
    Q (.ref p) (upd H p (.lst ((L.mergeSort (PySem.W.dataLe false fun e => .tuple (e.2.map keyD))).map fun e => V.ref e.1)))
theorem dp_keys {K : PySem.W.Frag} {H : Hp} : ∀ k : List Key, DpAll K H (k.map kV) (k.map keyD)
  | [] => .nil
  | .inl i :: r => .cons (.int i) (dp_keys r)
  | .inr z :: r => .cons (.str z) (dp_keys r)
theorem dep_key (k : List Key) : (PyData.tuple (k.map keyD)).depth ≤ 1 := by
  rw [dep_tup]
  have := depA_map keyD (n := 0) (fun a => enc_key.dep a) k
  omega
theorem each_ks {X : Cx} {pins : List (Addr × Obj)} {σ : L2.St} {H : Hp} {s : Shared} (I : Inv X pins σ H s) : ∀ L : List (Addr × List Key), (∀ e ∈ L, H e.1 = some (.tup (e.2.map kV))) →
    PySem.W.EachIs (fun v (e : Addr × List Key) => v = .ref e.1) (L.map fun e => Value.ref e.1) L ∧ PySem.W.EachIs (fun v (e : Addr × List Key) => ∃ as, Reads s.heap v (.tuple (e.2.map keyD)) as) (L.map fun e => Value.ref e.1) L
  | [], _ => ⟨.nil, .nil⟩
  | e :: L, h => by
    obtain ⟨a1, a2⟩ := each_ks I L fun x hx => h x (List.mem_cons_of_mem _ hx)
    exact ⟨.cons rfl a1, .cons (Dp.reads I _ (.ref e.1) _ (.tup (SqT.of (h e (by simp))) (dp_keys e.2)) rfl) a2⟩
theorem vals_ks {us : List Value} {L : List (Addr × List Key)} (h : PySem.W.EachIs (fun v (e : Addr × List Key) => v = .ref e.1) us L) : Vals (L.map fun e => V.ref e.1) us := by
  induction h with
  | nil => exact .nil
  | cons r t ih =>
    subst r
    exact .cons rfl ih
theorem call_sortDT {X : Cx} (hc : X.calm = true) (hu : X.A.units + 64 < cLine) : CallR X (.builtin "sorted") rSortDT := by
  intro pins s σ H xs us Q I r h
  obtain ⟨d, kvs, rfl, hd, hal, hk, q⟩ := h
  obtain ⟨u, rfl, rx⟩ := vals1 r
  cases rx
  obtain ⟨z, lo, ks, pr, o, es, ep, ho, hx, hdt, he, his, hn⟩ := dt_rd I.hok hd
  have l1 : es.size = ks.length := size_of_entries he
  have l2 : kvs.length = ks.length := Paired.length pr
  refine Calls.call_function_entry PyProof.Rows.kind_sorted PyProof.Rows.plain_sorted PyProof.Rows.entry_sorted (PyProof.Rows.args_sorted1 _) ?_
  unfold Builtin.«sorted»
  refine wpAny_bind (m := checkCount "sorted" 1 1 _) (wpAny_pure ?_)
  refine wpAny_bind (PySem.W.kdu_collect (A := X.A.in1) (kdl_raw lo hx hdt) (I.ok.hd hc) ho (by omega) fun h' tk acc kp it => ?_)
  obtain ⟨L, hL⟩ : ∃ L : List (Addr × List Key), L = ks.map fun x => (x.2.1, x.1) := ⟨_, rfl⟩
  have ea : acc.toList = L.map fun e => Value.ref e.1 := by
    rw [hL, List.map_map]
    have hl : acc.toList.length = ks.length := by rw [Array.length_toList, it.1]; exact l1
    apply List.ext_getElem?
    intro j
    rw [List.getElem?_map]
    cases hj : acc.toList[j]? with
    | none =>
      have h1 := List.getElem?_eq_none_iff.mp hj
      rw [List.getElem?_eq_none (by omega)]
      all_goals rfl
    | some v =>
      obtain ⟨en, hen, hv⟩ := it.2 j v (by rw [← Array.getElem?_toList]; exact hj)
      have qe := entry_at he j
      rw [hen] at qe
      cases hb : ks[j]? with
      | none =>
        rw [hb] at qe
        exact nomatch (show some en = none from qe)
      | some b =>
        rw [hb] at qe
        have e2 : en = entryOfKey (tupleKind (mixKind X.prog X.w)) b := Option.some.inj qe
        rw [hv, e2]
        all_goals rfl
  have I1 : Inv X pins σ H { s with heap := h', toks := tk } := I.kept kp
  have hLl : L.length = kvs.length := by rw [hL, List.length_map, l2]
  have hLs : ∀ {ls : List (List Key × V)} {ms : List (List Key × Addr × Value)}, KT H ls ms → (ms.map fun x => x.1) = ls.map Prod.fst ∧ ∀ x ∈ ms, H x.2.1 = some (.tup (x.1.map kV)) := by
    intro ls ms g
    induction g with
    | nil => exact ⟨rfl, fun x hx => nomatch hx⟩
    | cons hq t ih =>
      refine ⟨by rw [List.map_cons, List.map_cons, ih.1, hq.1], fun x hx => ?_⟩
      rcases List.mem_cons.mp hx with rfl | hx
      · rw [← hq.1]; exact hq.2.1
      · exact ih.2 x hx
  obtain ⟨g1, g2⟩ := hLs pr
  have hk1 : L.map Prod.snd = kvs.map Prod.fst := by rw [hL, List.map_map, ← g1]; rfl
  have hk2 : ∀ e ∈ L, H e.1 = some (.tup (e.2.map kV)) := fun e he => by
    rw [hL] at he
    obtain ⟨x, hx, rfl⟩ := List.mem_map.mp he
    exact g2 x hx
  have hen : (L.map fun e => PyData.tuple (e.2.map keyD)) = kvs.map fun p => .tuple (p.1.map keyD) := by
    have e1 : (L.map fun e => PyData.tuple (e.2.map keyD)) = (L.map Prod.snd).map fun k => PyData.tuple (k.map keyD) := by rw [List.map_map]; rfl
    rw [e1, hk1, List.map_map]
    rfl
  obtain ⟨r1, r2⟩ := each_ks I1 L hk2
  rw [← ea] at r1 r2
  have hal' : acc.toList.length = L.length := by rw [ea, List.length_map]
  refine wpAny_bind (wpAny_newList ?_ (by rw [hal']; omega))
  have hoL : (h'.push (seqObj "list" acc.toList.toArray 0)).get? h'.objs.size = some (seqObj "list" acc.toList.toArray 0) := Heap.get?_push_size _ rfl
  show wpAny _ _ _ _ _ { s with heap := h'.push (seqObj "list" acc.toList.toArray 0), toks := tk }
  have old : ∀ b ob, h'.get? b = some ob → (PySem.W.sortingHeap (h'.push (seqObj "list" acc.toList.toArray 0)) h'.objs.size acc.toList).get? b = some ob := fun b ob hb =>
    PySem.W.sortingHeap_old (Nat.ne_of_lt (Heap.lt_size hb)) (Heap.get?_push_of_some _ hb)
  have r3 : PySem.W.EachIs (fun v (e : Addr × List Key) => ∃ as, Reads (PySem.W.sortingHeap (h'.push (seqObj "list" acc.toList.toArray 0)) h'.objs.size acc.toList) v (.tuple (e.2.map keyD)) as) acc.toList L := r2.mono fun _ _ ⟨as, rr⟩ => ⟨as, PyProof.Rows.Reads.keeps old rr⟩
  refine wpAny_bind (wpAny_holding (wpAny_call_entry PyProof.Rows.slot_list_sort ⟨_, hoL, rfl⟩ PyProof.Rows.entry_list_sort
    (PySem.W.list_sort_vals (κ := PySem.W.dataKind (PySem.W.sortingHeap (h'.push (seqObj "list" acc.toList.toArray 0)) h'.objs.size acc.toList) (L.map fun e => PyData.tuple (e.2.map keyD))) (s := { s with heap := h'.push (seqObj "list" acc.toList.toArray 0), toks := tk }) hoL
      (PySem.W.SortsAt.data (s := { s with heap := PySem.W.sortingHeap (h'.push (seqObj "list" acc.toList.toArray 0)) h'.objs.size acc.toList, toks := tk }) (PySem.W.each_map (R := fun v d => ∃ as, Reads (PySem.W.sortingHeap (h'.push (seqObj "list" acc.toList.toArray 0)) h'.objs.size acc.toList) v d as) _ r3) (by rw [hen]; exact hal) (by rw [hen]; exact hk) (fun dd hdd => ?_)) (by rw [hal']; omega) ⟨_, rfl, ?_⟩) (PyProof.Rows.args_list_sort _)))
  · obtain ⟨e, he, rfl⟩ := List.mem_map.mp hdd
    have := dep_key e.2
    show X.A.units + 2 + _ < cLine
    omega
  · have eo := PySem.W.sortVals_data (enc := fun e : Addr × List Key => PyData.tuple (e.2.map keyD)) false r1 r3 (by rw [hen]; exact hal)
    have hv := vals_ks eo
    generalize hout : PySem.W.sortVals _ false acc.toList acc.toList = out at eo hv
    have hout' := hout
    obtain ⟨e', he'⟩ := PyProof.Rows.sortedHeap_at (vs := acc.toList) (out := out.toArray) hoL
    have hlen : ((L.mergeSort (PySem.W.dataLe false fun e => .tuple (e.2.map keyD))).map fun e => V.ref e.1).length ≤ sizeLine := by
      rw [List.length_map, List.length_mergeSort]
      omega
    refine wpAny_pure ⟨_, rfl, .ref h'.objs.size, upd H h'.objs.size (.lst ((L.mergeSort (PySem.W.dataLe false fun e => .tuple (e.2.map keyD))).map fun e => V.ref e.1)), I1.laid (t' := tk) (fun b u e => ?_) (Nat.le_refl _)
      (show ObjOk X.prog X.w _ _ _ (.lst _) from ⟨hlen, out, e', hv, he'⟩), rfl, q _ L (I1.hok.fresh (Nat.le_refl _)) hk1 hk2⟩
    have hb : b < h'.objs.size := Heap.lt_size e
    rw [PyProof.Rows.sortedHeap_old (Nat.ne_of_lt hb) (by rw [size_push']; exact Nat.lt_succ_of_lt hb)]
    exact Heap.get?_push_of_some _ e
/-! ### .. by data -/
abbrev leD : PyData → PyData → Bool := PySem.W.dataLe false fun d => d
abbrev AlikeD (ds : List PyData) : Prop := PySem.W.AllAlike ds ∧ PySem.W.Sortable ds
def oSortD : CD := fun es μ q => match es with
  | [.dat (.dict d)] => (d.all fun p => isTupD p.1) = true ∧ AlikeD (d.map (·.1)) ∧ q (.new ((d.map (·.1)).mergeSort leD)) μ
  | [.dat (.tuple ds)] => (noDs ds = true ∧ ∀ d ∈ ds, d.depth ≤ 60) ∧ AlikeD ds ∧ q (.new (ds.mergeSort leD)) μ
  | [e] => match lstOf μ e with
    | some ds => (noDs ds = true ∧ ∀ d ∈ ds, d.depth ≤ 60) ∧ AlikeD ds ∧ q (.new (ds.mergeSort leD)) μ
    | none => match e with
      | .loc n => match μ[n]? with
        | some (.dct kvs) => AlikeD (kvs.map fun p => .tuple (p.1.map keyD)) ∧ q (.new ((kvs.map fun p => .tuple (p.1.map keyD)).mergeSort leD)) μ
        | _ => False
      | _ => False
  | _ => False
def rSortA (K : PySem.W.Frag) : List V → Hp → VK → Prop := fun xs H Q => rSortL K xs H Q ∨ rSortDT xs H Q ∨ rSortT K xs H Q
theorem call_sortA {X : Cx} (hc : X.calm = true) (hu : X.A.units + 64 < cLine) : CallR X (.builtin "sorted") (rSortA X.K) := (call_sortL hu).or ((call_sortDT hc hu).or (call_sortT hu))
theorem drs_zip {K : PySem.W.Frag} {F : Hp} : ∀ {vs : List V} {ds : List PyData}, DRs K F vs ds → ∀ p ∈ vs.zip ds, DR K F p.1 p.2
  | _, _, .nil, p, hp => by simp at hp
  | _, _, .cons h hs, p, hp => by
    rw [List.zip_cons_cons] at hp
    rcases List.mem_cons.mp hp with rfl | hp
    · exact h
    · exact drs_zip hs p hp
theorem drs_of {K : PySem.W.Frag} {F : Hp} : ∀ {L : List (V × PyData)}, (∀ p ∈ L, DR K F p.1 p.2) → DRs K F (L.map Prod.fst) (L.map Prod.snd)
  | [], _ => .nil
  | p :: L, h => .cons (h p (by simp)) (drs_of fun q hq => h q (List.mem_cons_of_mem _ hq))
theorem drs_sort {K : PySem.W.Frag} {F : Hp} {vs : List V} {ds : List PyData} (h : DRs K F vs ds) : DRs K F ((sortVD vs ds).map Prod.fst) (ds.mergeSort leD) := by
  have e : (sortVD vs ds).map Prod.snd = ds.mergeSort leD := by
    unfold sortVD
    rw [List.map_mergeSort (r := PySem.W.dataLe false Prod.snd) (s := leD) (f := Prod.snd) fun _ _ _ _ => rfl, List.map_snd_zip (by rw [h.length]; exact Nat.le_refl _)]
  rw [← e]
  refine drs_of fun p hp => drs_zip h p ?_
  exact List.mem_mergeSort.mp hp
theorem sort_keys {L : List (Addr × List Key)} : (L.mergeSort (PySem.W.dataLe false fun e => .tuple (e.2.map keyD))).map (fun e => PyData.tuple (e.2.map keyD)) = (L.map fun e => PyData.tuple (e.2.map keyD)).mergeSort leD :=
  List.map_mergeSort fun _ _ _ _ => rfl
theorem cs_sortA {K : PySem.W.Frag} : CallS K (rSortA K) oSortD := by
  intro s0 N0 s μ xs es q Q R xt r h l
  have dct : ∀ {x : V} {a : Addr} {ks : List (List Key × V)} {kvs : List (List Key × PyData)}, x = .ref a → xs = [x] → Rd s.H a (.dT ks) → sameT ks kvs → AlikeD (kvs.map fun p => .tuple (p.1.map keyD)) → q (.new ((kvs.map fun p => .tuple (p.1.map keyD)).mergeSort leD)) μ → rSortA K xs s.H Q := by
    intro x a ks kvs ex exs rd hk al hq
    subst ex
    subst exs
    have e0 : (ks.map fun p => PyData.tuple (p.1.map keyD)) = kvs.map fun p => PyData.tuple (p.1.map keyD) := by
      have e1 : ∀ {α : Type} (l : List (List Key × α)), (l.map fun p => PyData.tuple (p.1.map keyD)) = (l.map (·.1)).map fun k => PyData.tuple (k.map keyD) := fun l => by rw [List.map_map]; rfl
      rw [e1, e1, hk.1]
    refine .inr (.inl ⟨a, ks, rfl, rd, by rw [e0]; exact al.1, by rw [e0]; exact al.2, fun p L hp hL1 hL2 => ?_⟩)
    have okL : ∀ e ∈ L, ∀ x ∈ e.2, keyOk x := fun e he => by
      have h1 : e.2 ∈ kvs.map (·.1) := by
        rw [← hk.1]
        have : e.2 ∈ L.map Prod.snd := List.mem_map_of_mem he
        rw [hL1] at this
        exact this
      obtain ⟨p', hp', e'⟩ := List.mem_map.mp h1
      rw [← e']
      exact hk.2 p' hp'
    obtain ⟨M, hM⟩ : ∃ M, M = L.mergeSort (PySem.W.dataLe false fun e => .tuple (e.2.map keyD)) := ⟨_, rfl⟩
    have hMm : ∀ e ∈ M, e ∈ L := fun e he => by rw [hM] at he; exact List.mem_mergeSort.mp he
    have pr : ∀ M : List (Addr × List Key), (∀ e ∈ M, e ∈ L) → Paired (fun (p : List Key × V) b => s.H b = some (.tup (p.1.map kV))) (M.map fun e => (e.2, V.non)) (M.map Prod.fst) := fun M => by
      induction M with
      | nil => exact fun _ => .nil
      | cons e M ih => exact fun hm => .cons (hL2 e (hm e (by simp))) (ih fun x hx => hm x (List.mem_cons_of_mem _ hx))
    obtain ⟨F', f', R', x', r'⟩ := tups_still (s := s) (F1 := s.F) (pr M hMm) R (fun p hp => by
      obtain ⟨e, he, rfl⟩ := List.mem_map.mp hp
      exact okL e (hMm e he))
    have e3 : ((M.map fun e => (e.2, V.non)).map fun p : List Key × V => PyData.tuple (p.1.map keyD)) = (kvs.map fun p => .tuple (p.1.map keyD)).mergeSort leD := by
      rw [List.map_map, ← e0]
      have e4 : (L.map fun e => PyData.tuple (e.2.map keyD)) = ks.map fun p => PyData.tuple (p.1.map keyD) := by
        have e1 : (L.map fun e => PyData.tuple (e.2.map keyD)) = (L.map Prod.snd).map fun k => PyData.tuple (k.map keyD) := by rw [List.map_map]; rfl
        rw [e1, hL1, List.map_map]
        rfl
      rw [← e4, ← sort_keys, ← hM]
      rfl
    rw [e3] at r'
    have e5 : (M.map fun e => V.ref e.1) = (M.map Prod.fst).map V.ref := by rw [List.map_map]; rfl
    rw [← hM, e5]
    exact ans_new (s := { s with F := F' }) R' (xt.trans x' fun n hn => R.here hn) l hq r' hp
  unfold oSortD at h
  split at h
  · rename_i d
    obtain ⟨h1, h2, h3⟩ := h
    cases r with
    | cons rx fx rr =>
      cases rr
      rename_i x
      have rd : DR K s.F x (.dict d) := rx
      cases rd with
      | dcT hF hk hs e =>
        subst e
        have e1 : ∀ kvs : List (List Key × PyData), (kvT kvs).map (·.1) = kvs.map fun p => PyData.tuple (p.1.map keyD) := fun kvs => by simp [kvT]
        rw [e1] at h2 h3
        exact dct rfl rfl (.inr ⟨_, R.sub _ _ hF⟩) hk h2 h3
      | @dcK a od ks kvs _ hF hk hs e ne =>
        subst e
        cases kvs with
        | nil => exact absurd rfl ne
        | cons p r =>
          obtain ⟨k0, v0⟩ := p
          exfalso
          have : isTupD (keyD k0) = true := by
            simp only [kvK, List.map_cons, List.all_cons, Bool.and_eq_true] at h1
            exact h1.1
          cases k0 <;> simp [keyD, isTupD] at this
  · rename_i ds
    obtain ⟨⟨h1, h2⟩, ⟨h3, h4⟩, h5⟩ := h
    cases r with
    | cons rx fx rr =>
      cases rr
      have rd : DR K s.F _ (.tuple ds) := rx
      cases rd with
      | tup hF hv => exact .inr (.inr ⟨_, _, ds, rfl, .inl (.inl (R.sub _ _ hF)), (hv.mono R.sub).dp h1, hv.length, h3, h4, h2, fun p hp => ans_new R xt l h5 (drs_sort hv) hp⟩)
  · cases r with
    | cons rx fx rr =>
      cases rr
      split at h
      · rename_i ds hds
        obtain ⟨⟨h1, h2⟩, ⟨h3, h4⟩, h5⟩ := h
        obtain ⟨a, vs, rfl, hs, hv⟩ := lst_ok R rx hds
        exact .inl ⟨a, vs, ds, rfl, SqL.of hs, (hv.mono R.sub).dp h1, hv.length, h3, h4, h2, fun p hp => ans_new R xt l h5 (drs_sort hv) hp⟩
      · split at h
        · split at h
          · rename_i n _ _ _ _ kvs hn
            obtain ⟨hlt, rfl⟩ := rx
            obtain ⟨hf, ks, hH, hk, hd⟩ := R.cell n _ hn
            exact dct rfl rfl (.inl hH) hk h.1 h.2
          · exact h.elim
        · exact h.elim
  · exact h.elim
section
variable {μ : Mu} {q : PQ} {xs : List PyData} {n : Nat}
theorem srt_t : oSortD [.dat (.tuple xs)] μ q = ((noDs xs = true ∧ ∀ d ∈ xs, d.depth ≤ 60) ∧ AlikeD xs ∧ q (.new (xs.mergeSort leD)) μ) := Eq.trans rfl rfl
theorem srt_l : oSortD [.dat (.list xs)] μ q = ((noDs xs = true ∧ ∀ d ∈ xs, d.depth ≤ 60) ∧ AlikeD xs ∧ q (.new (xs.mergeSort leD)) μ) := Eq.trans rfl rfl
theorem srt_n : oSortD [.new xs] μ q = ((noDs xs = true ∧ ∀ d ∈ xs, d.depth ≤ 60) ∧ AlikeD xs ∧ q (.new (xs.mergeSort leD)) μ) := Eq.trans rfl rfl
end
theorem sort_enc {α : Type} {as : List α} {en : α → PyData} {le : α → α → Bool} (h : ∀ a b, leD (en a) (en b) = le a b) : (as.map en).mergeSort leD = (as.mergeSort le).map en :=
  (List.map_mergeSort fun a _ b _ => (h a b).symm).symm
/-! places -/
end DL
set_option Elab.async false
set_option linter.all false
set_option maxRecDepth 100000
set_option maxHeartbeats 4000000
/-! ### enumerate(xs), enumerate(xs, k), xs a list or a tuple that is still -/
namespace DL
open PySem PySem.Spec PyProof.Rows L2
set_option maxHeartbeats 4000000 in
theorem meets_enum1 {v : Value} {o : Obj} {H : Heap → Prop} (B : Begins v o H) :
    Meets (Builtin.«enumerate.__new__» ⟨[.type "enumerate", v], []⟩) (fun _ R s => H s.heap ∧
      R (.ok (.ret (.ref (s.heap.push o).objs.size))) { s with heap := (s.heap.push o).push { cls := .type "enumerate", data := .fields #[.none, .bool false, .ref s.heap.objs.size, rawInt 0, .none, .none] } }) :=
  .of_wp fun prog w A R s h => by
    obtain ⟨hp, g, d, tk, os⟩ := s; obtain ⟨h1, h⟩ := h
    have hsub := sub_enumerate
    have q1 : ∀ {A' : Around} {E : Value → Shared → Prop} {Q : Value → Shared → Prop}, Q (.ref hp.objs.size) ⟨hp.push o, g, d, tk, os⟩ → wpAny (model prog w) A' (pyIter v) Q E ⟨hp, g, d, tk, os⟩ :=
      fun q => B.iter prog w _ _ ⟨hp, g, d, tk, os⟩ _ h1 q
    wp_walk using q1
    refine wpAny_stack_any fun st => wpAny_pure ?_
    split
    · rename_i c _ _ _ _ _
      cases (c == Value.type "enumerate")
      · wp_walk using q1
        exact ⟨_, rfl, h⟩
      · wp_walk using q1
        exact ⟨_, rfl, h⟩
    · wp_walk using q1
      exact ⟨_, rfl, h⟩
section
variable {prog : Program} {w : World} {A : Around} {E : Value → Shared → Prop} {s : Shared}
theorem enum_begins1 {v : Value} {o : Obj} {H : Heap → Prop} {Q : Value → Shared → Prop} (B : Begins v o H) (h1 : H s.heap)
    (h : ∀ h', IsEnum h' (s.heap.objs.size + 1) s.heap.objs.size 0 .none → h'.get? s.heap.objs.size = some o → h'.objs.size = s.heap.objs.size + 2 →
      (∀ b o, s.heap.get? b = some o → h'.get? b = some o) → Q (.ref (s.heap.objs.size + 1)) { s with heap := h' }) :
    wpAny (model prog w) A (call (.type "enumerate") [v]) Q E s := by
  refine callType_new F.called_enumerate (by decide) (F.typeCall_enumerate_1 _) (F.newCall_enumerate_1 _) (fun obj => F.args_object_init_2 obj _) F.entry_enumerate_new
    (meets_enum1 B) ⟨h1, ?_⟩
  have hz : (s.heap.push o).objs.size = s.heap.objs.size + 1 := Heap.size_push ..
  show _ ∧ _
  rw [hz]
  have he : IsEnum ((s.heap.push o).push { cls := .type "enumerate", data := .fields #[.none, .bool false, .ref s.heap.objs.size, rawInt 0, .none, .none] }) (s.heap.objs.size + 1) s.heap.objs.size 0 .none := by
    have := Heap.get?_push_size (s.heap.push o) (o := { cls := .type "enumerate", data := .fields #[.none, .bool false, .ref s.heap.objs.size, rawInt 0, .none, .none] }) rfl
    rw [hz] at this; exact this
  refine ⟨⟨_, he, rfl⟩, h _ he (Heap.get?_push_of_some _ (Heap.get?_push_size _ B.free)) (by rw [Heap.size_push, hz]) fun b o x => Heap.get?_push_of_some _ (Heap.get?_push_of_some _ x)⟩
end
/-- a still source -/
def Src (K : PySem.W.Frag) (tp : Bool) (H : Hp) (a : Addr) (xs : List V) : Prop := if tp then SqT K H a xs else SqL K H a xs
/-- the pairs of a count and an item -/
def Itn (K : PySem.W.Frag) (tp : Bool) (a : Addr) (k : Int) : It :=
  ⟨fun i H => ∃ (xs : List V) (x : V), Src K tp H a xs ∧ xs[i]? = some x, fun i H v H' => ∃ T x, v = .ref T ∧ H T = none ∧ H' = upd H T (.tup [.int (k + (i : Nat)), x]) ∧ ∀ xs, Src K tp H a xs → xs[i]? = some x, fun i H => ∃ xs : List V, Src K tp H a xs ∧ xs.length = i⟩
def IsIt (tp : Bool) (h : Heap) (it a : Addr) (i : Nat) : Prop := if tp then h.IsTupleIter it a i else h.IsListIter it a i
theorem turn_enumC {P : Program} {w : World} {K : PySem.W.Frag} {elts : List Expr} {kk : Nat} {tpos : Pos} (tp : Bool) (a e it : Addr) (k : Int) :
    Turn P w K (.Tuple elts kk tpos) (Itn K tp a k) [e, it] e (fun i h => (∃ old, IsEnum h e it (k + (i : Nat)) old) ∧ IsIt tp h it a i ∧ e ≠ it) where
  mem := by simp
  obj := fun i h st b hb => by
    obtain ⟨⟨old, he⟩, hi, _⟩ := st
    have e' : b = e ∨ b = it := by simpa using hb
    rcases e' with z | z
    · rw [z]; exact ⟨_, he, fun v q => nomatch q⟩
    · rw [z]
      cases tp with
      | true => obtain ⟨o, ho, hc, hd⟩ := hi; exact ⟨o, ho, fun v q => by rw [hd] at q; cases q⟩
      | false => obtain ⟨o, ho, hc, hd⟩ := hi; exact ⟨o, ho, fun v q => by rw [hd] at q; cases q⟩
  keep := fun i h h' st kp => let ⟨⟨old, he⟩, hi, hne⟩ := st; ⟨⟨old, kp e (by simp) _ he⟩, by
    cases tp with
    | true => exact Heap.IsTupleIter.at hi fun o q => kp it (by simp) o q
    | false => exact Heap.IsListIter.at hi fun o q => kp it (by simp) o q, hne⟩
  item := by
    intro X hP hw hK hc i pins s σ H E I hf st hg
    subst hP hw hK
    obtain ⟨⟨old, he⟩, hit, hne⟩ := st
    obtain ⟨xs, x, hq, hx⟩ := hg
    have hel : e < s.heap.objs.size := Heap.lt_size he
    have hil : it < s.heap.objs.size := by
      cases tp with
      | true => obtain ⟨_, q, _⟩ := hit; exact Heap.lt_size q
      | false => obtain ⟨_, q, _⟩ := hit; exact Heap.lt_size q
    have uniq : ∀ ys, Src X.K tp H a ys → ys = xs := fun ys hy => by
      cases tp with
      | true => exact I.tuple_inj hy hq
      | false => exact I.list_inj hy hq
    have fin : ∀ (u : Value) (h' : Heap) (tk : Tok), RelV x u → IsEnumOut h' e it (k + (i : Nat) + 1) u s.heap.objs.size → IsIt tp h' it a (i + 1) → h'.get? s.heap.objs.size = some { cls := .type "tuple", data := .seq #[.int (k + (i : Nat)) tk, u] } → h'.objs.size = s.heap.objs.size + 1 →
        (∀ b o, b ≠ e → b ≠ it → s.heap.get? b = some o → h'.get? b = some o) → ∃ u', some (Value.ref s.heap.objs.size) = some u' ∧ wpAny (model X.prog X.w) X.A (letOwnedTupleGo (.Tuple elts kk tpos) (.ref e) u') (fun _ s2 => ∃ x H', Inv X pins σ H' s2 ∧ RelV x u' ∧ (Itn X.K tp a k).yld i H x H' ∧ ((∃ old, IsEnum s2.heap e it (k + ((i + 1 : Nat) : Int)) old) ∧ IsIt tp s2.heap it a (i + 1) ∧ e ≠ it) ∧ ∀ b ∈ [e, it], H' b = none) E { s with heap := h', toks := tk + 1 } := by
      intro u h' tk ru ho hit' hT hsz hk
      refine ⟨_, rfl, wpAny_letOwnedTupleGo_enum (s := { s with heap := h', toks := tk + 1 }) ho fun h'' he' sb => ?_⟩
      have hT2 : h''.get? s.heap.objs.size = some { cls := .type "tuple", data := .seq #[.int (k + (i : Nat)) tk, u] } := (sb.2 _ (Nat.ne_of_gt hel)).trans hT
      have new : ObjOk X.prog X.w (upd H s.heap.objs.size (.tup [.int (k + (i : Nat)), x])) h'' s.heap.objs.size (.tup [.int (k + (i : Nat)), x]) :=
        ⟨by show 2 ≤ sizeLine; decide, [.int (k + (i : Nat)) tk, u], .cons ⟨_, rfl⟩ (.cons ru .nil), ⟨_, hT2, rfl, _, rfl⟩⟩
      have I1 : Inv X pins σ (upd H s.heap.objs.size (.tup [.int (k + (i : Nat)), x])) { s with heap := h'', toks := tk + 1 } :=
        I.turnedNew (ch := [e, it]) (fun b ob hb q => (sb.2 b (fun z => hb (by simp [z]))).trans (hk b ob (fun z => hb (by simp [z])) (fun z => hb (by simp [z])) q)) hf (Nat.le_refl _) new
      refine ⟨.ref s.heap.objs.size, _, I1, rfl, ⟨_, x, rfl, I.hok.fresh (Nat.le_refl _), rfl, fun ys hy => by rw [uniq ys hy]; exact hx⟩, ⟨⟨u, ?_⟩, ?_, hne⟩, fun b hb => ?_⟩
      · have e1 : k + ((i + 1 : Nat) : Int) = k + (i : Int) + 1 := by omega
        rw [e1]; exact he'
      · cases tp with
        | true => exact Heap.IsTupleIter.at hit' fun o q => (sb.2 it (Ne.symm hne)).trans q
        | false => exact Heap.IsListIter.at hit' fun o q => (sb.2 it (Ne.symm hne)).trans q
      · have hb' : b < s.heap.objs.size := by
          have e' : b = e ∨ b = it := by simpa using hb
          rcases e' with z | z
          · rw [z]; exact hel
          · rw [z]; exact hil
        rw [upd_ne (Nat.ne_of_lt hb')]
        exact (hf b hb).1
    cases tp with
    | true =>
      obtain ⟨its, rv, p, hz⟩ := I.tuple hq
      obtain ⟨u, hu, ru⟩ := rv.get hx
      have hea : ∀ b, b = e ∨ b = it → b ≠ a := fun b hb z => by
        obtain ⟨o, ho, hcl, n, hd⟩ := p
        rcases hb with rfl | rfl
        · rw [z] at he
          have : some o = _ := ho.symm.trans he
          cases this
          exact absurd (Value.type.inj hcl) (by decide)
        · rw [z] at hit
          obtain ⟨o2, ho2, hc2, hd2⟩ := hit
          have : some o = some o2 := ho.symm.trans ho2
          cases this
          rw [hcl] at hc2
          exact absurd (Value.type.inj hc2) (by decide)
      exact wpAny_pyNext_enum_itemC (Draws.tuple (A := X.A.in1) (I.ok.hd hc) it a (Ne.symm (hea it (.inr rfl))) its.toArray) he ⟨hit, p⟩ (by have := (List.getElem?_eq_some_iff.mp hu).1; simpa using this) hne (by simp [hne, hea e (.inl rfl)]) fun u2 h' tk hP ho st' hT hsz hk => by
        have hu2 : u2 = u := by
          have h1 : its[i]? = some u2 := by simpa using hP
          rw [hu] at h1
          exact (Option.some.inj h1).symm
        subst hu2
        exact fin u2 h' tk ru ho st'.1 hT hsz hk
    | false =>
      obtain ⟨its, rv, p, hz⟩ := I.list hq
      obtain ⟨u, hu, ru⟩ := rv.get hx
      have pl := p.isList
      have hea : ∀ b, b = e ∨ b = it → b ≠ a := fun b hb z => by
        obtain ⟨o, ho, hcl, n, hd⟩ := pl
        rcases hb with rfl | rfl
        · rw [z] at he
          have : some o = _ := ho.symm.trans he
          cases this
          exact absurd (Value.type.inj hcl) (by decide)
        · rw [z] at hit
          obtain ⟨o2, ho2, hc2, hd2⟩ := hit
          have : some o = some o2 := ho.symm.trans ho2
          cases this
          rw [hcl] at hc2
          exact absurd (Value.type.inj hc2) (by decide)
      exact wpAny_pyNext_enum_itemC (Draws.list (A := X.A.in1) (I.ok.hd hc) it a (Ne.symm (hea it (.inr rfl))) its.toArray) he ⟨hit, pl⟩ (by have := (List.getElem?_eq_some_iff.mp hu).1; simpa using this) hne (by simp [hne, hea e (.inl rfl)]) fun u2 h' tk hP ho st' hT hsz hk => by
        have hu2 : u2 = u := by
          have h1 : its[i]? = some u2 := by simpa using hP
          rw [hu] at h1
          exact (Option.some.inj h1).symm
        subst hu2
        exact fin u2 h' tk ru ho st'.1 hT hsz hk
  done := by
    intro X hP hw hK hc i pins s σ H E I hf st hg
    subst hP hw hK
    obtain ⟨⟨old, he⟩, hit, hne⟩ := st
    obtain ⟨xs, hq, hx⟩ := hg
    obtain ⟨f0, f1, f2, f3, f4, f5⟩ := hf it (by simp)
    have fin : ∀ h' : Heap, Heap.ExtBut it s.heap h' → (none : Option Value) = none ∧ Inv X pins σ H { s with heap := h' } := fun h' eb => ⟨rfl, I.turned (t' := s.toks) (fun b o hb q => eb b o hb q) f0 f1 f3 f4 f5⟩
    subst hx
    cases tp with
    | true =>
      obtain ⟨its, rv, p, hz⟩ := I.tuple hq
      have hea : a ≠ it := fun z => by
        obtain ⟨o, ho, hcl, n, hd⟩ := p
        obtain ⟨o2, ho2, hc2, hd2⟩ := hit
        rw [z] at ho
        have : some o = some o2 := ho.symm.trans ho2
        cases this
        rw [hcl] at hc2
        exact absurd (Value.type.inj hc2) (by decide)
      have e : xs.length = its.toArray.size := by rw [List.size_toArray]; exact rv.length
      rw [e] at hit he
      exact wpAny_pyNext_enum_endD (Draws.tuple (A := X.A.in1) (I.ok.hd hc) it a hea its.toArray) he ⟨hit, p⟩ fin
    | false =>
      obtain ⟨its, rv, p, hz⟩ := I.list hq
      have pl := p.isList
      have hea : a ≠ it := fun z => by
        obtain ⟨o, ho, hcl, n, hd⟩ := pl
        obtain ⟨o2, ho2, hc2, hd2⟩ := hit
        rw [z] at ho
        have : some o = some o2 := ho.symm.trans ho2
        cases this
        rw [hcl] at hc2
        exact absurd (Value.type.inj hc2) (by decide)
      have e : xs.length = its.toArray.size := by rw [List.size_toArray]; exact rv.length
      rw [e] at hit he
      exact wpAny_pyNext_enum_endD (Draws.list (A := X.A.in1) (I.ok.hd hc) it a hea its.toArray) he ⟨hit, pl⟩ fin
  self := fun A i s Q E st h => let ⟨⟨_, he⟩, _⟩ := st; wpAny_pyIter_enum he h
def iEnumC (K : PySem.W.Frag) (ta : TA) : TI := fun σ H R => ta σ H fun vs H1 => ∃ (tp : Bool) (a : Addr) (xs : List V) (k : Int), (vs = [.ref a] ∧ k = 0 ∨ vs = [.ref a, .int k]) ∧ (-(2 ^ 63) ≤ k ∧ k < 2 ^ 63) ∧ Src K tp H1 a xs ∧ R (Itn K tp a k) H1
theorem enum_go {X : Cx} {pins : List (Addr × Obj)} {σ : L2.St} {H1 : Hp} {s1 : Shared} {R : It → Hp → Prop} {elts : List Expr} {kk : Nat} {tpos : Pos} {tp : Bool} {a : Addr} {xs : List V} {k : Int} {us : List Value} (I1 : Inv X pins σ H1 s1) (hq : Src X.K tp H1 a xs) (q : R (Itn X.K tp a k) H1) (hk : -(2 ^ 63) ≤ k ∧ k < 2 ^ 63)
    (hus : (us = [.ref a] ∧ k = 0) ∨ ∃ t, us = [.ref a, .int k t]) : wpAny (model X.prog X.w) X.A (call (.type "enumerate") us) (fun v s2 => wpAny (model X.prog X.w) X.A (pyIter v) (PIE X pins σ (.Tuple elts kk tpos) R) X.xe s2) X.xe s1 := by
  have fin : ∀ (h' : Heap), IsEnum h' (s1.heap.objs.size + 1) s1.heap.objs.size k .none → IsIt tp h' s1.heap.objs.size a 0 → (∀ b o, s1.heap.get? b = some o → h'.get? b = some o) → wpAny (model X.prog X.w) X.A (pyIter (.ref (s1.heap.objs.size + 1))) (PIE X pins σ (.Tuple elts kk tpos) R) X.xe { s1 with heap := h' } := fun h' he hit hk => by
    refine wpAny_pyIter_enum he ?_
    have I2 : Inv X pins σ H1 { s1 with heap := h' } := I1.kept (t' := s1.toks) hk
    refine ⟨s1.heap.objs.size + 1, [s1.heap.objs.size + 1, s1.heap.objs.size], _, _, H1, rfl, I2, turn_enumC tp a (s1.heap.objs.size + 1) s1.heap.objs.size k, ⟨⟨.none, by simpa using he⟩, hit, Nat.succ_ne_self _⟩, fun b hb => ?_, q⟩
    have e' : b = s1.heap.objs.size + 1 ∨ b = s1.heap.objs.size := by simpa using hb
    have hle : s1.heap.objs.size ≤ b := by
      rcases e' with z | z
      · rw [z]; exact Nat.le_add_right _ _
      · rw [z]; exact Nat.le_refl _
    exact I1.fpOk hle (I1.hok.fresh hle)
  cases tp with
  | true =>
    obtain ⟨its, rv, p, hz⟩ := I1.tuple hq
    rcases hus with ⟨rfl, rfl⟩ | ⟨t, rfl⟩
    · exact enum_begins1 (begins_tuple a its.toArray) p fun h' he ho hsz hk => fin h' he ⟨_, ho, rfl, rfl⟩ hk
    · exact enum_begins (begins_tuple a its.toArray) p hk.1 hk.2 fun h' he ho hsz hk => fin h' he ⟨_, ho, rfl, rfl⟩ hk
  | false =>
    obtain ⟨its, rv, p, hz⟩ := I1.list hq
    rcases hus with ⟨rfl, rfl⟩ | ⟨t, rfl⟩
    · exact enum_begins1 (begins_list a its.toArray) p.isList fun h' he ho hsz hk => fin h' he ⟨_, ho, rfl, rfl⟩ hk
    · exact enum_begins (begins_list a its.toArray) p.isList hk.1 hk.2 fun h' he ho hsz hk => fin h' he ⟨_, ho, rfl, rfl⟩ hk
theorem pi_enumC1 {X : Cx} {e : Expr} {ta : TA} {p pos tpos : Pos} {elts : List Expr} {kk : Nat} (hg : Gl X "enumerate") (hm : X.mg "enumerate" = none) (ha : PA X [e] ta) (hs : starEach [e] X.env = [(false, eval e X.env)] := by rfl) :
    PI X (.Tuple elts kk tpos) (.Call (.Name "enumerate" p) [e] [] pos) (iEnumC X.K ta) := by
  refine ⟨fun pins s σ H R I h => ?_⟩
  refine Call_ (ld_blt I hg hm boot_enumerate (PyProof.Rows.callWith_type1 (thn (ha.run pos pins s σ H _ I h) fun us s1 ⟨vs, H1, I1, r1, q1⟩ => ?_) hs rfl))
  obtain ⟨tp, a, xs, k, ex, hk, hq, q⟩ := q1
  refine enum_go I1 hq q hk ?_
  rcases ex with ⟨rfl, rfl⟩ | rfl
  · obtain ⟨u, rfl, rx⟩ := vals1 r1
    obtain rfl : u = .ref a := rx
    exact .inl ⟨rfl, rfl⟩
  · obtain ⟨u1, u2, rfl, r2, r3⟩ := vals2 r1
    obtain rfl : u1 = .ref a := r2
    obtain ⟨t, rfl⟩ := r3
    exact .inr ⟨t, rfl⟩
def enumE (k : Int) (xs : List PyData) : List EV := xs.zipIdx.map fun p => .dat (.tuple [.int (k + (p.2 : Nat)), p.1])
theorem enumE_map {α : Type} (k : Int) (en : α → PyData) (as : List α) : enumE k (as.map en) = as.zipIdx.map fun p => EV.dat (.tuple [.int (k + (p.2 : Nat)), en p.1]) := by
  unfold enumE
  rw [List.zipIdx_map, List.map_map]
  rfl
theorem walk_enumG {K : PySem.W.Frag} {s0 : Wd} {N0 : Nat} {tp : Bool} {a : Addr} {k : Int} {xs : List PyData} {G : Mu → Prop} (hd : ∀ s (μ : Mu), Ext s0 N0 s μ.length → Rep K s μ → G μ → ∃ vs : List V, Src K tp s.H a vs ∧ DRs K s.F vs xs) :
    WalkS K (Itn K tp a k) s0 N0 (enumE k xs) G := by
  intro n s μ x R hG
  obtain ⟨vs, hs, hv⟩ := hd s μ x R hG
  have hl : (enumE k xs).length = xs.length := by unfold enumE; rw [List.length_map, List.length_zipIdx]
  have l1 := hv.length
  refine ⟨fun hn => ⟨vs, vs[n]'(by omega), hs, by simp⟩, ⟨vs, hs, by omega⟩, fun v H' hn hy => ?_⟩
  obtain ⟨T, y, rfl, hT, rfl, e⟩ := hy
  obtain ⟨d1, f1, g1⟩ := hv.getV (e _ hs)
  have kF : Same s.F (upd s.F T (.tup [.int (k + (n : Nat)), y])) := fun a u q => by rw [upd_ne (ne_of_none q (R.notF hT))]; exact q
  refine ⟨{ s with H := upd s.H T (.tup [.int (k + (n : Nat)), y]), F := upd s.F T (.tup [.int (k + (n : Nat)), y]) }, .dat (.tuple [.int (k + (n : Nat)), d1]), rfl, ?_, rfl, (Ext.refl s μ.length).putF R hT, R.putF hT, .tup upd_same (.cons (.int _) (.cons (g1.mono kF) .nil))⟩
  unfold enumE
  rw [List.getElem?_map, List.getElem?_zipIdx, f1]
  simp
theorem walk_enumC {K : PySem.W.Frag} {s0 : Wd} {N0 : Nat} {tp : Bool} {a : Addr} {k : Int} {vs : List V} {xs : List PyData} (hd : ∀ s (μ : Mu), Ext s0 N0 s μ.length → Rep K s μ → Src K tp s.H a vs ∧ DRs K s.F vs xs) :
    WalkS K (Itn K tp a k) s0 N0 (enumE k xs) fun _ => True := walk_enumG fun s μ x R _ => ⟨vs, hd s μ x R⟩
def seqE (r : RI) (k : Int) (n : Nat) (μ : Mu) (c : Option Cell) : Prop := match c with
  | some (.lst xs) => r (enumE k xs) (fun μ' => μ'[n]? = some (.lst xs)) μ
  | some (.frz xs) => r (enumE k xs) (fun μ' => μ'[n]? = some (.frz xs)) μ
  | _ => False
def enumK (r : RI) (es : List EV) (μ1 : Mu) : Prop := match es with
  | [.dat (.tuple xs)] => r (enumE 0 xs) (fun _ => True) μ1
  | [.dat (.list xs)] => r (enumE 0 xs) (fun _ => True) μ1
  | [.ro xs] => r (enumE 0 xs) (fun _ => True) μ1
  | [.dat (.tuple xs), .dat (.int k)] => (-1000000 ≤ k ∧ k ≤ 1000000) ∧ r (enumE k xs) (fun _ => True) μ1
  | [.dat (.list xs), .dat (.int k)] => (-1000000 ≤ k ∧ k ≤ 1000000) ∧ r (enumE k xs) (fun _ => True) μ1
  | [.loc n] => seqE r 0 n μ1 μ1[n]?
  | [.loc n, .dat (.int k)] => (-1000000 ≤ k ∧ k ≤ 1000000) ∧ seqE r k n μ1 μ1[n]?
  | _ => False
def iEnumD (t : TDA) : TDI := fun η μ r E => t η μ (fun es μ1 => enumK r es μ1) E
section
variable {t : TDA} {η : DEnv} {μ : Mu} {r : RI} {E : XQ} {xs : List PyData} {k : Int}
theorem x_iEnumD : iEnumD t η μ r E = t η μ (fun es μ1 => enumK r es μ1) E := Eq.trans rfl rfl
theorem enumK_l : enumK r [.dat (.list xs)] μ = r (enumE 0 xs) (fun _ => True) μ := Eq.trans rfl rfl
end
theorem enum_sem {K : PySem.W.Frag} {s s1 : Wd} {N : Nat} {μ1 : Mu} {es : List EV} {vs : List V} {r : RI} {R : It → Hp → Prop} (hk : enumK r es μ1) (x1 : Ext s N s1 μ1.length) (R1 : Rep K s1 μ1) (rs : VRs K s1 μ1.length s.H vs es)
    (l : ∀ (J : It) (items : List EV) (G : Mu → Prop) (μ' : Mu) (s' : Wd), r items G μ' → Ext s N s' μ'.length → Rep K s' μ' → WalkS K J s' μ'.length items G → R J s'.H) :
    ∃ (tp : Bool) (a : Addr) (xs : List V) (k : Int), (vs = [.ref a] ∧ k = 0 ∨ vs = [.ref a, .int k]) ∧ (-(2 ^ 63) ≤ k ∧ k < 2 ^ 63) ∧ Src K tp s1.H a xs ∧ R (Itn K tp a k) s1.H := by
  have tup : ∀ {x : V} {xs : List PyData} {k : Int}, DR K s1.F x (.tuple xs) → r (enumE k xs) (fun _ => True) μ1 → ∃ a ws, x = .ref a ∧ Src K true s1.H a ws ∧ R (Itn K true a k) s1.H := fun rx hr => by
    cases rx with
    | @tup a ws _ hb hs => exact ⟨a, ws, rfl, SqT.of (R1.sub _ _ hb), l _ _ _ μ1 s1 hr x1 R1 (walk_enumC (vs := ws) fun s2 μ2 x R2 => ⟨SqT.of (R2.sub _ _ (x.f _ _ hb)), hs.mono x.f⟩)⟩
  have lst : ∀ {x : V} {xs : List PyData} {k : Int}, DR K s1.F x (.list xs) → r (enumE k xs) (fun _ => True) μ1 → ∃ a ws, x = .ref a ∧ Src K false s1.H a ws ∧ R (Itn K false a k) s1.H := fun rx hr => by
    cases rx with
    | @lst a ws _ hb hs => exact ⟨a, ws, rfl, SqL.of (R1.sub _ _ hb), l _ _ _ μ1 s1 hr x1 R1 (walk_enumC (vs := ws) fun s2 μ2 x R2 => ⟨SqL.of (R2.sub _ _ (x.f _ _ hb)), hs.mono x.f⟩)⟩
  have loc : ∀ {x : V} {n : Nat} {k : Int}, VR K s1 μ1.length x (.loc n) → seqE r k n μ1 μ1[n]? → ∃ a ws, x = .ref a ∧ Src K false s1.H a ws ∧ R (Itn K false a k) s1.H := fun {x n k} rx hr => by
    obtain ⟨hn, rfl⟩ := rx
    unfold seqE at hr
    split at hr
    · rename_i xs hc
      obtain ⟨_, vs, a1, a2⟩ := R1.cell n _ hc
      refine ⟨_, vs, rfl, SqL.of a1, l _ _ _ μ1 s1 hr x1 R1 (walk_enumG fun s2 μ2 x R2 g => ?_)⟩
      rw [← x.l n hn]
      obtain ⟨_, vs2, b1, b2⟩ := R2.cell n _ g
      exact ⟨vs2, SqL.of b1, b2⟩
    · rename_i xs hc
      obtain ⟨vs, a1, a2⟩ := R1.cell n _ hc
      refine ⟨_, vs, rfl, SqL.of (R1.sub _ _ a1), l _ _ _ μ1 s1 hr x1 R1 (walk_enumG fun s2 μ2 x R2 g => ?_)⟩
      rw [← x.l n hn]
      obtain ⟨vs2, b1, b2⟩ := R2.cell n _ g
      exact ⟨vs2, SqL.of (R2.sub _ _ b1), b2⟩
    · exact hr.elim
  unfold enumK at hk
  split at hk
  · cases rs with
    | cons rx fx rr =>
      cases rr
      obtain ⟨a, ws, rfl, h1, h2⟩ := tup rx hk
      exact ⟨true, a, ws, 0, .inl ⟨rfl, rfl⟩, by decide, h1, h2⟩
  · cases rs with
    | cons rx fx rr =>
      cases rr
      obtain ⟨a, ws, rfl, h1, h2⟩ := lst rx hk
      exact ⟨false, a, ws, 0, .inl ⟨rfl, rfl⟩, by decide, h1, h2⟩
  · cases rs with
    | cons rx fx rr =>
      cases rr
      obtain ⟨a, ws, rfl, h1, h2⟩ := rx
      exact ⟨false, a, ws, 0, .inl ⟨rfl, rfl⟩, by decide, R1.sub.seq h1, l _ _ _ μ1 s1 hk x1 R1 (walk_enumC (vs := ws) fun s2 μ2 x R2 => ⟨R2.sub.seq (x.f.seq h1), h2.mono x.f⟩)⟩
  · cases rs with
    | cons rx fx rr =>
      cases rr with
      | cons ry fy rr =>
        cases rr
        obtain ⟨a, ws, rfl, h1, h2⟩ := tup rx hk.2
        rw [vr_i ry]
        exact ⟨true, a, ws, _, .inr rfl, ⟨by have := hk.1.1; omega, by have := hk.1.2; omega⟩, h1, h2⟩
  · cases rs with
    | cons rx fx rr =>
      cases rr with
      | cons ry fy rr =>
        cases rr
        obtain ⟨a, ws, rfl, h1, h2⟩ := lst rx hk.2
        rw [vr_i ry]
        exact ⟨false, a, ws, _, .inr rfl, ⟨by have := hk.1.1; omega, by have := hk.1.2; omega⟩, h1, h2⟩
  · cases rs with
    | cons rx fx rr =>
      cases rr
      obtain ⟨a, ws, rfl, h1, h2⟩ := loc rx hk
      exact ⟨false, a, ws, 0, .inl ⟨rfl, rfl⟩, by decide, h1, h2⟩
  · cases rs with
    | cons rx fx rr =>
      cases rr with
      | cons ry fy rr =>
        cases rr
        obtain ⟨a, ws, rfl, h1, h2⟩ := loc rx hk.2
        rw [vr_i ry]
        exact ⟨false, a, ws, _, .inr rfl, ⟨by have := hk.1.1; omega, by have := hk.1.2; omega⟩, h1, h2⟩
  · exact hk.elim
theorem di_enum1 {X : Cx} {W : WX} {a : Expr} {t : TDA} {p pos tpos : Pos} {elts : List Expr} {kk : Nat} (hg : Gl X "enumerate") (hm : X.mg "enumerate" = none) (ha : DA X W [a] t) (hs : starEach [a] X.env = [(false, eval a X.env)] := by rfl) :
    DI X W (.Tuple elts kk tpos) (.Call (.Name "enumerate" p) [a] [] pos) (iEnumD t) := by
  obtain ⟨t1, p1, g1⟩ := ha.ex
  exact ⟨_, pi_enumC1 hg hm p1 hs, fun s σ η μ R r E S hq l lx => g1 s σ η μ _ _ E S hq (fun es μ1 vs s1 hk x1 R1 rs => enum_sem hk x1 R1 rs l) lx⟩
end DL
set_option Elab.async false
set_option linter.all false
set_option maxRecDepth 100000
set_option maxHeartbeats 4000000
namespace DL
open PySem PySem.Spec PyProof.Rows L2
/-! ### x += y -/
/-! ### abs -/
/-! ### xs[::-1] of a tuple -/
section
variable {prog : Program} {w : World} {A : Around} {E : Value → Shared → Prop} {s : Shared}
theorem adjust_rev (n : Nat) : Builtin.Slice.sliceAdjust none none (-1) (n : Int) = ((n : Int) - 1, -1) := by
  unfold Builtin.Slice.sliceAdjust
  simp
theorem places_rev (n : Nat) : Builtin.Slice.slicePlaces ((n : Int) - 1) (-1) (-1) = n := by
  unfold Builtin.Slice.slicePlaces
  have h1 : ¬ ((-1 : Int) > 0) := by decide
  simp only [h1, if_false]
  by_cases h : (n : Int) - 1 > -1
  · rw [if_pos h, show (-(-1) : Int) = 1 by decide, Int.ediv_one]
    omega
  · rw [if_neg h]
    omega
theorem sliceApplied_rev {sl : Addr} {vl vu vs : Value} {n : Nat} {Q : Int × Int × Nat → Shared → Prop} (hs : s.heap.IsSliceOf sl vl vu vs) (pl : IsPart vl none) (pu : IsPart vu none) (ps : IsPart vs (some (-1)))
    (h : Q ((n : Int) - 1, -1, n) s) : wpAny (model prog w) A (Builtin.Slice.sliceApplied (.ref sl) (pure (n : Int))) Q E s := by
  obtain ⟨os, hos, hcs, hds⟩ := id hs
  unfold Builtin.Slice.sliceApplied Builtin.Slice.sliceFields
  refine wpAny_bind (wpAny_bind (wpAny_field hos hds (x := vl) rfl (wpAny_bind (wpAny_field hos hds (x := vu) rfl (wpAny_bind (wpAny_field hos hds (x := vs) rfl (wpAny_pure ?_)))))))
  refine wpAny_bind (HT.slicePart_ ps ?_)
  show wpAny _ _ (if ((-1 : Int) == 0) = true then _ else _) _ _ s
  rw [if_neg (by decide)]
  refine wpAny_bind (HT.slicePart_ pl (wpAny_bind (HT.slicePart_ pu (wpAny_bind (wpAny_pure ?_)))))
  show wpAny _ _ (match Builtin.Slice.sliceAdjust none none (-1) (n : Int) with | (lo, hi) => pure (lo, (-1 : Int), Builtin.Slice.slicePlaces lo hi (-1))) _ _ s
  rw [adjust_rev n]
  show wpAny _ _ (pure ((n : Int) - 1, (-1 : Int), Builtin.Slice.slicePlaces ((n : Int) - 1) (-1) (-1))) _ _ s
  rw [places_rev]
  exact wpAny_pure h
theorem pick_rev (xs : Array Value) : ((List.range xs.size).filterMap fun (m : Nat) => xs[(((xs.size : Int) - 1) + (m : Int) * (-1)).toNat]?).toArray = xs.toList.reverse.toArray := by
  have e : (fun (m : Nat) => xs[(((xs.size : Int) - 1) + (m : Int) * (-1)).toNat]?) = (fun i => xs[i]?) ∘ fun m => xs.size - 1 - m := by
    funext m
    have : (((xs.size : Int) - 1) + (m : Int) * (-1)).toNat = xs.size - 1 - m := by omega
    show xs[_]? = xs[_]?
    rw [this]
  rw [e, ← List.filterMap_map, PySem.W.krv_range, List.filterMap_reverse, PySem.W.krv_all]
theorem getItem_tuple_rev {t sl : Addr} {items : Array Value} {vl vu vs : Value} {Q : Value → Shared → Prop} (ht : IsTup s.heap t items) (hs : s.heap.IsSliceOf sl vl vu vs) (pl : IsPart vl none) (pu : IsPart vu none) (ps : IsPart vs (some (-1)))
    (h : Q (.ref s.heap.objs.size) { s with heap := s.heap.push { cls := .type "tuple", data := .seq items.toList.reverse.toArray } })
    (hsz : items.size ≤ sizeLine) : wpAny (model prog w) A (getItem (.ref t) (.ref sl)) Q E s := by
  have htake : sizeOk (.seq items.toList.reverse.toArray) := by
    show items.toList.reverse.toArray.size ≤ sizeLine
    rw [List.size_toArray, List.length_reverse, Array.length_toList]
    exact hsz
  obtain ⟨os, hos, hcs, hds⟩ := id hs
  have hTs : s.TypeIs (.ref sl) "slice" := ⟨os, hos, hcs⟩
  unfold getItem
  try with_reducible refine wpAny_holding ?_
  first | refine wpAny_bind (wpAny_pure ?_) | skip
  refine wpAny_bind (wpAny_sequenceKey ht.typeIs (by decide) ?_)
  refine wpAny_bind (wpAny_callSpecial?_slot (name := Str.ofString "__getitem__") ht.typeIs PyProof.Rows.slot_tuple_getitem
    (wpAny_call_entry PyProof.Rows.slot_tuple_getitem ht.typeIs entry_tuple_getitem ?_ (args_tuple_getitem _ _)))
  show wpAny _ _ (Builtin.Tuple.tupleItemsOf (.ref t) >>= _) _ _ s
  refine wpAny_bind (tupleItemsOf_ ht ?_)
  refine wpAny_bind (wpAny_typeOf hTs ?_)
  rw [if_pos (by decide)]
  refine wpAny_bind (sliceApplied_rev hs pl pu ps ?_)
  have hno : ¬ ((((items.size : Int) - 1) == 0 && (-1 : Int) == 1 && items.size == items.size) = true) := by
    rw [show ((-1 : Int) == 1) = false by decide, Bool.and_false, Bool.false_and]
    exact Bool.false_ne_true
  show wpAny _ _ (if (((items.size : Int) - 1) == 0 && (-1 : Int) == 1 && items.size == items.size) = true then _ else _) _ _ s
  rw [if_neg hno, pick_rev items]
  first
    | exact wpAny_bind (m := Builtin.Tuple.tupleExact _) (wpAny_newObj_type (wpAny_pure ⟨_, rfl, wpAny_pure h⟩) htake)
    | exact wpAny_bind (m := Builtin.Tuple.tupleExact _) (wpAny_newObj_type (wpAny_bind (wpAny_pure (wpAny_pure ⟨_, rfl, wpAny_pure h⟩))) htake)
    | exact wpAny_bind (wpAny_bind (m := Builtin.Tuple.tupleExact _) (wpAny_newObj_type (wpAny_pure (wpAny_pure ⟨_, rfl, wpAny_pure h⟩)) htake))
    | exact wpAny_bind (wpAny_bind (m := Builtin.Tuple.tupleExact _) (wpAny_newObj_type (wpAny_pure ⟨_, rfl, wpAny_pure h⟩) htake))
end
section
variable {X : Cx}
def tRevA (K : PySem.W.Frag) (te : TE) : TE := fun σ H Q => te σ H fun x H1 => ∃ a xs, x = .ref a ∧ ((SqL K H1 a xs ∧ ∀ p, H1 p = none → Q (.ref p) (upd H1 p (.lst xs.reverse))) ∨ (SqT K H1 a xs ∧ ∀ p, H1 p = none → Q (.ref p) (upd H1 p (.tup xs.reverse))))
theorem pe_revA {e : Expr} {te : TE} {k : Nat} {p1 p2 p3 pos : Pos} (he : PE X e te) : PE X (.Subscript e (.Slice none none (some (.UnaryOp .USub (.Constant (.int 1) k p1) p2)) p3) pos) (tRevA X.K te) := by
  refine ⟨fun pins s σ H Q I h => ?_⟩
  refine Subscript_ (thn (he.run pins s σ H _ I h) fun v s1 ⟨x, H1, I1, r1, q1⟩ => ?_)
  obtain ⟨a, xs, ex, q⟩ := q1
  subst ex
  cases r1
  have hst : PO X (some (.UnaryOp .USub (.Constant (.int 1) k p1) p2)) (tPart (tUn (rU fun i => .int (-i)) (tC (.int 1)))) := po_some (pe_un un_neg pe_int)
  refine wpAny_Slice (thn (po_none.run pins s1 σ H1 (fun o H2 => o = none ∧ H2 = H1) I1 ⟨rfl, rfl⟩) fun vl s2 ⟨l, H2, I2, pl, el, e2⟩ => ?_)
  subst el e2
  refine thn (po_none.run pins s2 σ H2 (fun o H3 => o = none ∧ H3 = H2) I2 ⟨rfl, rfl⟩) fun vu s3 ⟨u, H3, I3, pu, eu, e3⟩ => ?_
  subst eu e3
  refine thn (hst.run pins s3 σ H3 (fun o H4 => o = some (-1) ∧ H4 = H3) I3 ⟨1, rfl, -1, rfl, rfl, rfl⟩) fun vs s4 ⟨o, H4, I4, ps, eo, e4⟩ => ?_
  subst eo e4
  have I5 : Inv X pins σ H4 { s4 with heap := s4.heap.push { cls := .type "slice", data := .fields #[vl, vu, vs] } } := I4.kept (t' := s4.toks) fun b ob q => Heap.get?_push_of_some _ q
  rcases q with ⟨hx, q⟩ | ⟨hx, q⟩
  · obtain ⟨its, r, ht, hz⟩ := I5.list hx
    have hlen := r.length
    show wpAny (model X.prog X.w) X.A (subscriptTail e (.Slice none none (some (.UnaryOp .USub (.Constant (.int 1) k p1) p2)) p3) (.ref a) (.ref s4.heap.objs.size)) (EP X pins σ Q) X.xe { s4 with heap := s4.heap.push { cls := .type "slice", data := .fields #[vl, vu, vs] } }
    refine tail_any (ops := [.ref a, .ref s4.heap.objs.size]) ht.isList.typeIs (PySem.slot_list_getitem.lookup) ?_ (by with_unfolding_all rfl)
    refine wpAny_getItem_list_slice ht.isList (Heap.IsSliceOf.new _ vl vu vs) pl pu ps (by decide) ?_ (by rw [List.size_toArray]; omega)
    rw [PySem.W.krv_pick]
    refine ⟨.ref _, _, I5.laid (t' := s4.toks) (o := .lst xs.reverse) (fun b ob q => Heap.get?_push_of_some _ q) (Nat.le_refl _) ?_, rfl, q _ (I5.hok.fresh (Nat.le_refl _))⟩
    exact ⟨by rw [List.length_reverse]; exact hz, _, 0, r.reverse, Heap.get?_push_size _ rfl⟩
  · obtain ⟨its, r, ht, hz⟩ := I5.tuple hx
    have hlen := r.length
    show wpAny (model X.prog X.w) X.A (subscriptTail e (.Slice none none (some (.UnaryOp .USub (.Constant (.int 1) k p1) p2)) p3) (.ref a) (.ref s4.heap.objs.size)) (EP X pins σ Q) X.xe { s4 with heap := s4.heap.push { cls := .type "slice", data := .fields #[vl, vu, vs] } }
    refine tail_any (ops := [.ref a, .ref s4.heap.objs.size]) ht.typeIs (PyProof.Rows.slot_tuple_getitem.lookup) ?_ (by with_unfolding_all rfl)
    refine getItem_tuple_rev ht (Heap.IsSliceOf.new _ vl vu vs) pl pu ps ?_ (by rw [List.size_toArray]; omega)
    refine ⟨.ref _, _, I5.laid (t' := s4.toks) (o := .tup xs.reverse) (fun b ob q => Heap.get?_push_of_some _ q) (Nat.le_refl _) ?_, rfl, q _ (I5.hok.fresh (Nat.le_refl _))⟩
    exact ⟨by rw [List.length_reverse]; exact hz, _, r.reverse, IsTup.new _ _⟩
end
def revK (q : PQ) (μ1 : Mu) (e : EV) : Prop := match e with
  | .dat (.tuple xs) => q (.dat (.tuple xs.reverse)) μ1
  | e => match lstOf μ1 e with
    | some xs => q (.new xs.reverse) μ1
    | none => False
def dRevL (t : TDE) : TDE := fun η μ q E => t η μ (fun e μ1 => revK q μ1 e) E
theorem DRs.reverse {K : PySem.W.Frag} {F : Hp} {vs : List V} {ds : List PyData} (h : DRs K F vs ds) : DRs K F vs.reverse ds.reverse := by
  induction vs generalizing ds with
  | nil => cases h; exact .nil
  | cons v vs ih =>
    cases h with
    | cons h hs =>
      rw [List.reverse_cons, List.reverse_cons]
      exact (ih hs).append (.cons h .nil)
theorem de_revL {X : Cx} {W : WX} {e : Expr} {te : TDE} {k : Nat} {p1 p2 p3 pos : Pos} (h : DE X W e te) : DE X W (.Subscript e (.Slice none none (some (.UnaryOp .USub (.Constant (.int 1) k p1) p2)) p3) pos) (dRevL te) := by
  obtain ⟨t, p, g⟩ := h.ex
  refine de_pe (pe_revA p) fun s σ η μ Q q E S hq l lx => g s σ η μ _ _ E S hq (fun ex μ1 x s1 hk x1 R1 r1 f1 => ?_) lx
  unfold revK at hk
  split at hk
  · rename_i ds
    obtain ⟨a, vs, rfl, hp, hv⟩ := tup_ok R1 r1 (e := .dat (.tuple ds)) rfl
    exact ⟨a, vs, rfl, .inr ⟨hp, fun p3 hp3 => ans_tup R1 x1 l hk hv.reverse hp3⟩⟩
  · split at hk
    · rename_i xs hx
      obtain ⟨a, vs, rfl, hs, hv⟩ := lst_ok R1 r1 hx
      exact ⟨a, vs, rfl, .inl ⟨SqL.of hs, fun p hp => ans_new R1 x1 l hk hv.reverse hp⟩⟩
    · exact hk.elim
theorem x_dRevL {t : TDE} {η : DEnv} {μ : Mu} {q : PQ} {E : XQ} : dRevL t η μ q E = t η μ (fun e μ1 => revK q μ1 e) E := Eq.trans rfl rfl
theorem revK_t {q : PQ} {μ : Mu} {xs : List PyData} : revK q μ (.dat (.tuple xs)) = q (.dat (.tuple xs.reverse)) μ := Eq.trans rfl rfl
/-! ### xs.count(x), xs.index(x) -/
mutual
theorem plain_of : ∀ {d : PyData}, noD d = true → d.plain = true
  | .none, _ => by simp [PyData.plain]
  | .bool _, _ => by simp [PyData.plain]
  | .int _, _ => by simp [PyData.plain]
  | .str _, _ => by simp [PyData.plain]
  | .list xs, h => by simpa [PyData.plain] using plains_of (by simpa [noD] using h)
  | .tuple xs, h => by simpa [PyData.plain] using plains_of (by simpa [noD] using h)
  | .dict _, h => by simp [noD] at h
theorem plains_of : ∀ {ds : List PyData}, noDs ds = true → PyData.plainAll ds = true
  | [], _ => by simp [PyData.plainAll]
  | d :: ds, h => by
    simp [noDs] at h
    simp [PyData.plainAll, plain_of h.1, plains_of h.2]
end
/-! stepping x op= e -/
def augK (c : Option (Option EV)) (k : EV → Prop) : Prop := match c with
  | some (some x) => k x
  | _ => False
section
variable {i : Nat} {te : TDE} {o : OD} {v : TDS} {d : DEnds} {E : XQ} {η : DEnv} {μ : Mu}
theorem s_aug (h : augK η[i]? fun x => noNew x = true ∧ te η μ (fun y μ1 => o x y μ1 fun z μ2 => noNew z = true ∧ d.nx (η.set i (some z)) μ2) E) : sAug i te o d E η μ := by
  unfold sAug
  unfold augK at h
  exact h
theorem q_aug (h : augK η[i]? fun x => noNew x = true ∧ te η μ (fun y μ1 => o x y μ1 fun z μ2 => noNew z = true ∧ v d E (η.set i (some z)) μ2) E) : sSeq (sAug i te o) v d E η μ := s_aug (d := { d with nx := v d E }) h
end
end DL
set_option Elab.async false
set_option linter.all false
set_option maxRecDepth 100000
set_option maxHeartbeats 4000000
namespace DL
open PySem PySem.Spec PyProof.Rows L2
section
variable {μ : Mu} {q : PQ} {xs : List PyData} {n : Nat}
theorem lsA_t : oListA [.dat (.tuple xs)] μ q = q (.new xs) μ := Eq.trans rfl rfl
end
end DL
set_option Elab.async false
set_option linter.all false
set_option maxRecDepth 100000
set_option maxHeartbeats 4000000
namespace DL
open PySem PySem.Spec PyProof.Rows L2
/-! ### list(d.items()), d with tuple keys -/
/-! .. by data -/
theorem s_par {i j : Nat} {ta : TDA} {d : DEnds} {E : XQ} {η : DEnv} {μ : Mu} (h : ta η μ (fun es μ1 => match es with
  | [e1, e2] => noNew e1 = true ∧ noNew e2 = true ∧ d.nx ((η.set i (some e1)).set j (some e2)) μ1
  | _ => False) E) : sPar i j ta d E η μ := h
end DL
set_option Elab.async false
set_option linter.all false
set_option maxRecDepth 100000
set_option maxHeartbeats 4000000
namespace DL
open PySem PySem.Spec PyProof.Rows L2
/-! ### xs.clear() -/
end DL
set_option Elab.async false
set_option linter.all false
set_option maxRecDepth 100000
set_option maxHeartbeats 4000000
namespace DL
open PySem PyProof.Rows
/-! ### data in order -/
/-- the order of encoded items: Python's < -/
structure OrdE {α : Type} (en : α → PyData) (lt : α → α → Bool) : Prop where
  alike : ∀ a b, PySem.W.alike (en a) (en b) = true
  lts : ∀ a b, PySem.W.dataLt (en a) (en b) = lt a b
  eqs : ∀ a b, PyData.eqv (en a) (en b) = true ↔ a = b
  irr : ∀ a, lt a a = false
  tri : ∀ a b, lt a b = true ∨ a = b ∨ lt b a = true
  tr : ∀ a b c, lt a b = true → lt b c = true → lt a c = true
section
variable {α β γ δ : Type} {en : α → PyData} {lt : α → α → Bool} {en2 : β → PyData} {lt2 : β → β → Bool} {en3 : γ → PyData} {lt3 : γ → γ → Bool} {en4 : δ → PyData} {lt4 : δ → δ → Bool}
theorem OrdE.asym (O : OrdE en lt) {a b : α} (h : lt a b = true) : lt b a = false := by
  cases h2 : lt b a with
  | false => rfl
  | true =>
    have := O.tr a b a h h2
    rw [O.irr] at this
    cases this
theorem ord_int : OrdE PyData.int fun a b : Int => decide (a < b) where
  alike a b := by simp [PySem.W.alike]
  lts a b := PySem.W.dataLt_int a b
  eqs a b := by simp [PyData.eqv]
  irr a := by simp
  tri a b := by simp; omega
  tr a b c h1 h2 := by simp at *; omega
theorem strx {a b : Str} (h : a.cps.toList = b.cps.toList) : a = b := by
  cases a; cases b
  simp only at h
  rw [Array.toList_inj] at h
  rw [h]
theorem ord_str : OrdE PyData.str fun a b : Str => decide (a.cps.toList < b.cps.toList) where
  alike a b := by simp [PySem.W.alike]
  lts a b := PySem.W.dataLt_str a b
  eqs a b := by simp [PyData.eqv]
  irr a := by simp [List.lt_irrefl]
  tri a b := by
    simp only [decide_eq_true_eq]
    by_cases h1 : a.cps.toList < b.cps.toList
    · exact .inl h1
    · by_cases h2 : b.cps.toList < a.cps.toList
      · exact .inr (.inr h2)
      · exact .inr (.inl (strx (List.le_antisymm (List.not_lt.mp h2) (List.not_lt.mp h1))))
  tr a b c h1 h2 := by
    simp only [decide_eq_true_eq] at *
    exact List.lt_trans h1 h2
/-- the first that differs decides -/
def lx2 [DecidableEq α] (lt : α → α → Bool) (lt2 : β → β → Bool) (p q : α × β) : Bool := if p.1 = q.1 then lt2 p.2 q.2 else lt p.1 q.1
section
variable [DecidableEq α]
theorem lx2_tri (O : OrdE en lt) (O2 : ∀ a b, lt2 a b = true ∨ a = b ∨ lt2 b a = true) (p q : α × β) : lx2 lt lt2 p q = true ∨ p = q ∨ lx2 lt lt2 q p = true := by
  obtain ⟨a, b⟩ := p
  obtain ⟨c, d⟩ := q
  unfold lx2
  simp only
  by_cases h : a = c
  · subst h
    simp only [if_true, Prod.mk.injEq, true_and]
    exact O2 b d
  · rw [if_neg h, if_neg (fun z => h z.symm)]
    rcases O.tri a c with z | z | z
    · exact .inl z
    · exact absurd z h
    · exact .inr (.inr z)
theorem lx2_tr (O : OrdE en lt) (O2 : ∀ a b c, lt2 a b = true → lt2 b c = true → lt2 a c = true) (p q r : α × β) (h1 : lx2 lt lt2 p q = true) (h2 : lx2 lt lt2 q r = true) : lx2 lt lt2 p r = true := by
  obtain ⟨a, b⟩ := p
  obtain ⟨c, d⟩ := q
  obtain ⟨e, f⟩ := r
  unfold lx2 at *
  simp only at *
  by_cases e1 : a = c
  · subst e1
    rw [if_pos rfl] at h1
    by_cases e2 : a = e
    · subst e2
      rw [if_pos rfl] at h2 ⊢
      exact O2 _ _ _ h1 h2
    · rw [if_neg e2] at h2 ⊢
      exact h2
  · rw [if_neg e1] at h1
    by_cases e2 : c = e
    · subst e2
      rw [if_neg e1]
      exact h1
    · rw [if_neg e2] at h2
      have h3 := O.tr _ _ _ h1 h2
      rw [if_neg (fun z => by rw [z, O.irr] at h3; cases h3)]
      exact h3
theorem lx2_irr (O2 : ∀ a, lt2 a a = false) (p : α × β) : lx2 lt lt2 p p = false := by
  unfold lx2
  rw [if_pos rfl]
  exact O2 _
end
/-- rows of data in order: what the first of a tuple's items tells, then the others -/
structure OrdR (rn : α → List PyData) (lt : α → α → Bool) : Prop where
  alike : ∀ a b, PySem.W.alikeAll (rn a) (rn b) = true
  lts : ∀ a b, PySem.W.rowLt (rn a) (rn b) = lt a b
  eqs : ∀ a b, PyData.eqvAll (rn a) (rn b) = true ↔ a = b
  irr : ∀ a, lt a a = false
  tri : ∀ a b, lt a b = true ∨ a = b ∨ lt b a = true
  tr : ∀ a b c, lt a b = true → lt b c = true → lt a c = true
theorem rowLt_nil : PySem.W.rowLt [] [] = false := PyProof.Rows.lex_irrefl _
theorem rowLt_cons {x y : PyData} (h : PySem.W.alike x y = true) (xs ys : List PyData) : PySem.W.rowLt (x :: xs) (y :: ys) = if PyData.eqv x y = true then PySem.W.rowLt xs ys else PySem.W.dataLt x y := PySem.W.dataLt_cons h xs ys
theorem OrdE.one (O : OrdE en lt) : OrdR (fun a => [en a]) lt where
  alike a b := by simp [PySem.W.alikeAll, O.alike]
  lts a b := by
    rw [rowLt_cons (O.alike a b), rowLt_nil, O.lts]
    by_cases h : a = b
    · rw [if_pos ((O.eqs a b).mpr h), h, O.irr]
    · rw [if_neg (fun z => h ((O.eqs a b).mp z))]
  eqs a b := by simp [PyData.eqvAll, O.eqs]
  irr := O.irr
  tri := O.tri
  tr := O.tr
theorem OrdE.cons [DecidableEq α] (O : OrdE en lt) {rn : β → List PyData} (O2 : OrdR rn lt2) : OrdR (fun p : α × β => en p.1 :: rn p.2) (lx2 lt lt2) where
  alike a b := by simp [PySem.W.alikeAll, O.alike, O2.alike]
  lts a b := by
    rw [rowLt_cons (O.alike _ _), O2.lts, O.lts]
    unfold lx2
    by_cases h : a.1 = b.1
    · rw [if_pos ((O.eqs _ _).mpr h), if_pos h]
    · rw [if_neg (fun z => h ((O.eqs _ _).mp z)), if_neg h]
  eqs a b := by simp [PyData.eqvAll, O.eqs, O2.eqs, Prod.ext_iff]
  irr p := lx2_irr O2.irr p
  tri p q := lx2_tri O O2.tri p q
  tr p q r := lx2_tr O O2.tr p q r
theorem OrdR.tup {rn : α → List PyData} (O : OrdR rn lt) : OrdE (fun a => .tuple (rn a)) lt where
  alike a b := by simp only [PySem.W.alike]; exact O.alike a b
  lts a b := (PySem.W.dataLt_tuple _ _).trans (O.lts a b)
  eqs a b := by rw [PyData.eqv]; exact O.eqs a b
  irr := O.irr
  tri := O.tri
  tr := O.tr
theorem OrdE.t2 [DecidableEq α] (O : OrdE en lt) (O2 : OrdE en2 lt2) : OrdE (fun p : α × β => .tuple [en p.1, en2 p.2]) (lx2 lt lt2) := (O.cons O2.one).tup
theorem OrdE.t4 [DecidableEq α] [DecidableEq β] [DecidableEq γ] (O : OrdE en lt) (O2 : OrdE en2 lt2) (O3 : OrdE en3 lt3) (O4 : OrdE en4 lt4) : OrdE (fun p : α × β × γ × δ => .tuple [en p.1, en2 p.2.1, en3 p.2.2.1, en4 p.2.2.2]) (lx2 lt (lx2 lt2 (lx2 lt3 lt4))) := (O.cons (O2.cons (O3.cons O4.one))).tup
/-! rising lists -/
def Rise (lt : α → α → Bool) (l : List α) : Prop := l.Pairwise fun a b => lt a b = true
theorem Rise.nodup (O : OrdE en lt) {l : List α} (h : Rise lt l) : l.Nodup := List.Pairwise.imp (fun {a b} h e => by rw [e, O.irr] at h; cases h) h
theorem rise_ext (O : OrdE en lt) : ∀ {l m : List α}, Rise lt l → Rise lt m → (∀ a, a ∈ l ↔ a ∈ m) → l = m
  | [], [], _, _, _ => rfl
  | [], b :: m, _, _, h => absurd ((h b).mpr (by simp)) (by simp)
  | a :: l, [], _, _, h => absurd ((h a).mp (by simp)) (by simp)
  | a :: l, b :: m, hl, hm, h => by
    obtain ⟨l1, l2⟩ := List.pairwise_cons.mp hl
    obtain ⟨m1, m2⟩ := List.pairwise_cons.mp hm
    have e : a = b := by
      rcases List.mem_cons.mp ((h a).mp (by simp)) with z | z
      · exact z
      · rcases List.mem_cons.mp ((h b).mpr (by simp)) with y | y
        · exact y.symm
        · have := O.tr _ _ _ (m1 a z) (l1 b y)
          rw [O.irr] at this
          cases this
    subst e
    refine congrArg (a :: ·) (rise_ext O l2 m2 fun c => ?_)
    constructor
    · intro hc
      rcases List.mem_cons.mp ((h c).mp (List.mem_cons_of_mem _ hc)) with z | z
      · subst z
        have := l1 c hc
        rw [O.irr] at this
        cases this
      · exact z
    · intro hc
      rcases List.mem_cons.mp ((h c).mpr (List.mem_cons_of_mem _ hc)) with z | z
      · subst z
        have := m1 c hc
        rw [O.irr] at this
        cases this
      · exact z
def leO (lt : α → α → Bool) (a b : α) : Bool := !lt b a
theorem leO_tot (O : OrdE en lt) (a b : α) : (leO lt a b || leO lt b a) = true := by
  unfold leO
  cases h : lt b a with
  | false => rfl
  | true => rw [O.asym h]; rfl
theorem leO_tr (O : OrdE en lt) (a b c : α) (h1 : leO lt a b = true) (h2 : leO lt b c = true) : leO lt a c = true := by
  unfold leO at *
  simp only [Bool.not_eq_true'] at *
  cases h : lt c a with
  | false => rfl
  | true =>
    rcases O.tri a b with z | z | z
    · rw [O.tr _ _ _ h z] at h2; cases h2
    · subst z; rw [h] at h2; cases h2
    · rw [z] at h1; cases h1
theorem sort_sorted (O : OrdE en lt) (l : List α) : (l.mergeSort (leO lt)).Pairwise fun a b => leO lt a b = true := List.pairwise_mergeSort (leO_tr O) (leO_tot O) l
theorem rise_sort (O : OrdE en lt) {l : List α} (h : l.Nodup) : Rise lt (l.mergeSort (leO lt)) := by
  have h1 := sort_sorted O l
  have h2 : (l.mergeSort (leO lt)).Nodup := (List.mergeSort_perm l _).nodup_iff.mpr h
  refine List.Pairwise.imp₂ (fun a b h3 h4 => ?_) h1 h2
  rcases O.tri a b with z | z | z
  · exact z
  · exact absurd z h4
  · unfold leO at h3; rw [z] at h3; cases h3
theorem sort_rise (O : OrdE en lt) {l : List α} (h : Rise lt l) : l.mergeSort (leO lt) = l :=
  rise_ext O (rise_sort O (h.nodup O)) h fun _ => List.mem_mergeSort
end
end DL
namespace DL
open PySem PySem.Spec PyProof.Rows L2
section
variable {α : Type} {en : α → PyData} {lt : α → α → Bool}
/-- the kinds that sorted takes -/
def SrtE (en : α → PyData) : Prop := (∀ a, ∃ x r, en a = .tuple (x :: r)) ∨ (∀ a, en a ≠ .none ∧ ∀ xs, en a ≠ .tuple xs)
theorem OrdE.alikeD (O : OrdE en lt) (h : SrtE en) (as : List α) : AlikeD (as.map en) := ⟨PySem.W.AllAlike.of O.alike, h.elim PySem.W.Sortable.tuples PySem.W.Sortable.others⟩
theorem OrdE.sort (O : OrdE en lt) (as : List α) : (as.map en).mergeSort leD = (as.mergeSort (leO lt)).map en := sort_enc fun a b => by
  show (!PySem.W.dataLt (en b) (en a)) = !lt b a
  rw [O.lts]
theorem Enc.deps {n : Nat} (h : Enc en n) (hn : n ≤ 60) (as : List α) : ∀ d ∈ as.map en, d.depth ≤ 60 := fun d hd => by
  obtain ⟨a, _, rfl⟩ := List.mem_map.mp hd
  exact Nat.le_trans (h.dep a) hn
variable {μ : Mu} {q : PQ} {n : Nat}
theorem OrdE.srt_t (O : OrdE en lt) (h : SrtE en) (E : Enc en n) (hn : n ≤ 60) {as : List α} : oSortD [.dat (.tuple (as.map en))] μ q = q (.new ((as.mergeSort (leO lt)).map en)) μ := by
  rw [DL.srt_t, O.sort]
  exact propext ⟨fun z => z.2.2, fun z => ⟨⟨noDs_map E.nod as, E.deps hn as⟩, O.alikeD h as, z⟩⟩
end
/-! ### sorted(set(xs)), xs a list of tuples of ints -/
def tupI (ns : List Int) : PyData := .tuple (ns.map .int)
theorem ints_v {K : PySem.W.Frag} {F : Hp} : ∀ {vs : List V} {ns : List Int}, DRs K F vs (ns.map PyData.int) → vs = ns.map V.int
  | _, [], .nil => rfl
  | _, _ :: _, .cons (.int _) hs => by rw [List.map_cons, ints_v hs]
theorem tups_v {K : PySem.W.Frag} {F : Hp} : ∀ {vs : List V} {as : List (List Int)}, DRs K F vs (as.map tupI) → ∃ ks : List (Addr × List Int), vs = ks.map (fun p => V.ref p.1) ∧ as = ks.map (·.2) ∧ ∀ p ∈ ks, F p.1 = some (.tup (p.2.map V.int))
  | _, [], .nil => ⟨[], rfl, rfl, fun p hp => by simp at hp⟩
  | _, a :: as, .cons (.tup (a := b) hF hh) hs => by
    obtain ⟨ks, rfl, rfl, h3⟩ := tups_v hs
    have e := ints_v hh
    subst e
    refine ⟨(b, a) :: ks, rfl, rfl, fun p hp => ?_⟩
    rcases List.mem_cons.mp hp with rfl | hp
    · exact hF
    · exact h3 p hp
theorem drs_int {K : PySem.W.Frag} {F : Hp} : ∀ ns : List Int, DRs K F (ns.map V.int) (ns.map PyData.int)
  | [] => .nil
  | n :: ns => .cons (.int n) (drs_int ns)
theorem drs_tups {K : PySem.W.Frag} {F : Hp} : ∀ L : List (Addr × List Int), (∀ p ∈ L, F p.1 = some (.tup (p.2.map V.int))) → DRs K F (L.map fun p => V.ref p.1) (L.map fun p => tupI p.2)
  | [], _ => .nil
  | p :: L, h => .cons (.tup (h p (by simp)) (drs_int _)) (drs_tups L fun q hq => h q (List.mem_cons_of_mem _ hq))
def oSortSet (e : EV) (μ : Mu) (q : PQ) : Prop := ∃ (as : List (List Int)) (d : Nat) (B : Int), lstOf μ e = some (as.map tupI) ∧ as.length < 64 ∧ 1 ≤ d ∧ (∀ a ∈ as, a.length = d ∧ TS.Bd B a) ∧
  ∀ L : List (List Int), L.Nodup → (∀ a, a ∈ L ↔ a ∈ as) → L.Pairwise (fun a b => TS.code B a ≤ TS.code B b) → q (.new (L.map tupI)) μ
def dSortSet (ta : TDE) : TDE := fun η μ q E => ta η μ (fun e μ1 => oSortSet e μ1 q) E
theorem de_sortSet {X : Cx} {W : WX} {a : Expr} {ta : TDE} {p p2 pos pos2 : Pos} (hc : X.calm = true) (hu : X.A.units + 64 < cLine) (hg : Gl X "sorted") (hm : X.mg "sorted" = none) (hv : bootBuiltins "sorted" = some (.builtin "sorted")) (hg2 : Gl X "set") (hm2 : X.mg "set" = none) (hv2 : bootBuiltins "set" = some (.type "set")) (ha : DE X W a ta)
    (na : starEach [a] X.env = (false, eval a X.env) :: starEach [] X.env := by rfl)
    (na2 : starEach [.Call (.Name "set" p2) [a] [] pos2] X.env = (false, eval (.Call (.Name "set" p2) [a] [] pos2) X.env) :: starEach [] X.env := by rfl) :
    DE X W (.Call (.Name "sorted" p) [.Call (.Name "set" p2) [a] [] pos2] [] pos) (dSortSet ta) := by
  obtain ⟨t1, p1, g1⟩ := ha.ex
  have P1 : PE X (.Call (.Name "set" p2) [a] [] pos2) _ := pe_callTy (cr_setOfT hc hu) hg2 hm2 hv2 (pa_cons p1 pa_nil na) (by decide) (by decide) na rfl
  refine de_pe (pe_callB (cr_sortedT hc) hg hm hv (pa_cons P1 pa_nil na2) (by decide) (by decide) na2 rfl) fun s σ η μ Q q E S hq l lx => ?_
  refine g1 s σ η μ _ _ E S hq (fun ev μ1 v s1 hk x1 R1 r1 f1 => ?_) lx
  obtain ⟨as, d, B, h1, h2, h3, h4, h5⟩ := hk
  obtain ⟨b, vs, rfl, hs, hv⟩ := lst_ok R1 r1 h1
  obtain ⟨ks, rfl, rfl, hF⟩ := tups_v hv
  refine ⟨b, ks, rfl, SqL.of hs, fun p hp => SqT.of (R1.sub _ _ (hF p hp)), by simpa using h2, fun c L hc' hL1 hL2 => ?_⟩
  have R2 := R1.put (o := SetTO X.prog X.w c L) hc'
  have x2 := x1.put (o := SetTO X.prog X.w c L) R1 hc'
  refine ⟨c, L, d, B, rfl, upd_same, fun p hp => ?_, h3, fun p hp => h4 _ (List.mem_map_of_mem (hL1 p hp)), fun L' r hperm hnd hlen hpw hr => ?_⟩
  · refine SqT.of ?_
    rw [upd_ne (ne_of_none (R1.sub _ _ (hF p (hL1 p hp))) hc')]
    exact R1.sub _ _ (hF p (hL1 p hp))
  · have e : (L'.map fun q => tupI q.2) = (L'.map (·.2)).map tupI := by rw [List.map_map]; rfl
    refine ans_new R2 x2 l (ds := L'.map fun q => tupI q.2) (by
      rw [e]
      refine h5 _ hnd (fun a => ?_) (List.pairwise_map.mpr hpw)
      constructor
      · intro ha
        obtain ⟨p, hp, rfl⟩ := List.mem_map.mp ha
        exact List.mem_map_of_mem (hL1 p (hperm.mem_iff.mp hp))
      · intro ha
        obtain ⟨p, hp, rfl⟩ := List.mem_map.mp ha
        obtain ⟨p', hp', e⟩ := List.mem_map.mp (hL2 p hp)
        rw [← e]
        exact List.mem_map_of_mem (hperm.mem_iff.mpr hp')) (drs_tups L' fun p hp => hF p (hL1 p (hperm.mem_iff.mp hp))) hr
/-! ### [f, g][i](..): one of two defs -/
end DL
set_option Elab.async false
set_option linter.all false
set_option maxRecDepth 100000
set_option maxHeartbeats 4000000
namespace DL
open PySem PySem.Spec PyProof.Rows L2
/-! ### dicts whose keys are encoded by tuples -/
structure EncK {α : Type} (ky : α → List Key) (en : α → PyData) : Prop where
  inj : ∀ a b, ky a = ky b → a = b
  dat : ∀ a, en a = .tuple ((ky a).map keyD)
def entK {α : Type} (ky : α → List Key) (p : α × PyData) : List Key × PyData := (ky p.1, p.2)
section
variable {α : Type} {ky : α → List Key} {en : α → PyData}
theorem EncK.eqv (E : EncK ky en) (a b : α) : PyData.eqv (en a) (en b) = true ↔ a = b := by
  rw [E.dat, E.dat, eqv_tup, enc_key.all]
  exact ⟨E.inj a b, fun e => by rw [e]⟩
variable [DecidableEq α]
theorem EncK.put (E : EncK ky en) (l : List (α × PyData)) (a : α) (d : PyData) : putD (l.map (entK ky)) (ky a) d = (putD l a d).map (entK ky) := by
  unfold putD
  have e : ((l.map (entK ky)).any fun kv => decide (kv.1 = ky a)) = l.any fun kv => decide (kv.1 = a) := by
    rw [List.any_map]
    congr 1
    funext p
    simp only [Function.comp, entK]
    exact decide_eq_decide.mpr ⟨E.inj _ _, fun z => by rw [z]⟩
  rw [e]
  split
  · rw [List.map_map, List.map_map]
    refine List.map_congr_left fun p _ => ?_
    show (if ky p.1 = ky a then (ky p.1, d) else (ky p.1, p.2)) = entK ky (if p.1 = a then (p.1, d) else p)
    by_cases h : p.1 = a
    · rw [if_pos h, if_pos (by rw [h])]
      rfl
    · rw [if_neg h, if_neg (fun z => h (E.inj _ _ z))]
      rfl
  · rw [List.map_append]
    rfl
theorem EncK.get (E : EncK ky en) (l : List (α × PyData)) (a : α) : getD (l.map (entK ky)) (ky a) = getD l a := by
  unfold getD
  rw [List.find?_map]
  have e : ((fun kv : List Key × PyData => decide (kv.1 = ky a)) ∘ entK ky) = fun kv : α × PyData => decide (kv.1 = a) := by
    funext p
    simp only [Function.comp, entK]
    exact decide_eq_decide.mpr ⟨E.inj _ _, fun z => by rw [z]⟩
  rw [e, Option.map_map]
  rfl
theorem EncK.drop (E : EncK ky en) (l : List (α × PyData)) (a : α) : dropD (l.map (entK ky)) (ky a) = (dropD l a).map (entK ky) := by
  unfold dropD
  rw [List.filter_map]
  congr 1
  refine List.filter_congr fun p _ => ?_
  simp only [Function.comp, entK]
  exact decide_eq_decide.mpr ⟨fun z e => z (by rw [e]), fun z e => z (E.inj _ _ e)⟩
end
/-! ### spots: sheet, x, y -/
abbrev Sp3 := Int × Int × Int
def spD (c : Sp3) : PyData := .tuple [.int c.1, .int c.2.1, .int c.2.2]
def dc3 (cs : List Sp3) : PyData := .dict (cs.map fun c => (spD c, .bool true))
end DL
set_option Elab.async false
set_option linter.all false
namespace DL
end DL
set_option Elab.async false
set_option linter.all false
set_option maxRecDepth 100000
set_option maxHeartbeats 4000000
namespace DL
open PySem PySem.Spec PyProof.Rows L2
/-! ### instances: attributes read, stored -/
/-- a node, its address told -/
def nodK (μ : Mu) (n : Nat) (p : List Nat) (b : Addr) (k : Knd → List Tree → Prop) : Prop := match nodeAt μ n p with
  | some (.nod kd b' ts) => b' = b ∧ k kd ts
  | _ => False
def atK (i : Option Nat) (ts : List Tree) (k : Nat → Tree → Prop) : Prop := match i with
  | some i => match ts[i]? with
    | some c => k i c
    | none => False
  | none => False
section
variable {X : Cx} {W : WX} {e o : Expr} {f : Str} {te tv : TDE} {pos pos' : Pos}
/-- what becomes a part of a tree -/
def treeK (k : Tree → Prop) : EV → Prop
  | .dat d => k (.dat d)
  | .per c => k (.per c)
  | .new xs => ∀ a, k (.nod .lst a (xs.map .dat))
  | .newd kvs => (kvs.map (·.1)).Nodup ∧ ∀ a, k (.nod (.dct (kvs.map (·.1))) a (kvs.map fun p => .dat p.2))
  | .newk kvs => (kvs.map (·.1)).Nodup ∧ ∀ a, k (.nod (.dck (kvs.map (·.1))) a (kvs.map fun p => .dat p.2))
  | .newo t => k t
  | _ => False
end
end DL
set_option Elab.async false
set_option linter.all false
set_option maxRecDepth 100000
set_option maxHeartbeats 4000000
namespace DL
open PySem PySem.Spec PyProof.Rows L2
/-! ### instances made, their methods called -/
section
variable {X : Cx} {W : WX} {CX' : CXT} {k j : Nat} {C f0 : Addr} {fd : FuncData} {ps : List Str} {dvs : List V} {ds : List Value} {spv : Sp} {x m : Str} {p pos apos : Pos} {e o : Expr} {es : List Expr}
theorem VL.ext {K : PySem.W.Frag} {s s' : Wd} {N N' : Nat} {vs : List V} {es : List EV} (h : VL K s N vs es) (x : Ext s N s' N') : VL K s' N' vs es := by
  induction h with
  | nil => exact .nil
  | cons a _ ih => exact .cons (a.ext x) ih
/-! methods -/
end
end DL
set_option Elab.async false
set_option linter.all false
set_option maxRecDepth 100000
set_option maxHeartbeats 4000000
namespace DL
open PySem PySem.Spec PyProof.Rows L2
/-! ### dicts, lists that are parts of trees -/
/-! d[k] -/
/-! x[k] = v, x a part of a tree -/
end DL
set_option Elab.async false
set_option linter.all false
set_option maxRecDepth 100000
set_option maxHeartbeats 4000000
namespace DL
open PySem PySem.Spec PyProof.Rows L2
/-! ### methods of lists and dicts that are parts of trees -/
/-! ### d.setdefault(k, v) -/
end DL
set_option Elab.async false
set_option linter.all false
set_option maxRecDepth 100000
set_option maxHeartbeats 4000000
namespace DL
open PySem PySem.Spec PyProof.Rows L2
/-! ### items of lists that are parts of trees -/
/-! a new value becomes a cell of its own -/
/-! [a, b], both new, changed later -/
end DL
set_option Elab.async false
set_option linter.all false
set_option maxRecDepth 100000
set_option maxHeartbeats 4000000
namespace DL
open PySem PySem.Spec PyProof.Rows L2
/-! ### trees by equations -/
section
variable {μ ν : Mu} {n : Nat} {p : List Nat} {b b' : Addr} {k : Knd → List Tree → Prop} {kd : Knd} {ts : List Tree} {t u c : Tree} {i : Nat} {q : PQ}
/-- sets, sorted -/
theorem x_dSortSet {ta : TDE} {η : DEnv} {E : XQ} : dSortSet ta η μ q E = ta η μ (fun e μ1 => oSortSet e μ1 q) E := Eq.trans rfl rfl
end
end DL
set_option Elab.async false
set_option linter.all false
set_option maxRecDepth 100000
set_option maxHeartbeats 4000000
namespace DL
open PySem PySem.Spec PyProof.Rows L2
/-! ### a dict's cell is still from here on -/
end DL
set_option Elab.async false
set_option linter.all false
set_option maxRecDepth 100000
set_option maxHeartbeats 4000000
namespace DL
open PySem PySem.Spec PyProof.Rows L2
/-! ### a, b = a list -/
end DL
set_option Elab.async false
set_option linter.all false
set_option maxRecDepth 100000
set_option maxHeartbeats 4000000
namespace DL
open PySem PySem.Spec PyProof.Rows L2
/-! ### divmod -/
end DL
set_option Elab.async false
set_option linter.all false
set_option maxRecDepth 100000
set_option maxHeartbeats 4000000
namespace DL
open PySem PySem.Spec PyProof.Rows L2 NdefX LamX
/-! ### captured cells: known, or left alone -/
/-- a cell's object and what it holds -/
def CelO (o : Obj) (v : V) : HO := .frz o (.ext fun _ => ∃ u, RelV v u ∧ o.data = .cell (some u))
abbrev CMap := Addr → Option HO
def dropC (H : Hp) (C : CMap) : Hp := fun a => match C a with
  | some _ => none
  | none => H a
def layC (H : Hp) (C : CMap) : Hp := fun a => match C a with
  | some o => some o
  | none => H a
theorem dropC_n {H : Hp} {C : CMap} {a : Addr} (h : C a = none) : dropC H C a = H a := by unfold dropC; rw [h]
theorem layC_s {H : Hp} {C : CMap} {a : Addr} {u : HO} (h : C a = some u) : layC H C a = some u := by unfold layC; rw [h]
theorem layC_n {H : Hp} {C : CMap} {a : Addr} (h : C a = none) : layC H C a = H a := by unfold layC; rw [h]
/-- .. as far as can be told -/
def CelM (C : CMap) : Prop := ∀ a u, C a = some u → ∃ o v, u = CelO o v
/-! ### the world with cells, or without them -/
mutual
theorem DR.drop {K : PySem.W.Frag} {F : Hp} {C : CMap} (hm : CelM C) (hc : ∀ a u o, C a = some u → F a = some o → o = u) : ∀ {v : V} {d : PyData}, DR K F v d → DR K (dropC F C) v d
  | _, _, .non => .non
  | _, _, .bl b => .bl b
  | _, _, .int i => .int i
  | _, _, .str x h => .str x h
  | _, _, .lst h hs => .lst (drop_at hm hc h fun _ _ z => nomatch z) (DRs.drop2 hm hc hs)
  | _, _, .tup h hs => .tup (drop_at hm hc h fun _ _ z => nomatch z) (DRs.drop2 hm hc hs)
  | _, _, .dcT h k hs e' => .dcT (drop_at hm hc h fun _ _ z => nomatch z) k (DRs.drop2 hm hc hs) e'
  | _, _, .dcK h k hs e' n' => .dcK (drop_at hm hc h fun _ _ z => nomatch z) k (DRs.drop2 hm hc hs) e' n'
theorem DRs.drop2 {K : PySem.W.Frag} {F : Hp} {C : CMap} (hm : CelM C) (hc : ∀ a u o, C a = some u → F a = some o → o = u) : ∀ {vs : List V} {ds : List PyData}, DRs K F vs ds → DRs K (dropC F C) vs ds
  | _, _, .nil => .nil
  | _, _, .cons h hs => .cons (DR.drop hm hc h) (DRs.drop2 hm hc hs)
theorem drop_at {F : Hp} {C : CMap} (hm : CelM C) (hc : ∀ a u o, C a = some u → F a = some o → o = u) {a : Addr} {o : HO} (h : F a = some o) (ho : ∀ ob x, o ≠ CelO ob x) : dropC F C a = some o := by
  cases q : C a with
  | none => rw [dropC_n q]; exact h
  | some u =>
    obtain ⟨ob, x, rfl⟩ := hm a u q
    exact absurd (hc a _ o q h) (ho ob x)
end
theorem same_lay {F : Hp} {C : CMap} (hn : ∀ a u, C a = some u → F a = none) : Same F (layC F C) := fun a o e => by
  cases q : C a with
  | none => rw [layC_n q]; exact e
  | some u => rw [hn a u q] at e; cases e
end DL
set_option Elab.async false
set_option linter.all false
set_option maxRecDepth 100000
set_option maxHeartbeats 4000000
namespace DL
open PySem PySem.Spec PyProof.Rows L2 NdefX LamX
/-! ### functions as values: of one datum, telling a number, changing nothing -/
/-- what must stand in the still part so that a function may be called -/
structure Need where
  ψ : PySem.W.Frag → Hp → Prop
  mono : ∀ {K : PySem.W.Frag} {F F' : Hp}, Same F F' → ψ K F → ψ K F'
def nT : Need := ⟨fun _ _ => True, fun _ h => h⟩
def nA (a b : Need) : Need := ⟨fun K F => a.ψ K F ∧ b.ψ K F, fun e h => ⟨a.mono e h.1, b.mono e h.2⟩⟩
/-- what stands at f is a function that one may call -/
def FnH (u : HO) (f : Addr) : Prop := (∃ φ, u = .ext φ) ∧ ∀ (P : Program) (w : World) (H : Hp) (h : Heap), ObjOk P w H h f u → PySem.W.FnAt f h
/-- f, asked of x in H, tells r -/
def RunAt (P : Program) (w : World) (K : PySem.W.Frag) (mg : Str → Option Value) (base : Heap) (k : Nat) (f : Addr) (H : Hp) (x : V) (r : Int) : Prop := ∀ (A : Around) (outer : List Env) (sh : Shared) (u : Value), Room k A → Env0 P w K mg base A outer sh H → RelV x u →
  codeAny (model P w) A (.call (.ref f) ⟨[u], []⟩) (CR (L2.CX P w) outer P w H sh (fun v H' => v = .int r ∧ Same H H') fun _ _ _ => False) sh
def Runs (P : Program) (w : World) (K : PySem.W.Frag) (mg : Str → Option Value) (base : Heap) (N : Need) (k : Nat) (g : PyData → Option Int) (f : Addr) (F : Hp) : Prop := ∀ (H F' : Hp) (x : V) (d : PyData) (r : Int), Same F F' → N.ψ K F' → Same F' H → DR K F' x d → g d = some r → RunAt P w K mg base k f H x r
def wP (P : Program) (w : World) (mg : Str → Option Value) (base : Heap) (N : Need) (k : Nat) (g : PyData → Option Int) : Per where
  φ := fun K F v => ∃ f, v = .ref f ∧ (∃ u, F f = some u ∧ FnH u f) ∧ Runs P w K mg base N k g f F
  mono := fun {K F F' v} e h => by
    obtain ⟨f, rfl, ⟨u, h1, h2⟩, h3⟩ := h
    exact ⟨f, rfl, ⟨u, e _ _ h1, h2⟩, fun H F2 x d r e2 => h3 H F2 x d r fun a o z => e2 a o (e a o z)⟩
theorem wP_act {P : Program} {w : World} {mg : Str → Option Value} {base : Heap} {N N' : Need} {k : Nat} {g : PyData → Option Int} {K : PySem.W.Frag} {F : Hp} {v : V} (h : (wP P w mg base N k g).φ K F v) (n : ∀ F', Same F F' → N'.ψ K F' → N.ψ K F') : (wP P w mg base N' k g).φ K F v := by
  obtain ⟨f, rfl, h2, h3⟩ := h
  exact ⟨f, rfl, h2, fun H F2 x d r e2 n2 => h3 H F2 x d r e2 (n F2 e2 n2)⟩
end DL
set_option Elab.async false
set_option linter.all false
set_option maxRecDepth 100000
set_option maxHeartbeats 4000000
namespace DL
open PySem PySem.Spec PyProof.Rows L2 NdefX LamX
/-! ### bodies of made functions -/
/-! ### what a made function captured -/
/-- a captured value, in a still part without the cells -/
def capV (K : PySem.W.Frag) (F : Hp) (v : V) : EV → Prop
  | .dat d => DR K F v d
  | .per c => c.φ K F v
  | _ => False
theorem capV.mono {K : PySem.W.Frag} {F F' : Hp} {v : V} {e : EV} (e1 : Same F F') (h : capV K F v e) : capV K F' v e := by
  cases e with
  | dat d => exact DR.mono e1 h
  | per c => exact c.mono e1 h
  | _ => exact h
/-- the need stands also where cells that hold functions alone are not known -/
def NStab (N : Need) : Prop := ∀ (K : PySem.W.Frag) (F : Hp) (C : CMap), (∀ a u, C a = some u → F a = some u ∧ ∃ o f, u = CelO o (.ref f) ∧ ∃ z, F f = some z ∧ ∃ φ, z = .ext φ) → N.ψ K F → N.ψ K (dropC F C)
end DL
set_option Elab.async false
set_option linter.all false
set_option maxRecDepth 100000
set_option maxHeartbeats 4000000
namespace DL
open PySem PySem.Spec PyProof.Rows L2 NdefX LamX
/-! ### a made function may be called wherever its cells are known -/
section
variable {P : Program} {w : World} {K : PySem.W.Frag} {mg : Str → Option Value} {base : Heap} {fr : List Str} {F : NF} {f : Addr} {k : Nat} {u : HO} {cs cs' : List EV} {g : PyData → Option Int} {N2 : Need}
/-- functions alone, that may need some -/
inductive CapsF (P : Program) (w : World) (mg : Str → Option Value) (base : Heap) : List EV → List EV → Need → Prop
  | nil : CapsF P w mg base [] [] nT
  | cons {N M : Need} {k : Nat} {g : PyData → Option Int} {cs cs' : List EV} : NStab N → CapsF P w mg base cs cs' M → CapsF P w mg base (.per (wP P w mg base N k g) :: cs) (.per (wP P w mg base nT k g) :: cs') (nA N M)
theorem CapsF.len (h : CapsF P w mg base cs cs' N2) : cs'.length = cs.length := by
  induction h with
  | nil => rfl
  | cons _ _ ih => rw [List.length_cons, List.length_cons, ih]
theorem CapsF.fn (h : CapsF P w mg base cs cs' N2) : ∀ e ∈ cs, ∃ N k g, e = .per (wP P w mg base N k g) := by
  induction h with
  | nil => intro e he; cases he
  | cons _ _ ih =>
    intro e he
    rcases List.mem_cons.mp he with rfl | he
    · exact ⟨_, _, _, rfl⟩
    · exact ih e he
end
end DL
set_option Elab.async false
set_option linter.all false
set_option maxRecDepth 100000
set_option maxHeartbeats 4000000
namespace DL
open PySem PySem.Spec PyProof.Rows L2 NdefX LamX
/-! ### a made function by its body's reading -/
end DL
set_option Elab.async false
set_option linter.all false
set_option maxRecDepth 100000
set_option maxHeartbeats 4000000
namespace DL
open PySem PySem.Spec PyProof.Rows L2 NdefX LamX
/-! ### functions are made -/
end DL
set_option Elab.async false
set_option linter.all false
set_option maxRecDepth 100000
set_option maxHeartbeats 4000000
namespace DL
open PySem PySem.Spec PyProof.Rows L2 NdefX LamX
/-! ### functions are made: by data -/
/-! where a made function's words stand -/
end DL
set_option Elab.async false
set_option linter.all false
set_option maxRecDepth 100000
set_option maxHeartbeats 4000000
namespace DL
open PySem PySem.Spec PyProof.Rows L2 NdefX LamX
/-! ### defs that hand out functions which they made -/
/-! ### the cells become known -/
section
variable {K : PySem.W.Frag} {s0 s : Wd} {N0 N : Nat} {μ : Mu} {C : CMap}
theorem CellAt.lay {a : Addr} {c : Cell} (h : CellAt K s a c) (sub : Same s.F s.H) (hn : ∀ a u, C a = some u → s.H a = none) : CellAt K { s with H := layC s.H C, F := layC s.F C } a c := by
  have nF : ∀ a u, C a = some u → s.F a = none := fun a u e => by
    cases q : s.F a with
    | none => rfl
    | some o => exact absurd (sub a o q) (by rw [hn a u e]; simp)
  have hH := same_lay hn
  have hF := same_lay nF
  have ca : C a = none := by
    cases q : C a with
    | none => rfl
    | some u => exact absurd (hn a u q) (h.here sub)
  have at_ : layC s.F C a = s.F a := layC_n ca
  cases c with
  | lst xs => obtain ⟨h1, vs, h2, h3⟩ := h; exact ⟨at_.trans h1, vs, hH _ _ h2, h3.mono hF⟩
  | frz xs => obtain ⟨vs, h2, h3⟩ := h; exact ⟨vs, hF _ _ h2, h3.mono hF⟩
  | dct kvs => obtain ⟨h1, ks, h2, h3, h4⟩ := h; exact ⟨at_.trans h1, ks, hH _ _ h2, h3, h4.mono hF⟩
  | dck kvs => obtain ⟨h1, ks, h2, h3, h4⟩ := h; exact ⟨at_.trans h1, ks, hH _ _ h2, h3, h4.mono hF⟩
  | abs P => obtain ⟨xs, hP, h1, vs, h2, h3⟩ := h; exact ⟨xs, hP, at_.trans h1, vs, hH _ _ h2, h3.mono hF⟩
  | tab P nm => exact ⟨h.1, h.2.to hF (at_.trans h.2.nf) fun _ z => hH _ _ z⟩
  | own t => exact fun z => h (by rw [← layC_n (H := s.H) ca]; exact z)
  | dead => exact fun z => h (by rw [← layC_n (H := s.H) ca]; exact z)
theorem Rep.noF (R : Rep K s μ) (hn : ∀ a u, C a = some u → s.H a = none) : ∀ a u, C a = some u → s.F a = none := fun a u e => by
  cases q : s.F a with
  | none => rfl
  | some o => exact absurd (R.sub a o q) (by rw [hn a u e]; simp)
theorem keeps_lay {F H : Hp} {a : Addr} (h : C a = none) : Keeps F H (layC F C) (layC H C) a := ⟨layC_n h, fun z _ => (layC_n h).trans z⟩
theorem Rep.lay (R : Rep K s μ) (hn : ∀ a u, C a = some u → s.H a = none) : Rep K { s with H := layC s.H C, F := layC s.F C } μ := by
  have nF := R.noF hn
  have nC : ∀ {a : Addr}, s.H a ≠ none → C a = none := fun {a} h => by
    cases q : C a with
    | none => rfl
    | some u => exact absurd (hn a u q) h
  refine R.of rfl (fun a u q => ?_) (fun n c q => (R.cell n c q).lay R.sub hn) (fun a h => by rw [layC_n (nC h)]; exact h) (R.beside (same_lay nF) fun n a h1 h2 => keeps_lay (nC (R.live n a h1 h2)))
  have q : layC s.F C a = some u := q
  show layC s.H C a = some u
  cases e : C a with
  | none => rw [layC_n e] at q ⊢; exact R.sub a u q
  | some z => rw [layC_s e] at q ⊢; exact q
theorem Ext.lay (x : Ext s0 N0 s N) (sub : Same s.F s.H) (hn : ∀ a u, C a = some u → s.H a = none) : Ext s0 N0 { s with H := layC s.H C, F := layC s.F C } N := by
  have nF : ∀ a u, C a = some u → s.F a = none := fun a u e => by
    cases q : s.F a with
    | none => rfl
    | some o => exact absurd (sub a o q) (by rw [hn a u e]; simp)
  have nC : ∀ {a : Addr}, s.H a ≠ none → C a = none := fun {a} h => by
    cases q : C a with
    | none => rfl
    | some u => exact absurd (hn a u q) h
  refine ⟨fun a o z => same_lay nF a o (x.f a o z), x.l, x.le, fun a o h1 h2 => same_lay hn a o (x.keep a o h1 h2), fun a h1 h2 h3 h4 => ?_, x.lnew, x.onew, fun a h => ?_⟩
  · show layC s.F C a = none
    rw [layC_n (nC (x.alive a h3))]
    exact x.fnew a h1 h2 h3 h4
  · show layC s.H C a ≠ none
    rw [layC_n (nC (x.alive a h))]
    exact x.alive a h
end
/-- what stands in a name's slot -/
def slotIs (N : List Str) (η : DEnv) (y : Str) (e : EV) : Prop := ∃ j : Nat, N[j]? = some y ∧ η[j]? = some (some e)
/-- what is left of a need -/
inductive Left (D : Need → Prop) : Need → Need → Prop
  | all {N : Need} : D N → Left D N nT
  | right {a b : Need} : D a → Left D (nA a b) b
mutual
inductive DisT (P : Program) (w : World) (mg : Str → Option Value) (base : Heap) (D : Need → Prop) : Tree → Tree → Prop
  | dat (d : PyData) : DisT P w mg base D (.dat d) (.dat d)
  | fn {N N' : Need} {k : Nat} {g : PyData → Option Int} : Left D N N' → DisT P w mg base D (.per (wP P w mg base N k g)) (.per (wP P w mg base N' k g))
  | nod {k : Knd} {b : Addr} {ts ts' : List Tree} : DisTs P w mg base D ts ts' → DisT P w mg base D (.nod k b ts) (.nod k b ts')
inductive DisTs (P : Program) (w : World) (mg : Str → Option Value) (base : Heap) (D : Need → Prop) : List Tree → List Tree → Prop
  | nil : DisTs P w mg base D [] []
  | cons {t t' : Tree} {ts ts' : List Tree} : DisT P w mg base D t t' → DisTs P w mg base D ts ts' → DisTs P w mg base D (t :: ts) (t' :: ts')
end
/-- what is told, with the needs that are fulfilled -/
inductive Dis (P : Program) (w : World) (mg : Str → Option Value) (base : Heap) (D : Need → Prop) : EV → EV → Prop
  | dat (d : PyData) : Dis P w mg base D (.dat d) (.dat d)
  | fn {N N' : Need} {k : Nat} {g : PyData → Option Int} : Left D N N' → Dis P w mg base D (.per (wP P w mg base N k g)) (.per (wP P w mg base N' k g))
  | newo {t t' : Tree} : DisT P w mg base D t t' → Dis P w mg base D (.newo t) (.newo t')
section
variable {P : Program} {w : World} {mg : Str → Option Value} {base : Heap} {D : Need → Prop} {K : PySem.W.Frag} {F H F' H' : Hp}
mutual
theorem DisT.addrs_eq : ∀ {t t' : Tree}, DisT P w mg base D t t' → addrs t' = addrs t
  | _, _, .dat _ => rfl
  | _, _, .fn _ => by rw [addrs_per, addrs_per]
  | _, _, .nod h => by rw [addrs_nod, addrs_nod, DisTs.addrs_eq h]
theorem DisTs.addrs_eq : ∀ {ts ts' : List Tree}, DisTs P w mg base D ts ts' → addrsL ts' = addrsL ts
  | _, _, .nil => rfl
  | _, _, .cons h hs => by rw [addrsL_cons, addrsL_cons, DisT.addrs_eq h, DisTs.addrs_eq hs]
end
theorem left_ok (hD : ∀ N, D N → N.ψ K F') (e : Same F F') {N N' : Need} {k : Nat} {g : PyData → Option Int} {v : V} (h : Left D N N') (p : (wP P w mg base N k g).φ K F v) : (wP P w mg base N' k g).φ K F' v := by
  refine wP_act ((wP P w mg base N k g).mono e p) fun F2 e2 n => ?_
  cases h with
  | all h => exact N.mono e2 (hD _ h)
  | right h => exact ⟨Need.mono _ e2 (hD _ h), n⟩
mutual
theorem DisT.ok (hD : ∀ N, D N → N.ψ K F') (e : Same F F') : ∀ {t t' : Tree} {v : V}, DisT P w mg base D t t' → TreeR K F H v t → (∀ a ∈ addrs t, Keeps F H F' H' a) → TreeR K F' H' v t'
  | _, _, _, .dat _, .dat h, _ => .dat (h.mono e)
  | _, _, _, .fn l, .per h, _ => .per (left_ok hD e l h)
  | _, _, _, .nod (k := k) (b := b) hs, r, q => by
    have q0 := q b (by rw [addrs_nod]; exact List.mem_cons_self)
    cases r with
    | nod h1 h2 h3 =>
      refine .nod (h1.congr q0.1) ?_ (DisTs.ok hD e hs h3 fun a ha => q a (by rw [addrs_nod]; exact List.mem_cons_of_mem _ ha))
      rcases h2 with h2 | h2
      · exact .inl h2
      · cases k with
        | tup => exact .inl trivial
        | lst => exact .inr (q0.2 h2 fun ws z => by rw [show H b = some (.lst _) from h1] at z; cases z)
        | dck ks => exact .inr (q0.2 h2 fun ws z => by rw [h1.1] at z; cases z)
        | dct ks => exact .inr (q0.2 h2 fun ws z => by rw [h1.1] at z; cases z)
        | ins C fs => exact .inr (q0.2 h2 fun ws z => by obtain ⟨dx, h1, _⟩ := h1; rw [h1] at z; cases z)
        | gho => exact .inr (q0.2 h2 fun ws z => by obtain ⟨o, g1, g2⟩ := h1; rw [g1] at z; cases z; exact g2 _ rfl)
theorem DisTs.ok (hD : ∀ N, D N → N.ψ K F') (e : Same F F') : ∀ {ts ts' : List Tree} {vs : List V}, DisTs P w mg base D ts ts' → TreesR K F H vs ts → (∀ a ∈ addrsL ts, Keeps F H F' H' a) → TreesR K F' H' vs ts'
  | _, _, _, .nil, .nil, _ => .nil
  | _, _, _, .cons h hs, .cons r rs, q => .cons (DisT.ok hD e h r fun a ha => q a (by rw [addrsL_cons]; exact List.mem_append_left _ ha)) (DisTs.ok hD e hs rs fun a ha => q a (by rw [addrsL_cons]; exact List.mem_append_right _ ha))
end
theorem Dis.ok {s : Wd} {N : Nat} {C : CMap} {v : V} {y y' : EV} (hD : ∀ N, D N → N.ψ K (layC s.F C)) (nF : ∀ a u, C a = some u → s.F a = none) (hn : ∀ a u, C a = some u → s.H a = none) (h : Dis P w mg base D y y') (r : VR K s N v y) : VR K { s with H := layC s.H C, F := layC s.F C } N v y' := by
  cases h with
  | dat d => exact DR.mono (same_lay nF) r
  | fn l => exact left_ok hD (same_lay nF) l r
  | newo h =>
    obtain ⟨r1, r2, r3, r4⟩ := r
    refine ⟨by rw [h.addrs_eq]; exact r1, h.ok hD (same_lay nF) r2 fun a ha => keeps_lay ?_, by rw [h.addrs_eq]; exact r3, by rw [h.addrs_eq]; exact r4⟩
    cases q : C a with
    | none => rfl
    | some u => exact absurd (hn a u q) (r2.live a ha)
end
end DL
set_option Elab.async false
set_option linter.all false
set_option maxRecDepth 100000
set_option maxHeartbeats 4000000
namespace DL
open PySem PySem.Spec PyProof.Rows L2 NdefX LamX
/-! ### a def with cells, at its end -/
end DL
set_option Elab.async false
set_option linter.all false
set_option maxRecDepth 100000
set_option maxHeartbeats 4000000
namespace DL
open PySem PySem.Spec PyProof.Rows L2 NdefX LamX
/-! ### lists with functions in them; equations; a law's start with tables -/
/-! equations -/
end DL
set_option Elab.async false
set_option linter.all false
set_option maxRecDepth 100000
set_option maxHeartbeats 4000000
namespace DL
open PySem PySem.Spec PyProof.Rows L2 NdefX LamX
/-! ### a dict that is captured is locked for good -/
def lockC (η : DEnv) (μ : Mu) (i n : Nat) (c : Option Cell) (κ : DEnv → Mu → Prop) : Prop := match c with
  | some (.dct kvs) => κ (η.set i (some (.dat (.dict (kvT kvs))))) (μ.set n .dead)
  | _ => False
def lockE (η : DEnv) (μ : Mu) (i : Nat) (o : Option (Option EV)) (κ : DEnv → Mu → Prop) : Prop := match o with
  | some (some (.loc n)) => lockC η μ i n μ[n]? κ
  | some (some (.dat _)) => κ η μ
  | _ => False
def sLock (i : Nat) (td : TDS) : TDS := fun d E η μ => lockE η μ i η[i]? fun η' μ' => td d E η' μ'
theorem s_lock {i : Nat} {td : TDS} {d : DEnds} {E : XQ} {η : DEnv} {μ : Mu} (h : lockE η μ i η[i]? fun η' μ' => td d E η' μ') : sLock i td d E η μ := h
theorem q_lock {i : Nat} {td u : TDS} {d : DEnds} {E : XQ} {η : DEnv} {μ : Mu} (h : lockE η μ i η[i]? fun η' μ' => sSeq td u d E η' μ') : sSeq (sLock i td) u d E η μ := h
theorem set_same {σ : L2.St} {i : Nat} {v : V} (h : σ[i]? = some (some v)) : σ.set i (some v) = σ := by
  apply List.ext_getElem?
  intro j
  by_cases e : i = j
  · subst e
    rw [List.getElem?_set_self (List.getElem?_eq_some_iff.mp h).1, h]
  · rw [List.getElem?_set_ne e]
/-! captured names by their slots -/
inductive SlotsAre (N : List Str) (η : DEnv) : List Str → List EV → Prop
  | nil : SlotsAre N η [] []
  | cons {y : Str} {e : EV} {fr : List Str} {cs : List EV} (j : Nat) : N[j]? = some y → η[j]? = some (some e) → SlotsAre N η fr cs → SlotsAre N η (y :: fr) (e :: cs)
theorem SlotsAre.all {N : List Str} {η : DEnv} {fr : List Str} {cs : List EV} (h : SlotsAre N η fr cs) : ∀ (i : Nat) (y : Str) (e : EV), fr[i]? = some y → cs[i]? = some e → slotIs N η y e := by
  induction h with
  | nil => intro i y e h; simp at h
  | cons j h1 h2 _ ih =>
    intro i y e g1 g2
    cases i with
    | zero => simp at g1 g2; subst g1 g2; exact ⟨j, h1, h2⟩
    | succ i => exact ih i y e (by simpa using g1) (by simpa using g2)
end DL
set_option Elab.async false
set_option linter.all false
set_option maxRecDepth 100000
set_option maxHeartbeats 4000000
namespace DL
open PySem PySem.Spec PyProof.Rows L2
/-! ### {k: v}, d.pop(k, x), d != {} of dicts that are trees -/
/-! d.pop(k, x) -/
theorem TreesR.erase {K : PySem.W.Frag} {F H : Hp} : ∀ {vs : List V} {ts : List Tree} (i : Nat), TreesR K F H vs ts → TreesR K F H (vs.eraseIdx i) (ts.eraseIdx i)
  | _, _, _, .nil => by simpa using TreesR.nil
  | _, _, 0, .cons _ h => by simpa using h
  | _, _, i + 1, .cons r h => by simpa using TreesR.cons r (TreesR.erase i h)
/-! == and != of dicts with int and text keys, one of them empty -/
end DL
set_option Elab.async false
set_option linter.all false
set_option maxRecDepth 100000
set_option maxHeartbeats 4000000
namespace DL
open PySem PySem.Spec PyProof.Rows L2
/-! ### d.clear() of a dict with tuple keys -/
end DL
namespace PySem.W
open Lean Elab Tactic Meta PySem PySem.Calls PyProof.Rows PyProof.V PySem.Spec
end PySem.W
namespace DL
open PySem PySem.Spec PyProof.Rows L2
/-! ### == of dicts with tuple keys and ints -/
end DL
set_option Elab.async false
set_option linter.all false
set_option maxRecDepth 100000
set_option maxHeartbeats 4000000
namespace DL
open PySem PySem.Spec PyProof.Rows L2
/-! ### min(xs), min(xs, default=d), xs a list of data that compare -/
/-! ### .. stepping -/
/-! ### .. of encoded items -/
section
variable {α : Type} {en : α → PyData} {lt : α → α → Bool}
theorem OrdR.lst {rn : α → List PyData} (O : OrdR rn lt) : OrdE (fun a => .list (rn a)) lt where
  alike a b := by simp only [PySem.W.alike]; exact O.alike a b
  lts a b := (PySem.W.dataLt_list _ _).trans (O.lts a b)
  eqs a b := by rw [PyData.eqv]; exact O.eqs a b
  irr := O.irr
  tri := O.tri
  tr := O.tr
end
end DL
set_option Elab.async false
set_option linter.all false
set_option maxRecDepth 100000
set_option maxHeartbeats 4000000
namespace DL
open PySem PySem.Spec PyProof.Rows L2
/-! ### d.get(k), d.get(k, z), tuple keys -/
/-! ### x[i] = d, x a list that is a part of a tree -/
/-! ### tuple(x), x a list of data that is a part of a tree -/
end DL
set_option Elab.async false
set_option linter.all false
set_option maxRecDepth 100000
set_option maxHeartbeats 4000000
namespace DL
open PySem PySem.Spec PyProof.Rows L2
/-! ### f(..)[i], f's answer a new list with functions in it -/
end DL
set_option Elab.async false
set_option linter.all false
set_option maxRecDepth 100000
set_option maxHeartbeats 4000000
namespace DL
open PySem PySem.Spec PyProof.Rows L2 NdefX LamX
/-! ### defs that make functions, and may end early with data -/
end DL
set_option Elab.async false
set_option linter.all false
set_option maxRecDepth 100000
set_option maxHeartbeats 4000000
namespace DL
open PySem PySem.Spec PyProof.Rows L2 NdefX LamX
/-! ### f(.., a function made here, ..): the call runs with the frame's own cells known -/
/-! ### the world without the cells again -/
section
variable {K : PySem.W.Frag} {s s' : Wd} {N : Nat} {μ : Mu} {C : CMap}
theorem TabAt.drop {F H : Hp} {a : Addr} {nm : Str} (h : TabAt F H a nm) (hm : CelM C) (hc : ∀ a u o, C a = some u → F a = some o → o = u) (ca : C a = none) : TabAt (dropC F C) (dropC H C) a nm := by
  obtain ⟨h1, ps, h2, h3, h4⟩ := h
  refine ⟨by rw [dropC_n ca]; exact h1, ps, by rw [dropC_n ca]; exact h2, h3, fun pos cv e => ?_⟩
  obtain ⟨c, e1, e2⟩ := h4 pos cv e
  refine ⟨c, e1, drop_at hm hc e2 fun ob x z => ?_⟩
  have z1 : LamX.CodeO c nm = CelO ob x := z
  unfold LamX.CodeO CelO at z1
  cases z1
end
/-! ### the rule -/
inductive DisA (P : Program) (w : World) (mg : Str → Option Value) (base : Heap) (D : Need → Prop) : EV → EV → Prop
  | dat (d : PyData) : DisA P w mg base D (.dat d) (.dat d)
  | loc (n : Nat) : DisA P w mg base D (.loc n) (.loc n)
  | fn {N N' : Need} {k : Nat} {g : PyData → Option Int} : Left D N N' → DisA P w mg base D (.per (wP P w mg base N k g)) (.per (wP P w mg base N' k g))
inductive DisL (P : Program) (w : World) (mg : Str → Option Value) (base : Heap) (D : Need → Prop) : List EV → List EV → Prop
  | nil : DisL P w mg base D [] []
  | cons {e e' : EV} {es es' : List EV} : DisA P w mg base D e e' → DisL P w mg base D es es' → DisL P w mg base D (e :: es) (e' :: es')
section
variable {P : Program} {w : World} {mg : Str → Option Value} {base : Heap} {D : Need → Prop} {K : PySem.W.Frag} {s : Wd} {N : Nat} {C : CMap}
theorem DisA.ok {v : V} {y y' : EV} (hD : ∀ N, D N → N.ψ K (layC s.F C)) (nF : ∀ a u, C a = some u → s.F a = none) (h : DisA P w mg base D y y') (r : VR K s N v y) : VR K { s with H := layC s.H C, F := layC s.F C } N v y' := by
  cases h with
  | dat d => exact DR.mono (same_lay nF) r
  | loc n => exact r
  | fn l => exact left_ok hD (same_lay nF) l r
theorem DisL.ok (hD : ∀ N, D N → N.ψ K (layC s.F C)) (nF : ∀ a u, C a = some u → s.F a = none) : ∀ {vs : List V} {es es' : List EV}, DisL P w mg base D es es' → VL K s N vs es → VL K { s with H := layC s.H C, F := layC s.F C } N vs es'
  | _, _, _, .nil, .nil => .nil
  | _, _, _, .cons h hs, .cons r rs => .cons (h.ok hD nF r) (DisL.ok hD nF hs rs)
end
end DL
set_option Elab.async false
set_option linter.all false
set_option maxRecDepth 100000
set_option maxHeartbeats 4000000
namespace DL
open PySem PySem.Spec PyProof.Rows L2
open PySem.Froz (sObj addTx tailTx TxOk add_ok add_x is_str)
/-! ### sets of texts: how they grow -/
theorem tail_ris {ep : Nat} {es : Array (Int × Value)} {t : SetTable} {b : Bool} (r : Ris t.place.toList) : Ris (tailTx ep es t b).2.2.place.toList ∧ (tailTx ep es t b).2.2.led = t.led := by
  unfold tailTx
  split
  · exact ⟨relayAll_ris t es _, relayAll_led t es _⟩
  · exact ⟨r, rfl⟩
theorem addTx_ris {h : Int} {v : Value} {D : Froz.SD} (r : Ris D.2.2.place.toList) : Ris (addTx h v D).2.2.place.toList ∧ (addTx h v D).2.2.led = D.2.2.led := by
  have r1 := layNew_ris D.2.2 D.1 h v r
  have l1 := layNew_led D.2.2 D.1 h v
  unfold addTx
  have key : ∀ t : SetTable, Ris t.place.toList → t.led = D.2.2.led → Ris (if t.plain = true then { t with plain := false } else t).place.toList ∧ (if t.plain = true then { t with plain := false } else t).led = D.2.2.led := fun t h1 h2 => by
    split <;> exact ⟨h1, h2⟩
  obtain ⟨k1, k2⟩ := key _ r1 l1
  obtain ⟨g1, g2⟩ := tail_ris (ep := D.2.1) (es := (layNew D.2.2 D.1 h v).1) (b := (layNew D.2.2 D.1 h v).2.2.1) k1
  exact ⟨g1, g2.trans k2⟩
/-- the set at a holds the texts l -/
structure SetX (P : Program) (w : World) (h : Heap) (a : Addr) (l : List Str) : Prop where
  ex : ∃ D : Froz.SD, h.get? a = some (sObj "set" D) ∧ TxOk P w D l ∧ Ris D.2.2.place.toList ∧ (w.params.followText "set-order" = true ∨ D.2.2.led = true)
  nd : l.Nodup
theorem SetX.at {P : Program} {w : World} {h h' : Heap} {a : Addr} {l : List Str} (R : SetX P w h a l) (k : ∀ o, h.get? a = some o → h'.get? a = some o) : SetX P w h' a l := by
  obtain ⟨⟨D, ho, r⟩, nd⟩ := R
  exact ⟨⟨D, k _ ho, r⟩, nd⟩
section
variable {P : Program} {w : World} {A : Around} {E : Value → Shared → Prop} {s : Shared}
theorem add_old {a : Addr} {D : Froz.SD} {l : List Str} {k : Str} {u : Tok} {Q : Bool → Shared → Prop} (ho : s.heap.get? a = some (sObj "set" D)) (F : TxOk P w D l) (hk : k ∈ l) (hb : l.length < scanBound) (h : Q false s) :
    wpAny (model P w) A (setAddHashed a (.str k u) (hashStr w k)) Q E s := by
  obtain ⟨es, ep, t⟩ := D
  have data : (sObj "set" (es, ep, t)).data = .set es ep t := rfl
  have few : es.size < scanBound := Nat.lt_of_le_of_lt (Nat.le_of_eq F.sz) hb
  have good : ElemsOf (strKind P w) es.toList := F.el
  obtain ⟨e, he, ise⟩ := (F.mem k).mp hk
  unfold setAddHashed setAddHashedIn
  refine wpAny_holding <| wpAny_bind <| wpAny_setState_of ho data F.fit ?_
  dsimp only
  rw [byScan_of rfl few good]
  simp only [↓reduceIte]
  unfold setAddByScan
  refine wpAny_bind <| wpAny_bind <| wpAny_rule <| wpAny_bind <| wpAny_setScan_of (knd := strKind P w) (k := k) (is_str k u) ho data F.fit good ?_
  cases found : List.findIdx? (fun e => (strKind P w).is k e.2) es.toList with
  | none =>
    have := List.findIdx?_eq_none_iff.mp found e he
    rw [ise] at this
    cases this
  | some j =>
    dsimp only
    exact wpAny_pure (wpAny_pure h)
/-- set.add of a text -/
theorem add_text {a : Addr} {l : List Str} {k : Str} {u : Tok} {Q : Bool → Shared → Prop} (R : SetX P w s.heap a l) (hb : l.length + 1 < scanBound)
    (h : ∀ h' l', (∀ b, b ≠ a → h'.get? b = s.heap.get? b) → SetX P w h' a l' → (l' = if k ∈ l then l else k :: l) → Q (!decide (k ∈ l)) { s with heap := h' }) : wpAny (model P w) A (setAddHashed a (.str k u) (hashStr w k)) Q E s := by
  have R0 := R
  obtain ⟨⟨D, ho, F, r, hl⟩, nd⟩ := R
  by_cases hk : k ∈ l
  · have q := h s.heap l (fun _ _ => rfl) R0 (by rw [if_pos hk])
    rw [decide_eq_true hk] at q
    exact add_old ho F hk (by omega) q
  · have q := h (s.heap.update a fun _ => sObj "set" (addTx (hashStr w k) (.str k u) D)) (k :: l) (fun b hb => by
      exact Heap.get?_update_ne s.heap b a _ hb) ⟨⟨_, PySem.Froz.get_upd _ ho rfl, add_ok u F, (addTx_ris r).1, hl.imp id fun z => (addTx_ris r).2.trans z⟩, List.nodup_cons.mpr ⟨hk, nd⟩⟩ (by rw [if_neg hk])
    rw [decide_eq_false hk] at q
    exact add_x ho F hk hb q
/-- what was met among the first i -/
def Seen (ks : List Str) (i : Nat) (l : List Str) : Prop := (∀ x, x ∈ l ↔ x ∈ ks.take i) ∧ l.length ≤ i
theorem Seen.step {ks : List Str} {i : Nat} {l l' : List Str} {k : Str} (g : Seen ks i l) (hk : ks[i]? = some k) (e : l' = if k ∈ l then l else k :: l) : Seen ks (i + 1) l' := by
  have t : ks.take (i + 1) = ks.take i ++ [k] := by rw [List.take_add_one, hk]; rfl
  obtain ⟨g1, g2⟩ := g
  by_cases h : k ∈ l
  · rw [if_pos h] at e
    subst e
    refine ⟨fun x => ?_, Nat.le_succ_of_le g2⟩
    rw [t, List.mem_append, List.mem_singleton, ← g1 x]
    exact ⟨.inl, fun z => z.elim id fun z => z ▸ h⟩
  · rw [if_neg h] at e
    subst e
    refine ⟨fun x => ?_, Nat.succ_le_succ g2⟩
    rw [t, List.mem_append, List.mem_singleton, List.mem_cons, ← g1 x]
    exact ⟨fun z => z.elim .inr .inl, fun z => z.elim .inr .inl⟩
/-- the loop that fills a set with the texts of a walk -/
theorem fill_texts {I : Addr} {fp wr : List Addr} {G : Array GenState → Array GenState → Prop} {n : Nat} {Pv : Nat → Value → Prop} {St : Nat → Shared → Prop} {R : Result → Shared → Prop} (W : WalksS P w A.in1 I fp wr G n Pv St) (S : Addr) (hS : S ∉ fp) (ks : List Str) (hn : n = ks.length)
    (room : n + 1 < scanBound) (val : ∀ i v, Pv i v → ∃ k t, ks[i]? = some k ∧ v = .str k t) : ∀ (k i : Nat) (s : Shared), n - i = k → i ≤ n → St i s → (∃ l, SetX P w s.heap S l ∧ Seen ks i l) →
      (∀ s' l, Moved (S :: wr) G s s' → SetX P w s'.heap S l → Seen ks n l → R (.ok (.ret .none)) s') → codeAny (model P w) A (.builtin "set.update.loop" ⟨[.ref S, .ref I], []⟩) R s := by
  have out : S ∉ wr := fun z => hS (W.sub S z)
  have wide : ∀ b ∈ wr, b ∈ S :: wr := fun b z => List.mem_cons_of_mem S z
  intro k
  induction k with
  | zero =>
    intro i s e hi st ⟨l, X, g⟩ hR
    cases (show i = n by omega)
    apply codeAny_builtin F.entry_set_update_loop
    rw [Around.under_plainId F.plain_set_update_loop]
    exact wpAny_bind (W.done s _ _ st fun s' hm => wpAny_pure (hR s' l (hm.mono wide) (X.at fun o z => hm.heap S o out z) g))
  | succ k ih =>
    intro i s e hi st ⟨l, X, g⟩ hR
    have lt : i < n := by omega
    apply codeAny_builtin F.entry_set_update_loop
    rw [Around.under_plainId F.plain_set_update_loop]
    refine wpAny_bind (m := pyNext (.ref I)) (W.item i s _ _ lt st fun v s' hP st' hm => ?_)
    obtain ⟨x, t, hx, rfl⟩ := val i v hP
    have X' : SetX P w s'.heap S l := X.at fun o z => hm.heap S o out z
    refine wpAny_bind (m := holding [Value.str x t] (setAdd S (.str x t))) (wpAny_holding ?_)
    unfold setAdd
    refine wpAny_holding (wpAny_bind ((strKind P w).pyHash (is_str x t) ?_))
    refine add_text (s := { s' with toks := s'.toks + 1 }) X' (by have := g.2; omega) fun h' l' same X2 e2 => ?_
    refine wpAny_pure ⟨plainId_quiet F.plain_set_update_loop _, ih (i + 1) _ (by omega) lt (W.frame (i + 1) s' h' (s'.toks + 1) st' (Nat.le_succ _) fun b hb o z => ?_) ⟨l', X2, g.step hx e2⟩ fun s2 l2 m2 X3 g3 => ?_⟩
    · rw [same b fun z => hS (z ▸ hb)]
      exact z
    · refine hR s2 l2 (Moved.trans W.gtrans ((hm.mono wide).then_heap (Nat.le_succ _) fun b o hb z => ?_) m2) X3 g3
      rw [same b fun z => hb (z ▸ List.mem_cons_self)]
      exact z
end
section
variable {P : Program} {w : World} {A : Around} {E : Value → Shared → Prop} {s : Shared}
abbrev newSet (w : World) : Obj := { cls := .type "set", dict := none, data := .set #[] 0 (.fresh 0 0 (!w.params.followText "set-order")) }
theorem setX_new {h : Heap} {a : Addr} (ho : h.get? a = some (newSet w)) : SetX P w h a [] := by
  refine ⟨⟨(#[], 0, .fresh 0 0 (!w.params.followText "set-order")), ho, TxOk.nil rfl, List.Pairwise.nil, ?_⟩, List.nodup_nil⟩
  show w.params.followText "set-order" = true ∨ (!w.params.followText "set-order") = true
  cases w.params.followText "set-order"
  · exact .inr rfl
  · exact .inl rfl
/-- set(xs), xs a list of texts -/
theorem call_setX {l : Addr} {items : Array Value} (ks : List Str) {Q : Value → Shared → Prop} (hh : A.handled = none) (hl : s.heap.IsList l items) (hit : ∀ (i : Nat) (v : Value), items[i]? = some v → ∃ (k : Str) (t : Tok), ks[i]? = some k ∧ v = Value.str k t) (hz : items.size = ks.length) (few : ks.length + 1 < scanBound)
    (h : ∀ (h' : Heap) (tk : Nat) (L : List Str), SetX P w h' s.heap.objs.size L → (∀ x, x ∈ L ↔ x ∈ ks) → (∀ b o, s.heap.get? b = some o → h'.get? b = some o) → Q (.ref s.heap.objs.size) { s with heap := h', toks := tk }) :
    wpAny (model P w) A (call (.type "set") [.ref l]) Q E s := by
  have T := F.called_set
  obtain ⟨_, _, hmro⟩ := T.mro
  have hmade := T.made
  have hsub := T.sub
  have h1 := T.notType
  have h2 := T.canCreate
  have hct := F.typeCall_set_1 (.ref l)
  refine wpAny_call (codeAny_of_tree (wpAny_pure ⟨Code.quiet_builtin _ (by decide +kernel), codeAny_builtin F.entry_type_call ?_⟩))
  rw [Around.under_plain (weight_type_call_type "set" [.ref l] []) rfl]
  repeat (any_goals (first | assumption | wp_step))
  have made := code_set_led1 (P := P) (w := w) (A := A.in1) (s := s) (.ref l) (E := E) (Q₁ := fun obj s₁ => obj = .ref s.heap.objs.size ∧ s₁ = { s with heap := s.heap.push (newSet w) }) ⟨rfl, rfl⟩
  refine codeAny_mono made fun r s₁ hr => ?_
  match r, hr with
  | .error e, hr => exact hr
  | .ok .next, hr => exact hr.elim
  | .ok .brk, hr => exact hr.elim
  | .ok .cont, hr => exact hr.elim
  | .ok (.ret obj), hr =>
    obtain ⟨rfl, rfl⟩ := hr
    have at0 : (s.heap.push (newSet w)).get? s.heap.objs.size = some (newSet w) := Heap.get?_push_size _ rfl
    have ty : Shared.TypeIs { s with heap := s.heap.push (newSet w) } (.ref s.heap.objs.size) "set" := ⟨_, at0, rfl⟩
    have hli := T.init.lookup
    have hbi := T.init.bind (.ref s.heap.objs.size)
    repeat (any_goals (first | assumption | wp_step))
    have fill : codeAny (model P w) A.in1 (.call (.builtin "set.__init__") ⟨[.ref s.heap.objs.size, .ref l], []⟩) (wants (fun r s₂ => r = .none ∧ ∃ h' tk L, s₂ = { s with heap := h', toks := tk } ∧ SetX P w h' s.heap.objs.size L ∧ (∀ x, x ∈ L ↔ x ∈ ks) ∧ ∀ b o, s.heap.get? b = some o → h'.get? b = some o) E) { s with heap := s.heap.push (newSet w) } := by
      refine codeAny_call_builtin T.init.plain F.entry_set_init (check_set_init_1 ty ?_)
      obtain ⟨⟨_, od, _, os⟩, at1, rfl, nl, rfl⟩ := hl
      have sub1 := F.sub_list_set
      have sub2 := F.sub_list_frozenset
      have ne1 : (Value.type "list" == Value.type "dict") = false := by decide
      have at2 : (s.heap.push (newSet w)).get? l = some { cls := .type "list", dict := od, data := .seq items nl, slots := os } := Heap.get?_push_of_some _ at1
      have lst : (s.heap.push (newSet w)).IsList l items := ⟨_, at2, rfl, nl, rfl⟩
      have lt : l < s.heap.objs.size := Heap.lt_size at1
      unfold Builtin.«set.__init__» noKeywords Builtin.Frozenset.updateFrom
      generalize hPI : pyIter = PI
      wp_walk
      subst hPI
      refine wpAny_pyIter_list lst (wpAny_bind (wpAny_runValue ?_))
      have ne2 : l ≠ (s.heap.push (newSet w)).objs.size := by
        rw [Heap.size_push]
        exact Nat.ne_of_lt (Nat.lt_succ_of_lt lt)
      have calm : A.in1.in1.in1.handled = none := by simp [hh]
      refine fill_texts (Walks.list calm _ l ne2 items).toS s.heap.objs.size ?_ ks hz (by omega) hit items.size 0 _ (by omega) (Nat.zero_le _) ⟨⟨_, Heap.get?_push_size _ rfl, rfl, rfl⟩, lst.push _⟩ ⟨[], setX_new (Heap.get?_push_of_some _ at0), fun x => by simp, Nat.le_refl _⟩ fun s' L hm X g => ?_
      · rw [Heap.size_push]
        simp only [List.mem_cons, List.not_mem_nil, or_false, not_or]
        exact ⟨Nat.ne_of_lt (Nat.lt_succ_self _), Nat.ne_of_gt lt⟩
      · obtain ⟨h', g2, d', tk', os'⟩ := s'
        cases (show g2 = s.gens from hm.gens)
        cases (show d' = s.drawn from hm.drawn)
        cases (show os' = s.os from hm.os)
        refine wpAny_pure (wpAny_pure ⟨rfl, h', tk', L, rfl, X, fun x => ?_, fun b o e => ?_⟩)
        · rw [g.1 x, hz, List.take_length]
        · have lb := Heap.lt_size e
          refine hm.heap b o (fun z => ?_) (Heap.get?_push_of_some _ (Heap.get?_push_of_some _ e))
          rcases List.mem_cons.mp z with z | z
          · exact absurd (z ▸ lb) (Nat.lt_irrefl _)
          · rw [List.mem_singleton.mp z, Heap.size_push] at lb
            exact absurd (Nat.lt_of_succ_lt lb) (Nat.lt_irrefl _)
    refine codeAny_mono fill fun r s₁ hr => ?_
    match r, hr with
    | .error e, hr => exact hr
    | .ok .next, hr => exact hr.elim
    | .ok .brk, hr => exact hr.elim
    | .ok .cont, hr => exact hr.elim
    | .ok (.ret obj), hr =>
      obtain ⟨rfl, h', tk, L, rfl, X, m, keep⟩ := hr
      repeat (any_goals (first | assumption | wp_step))
      exact h h' tk L X m keep
end
end DL
set_option Elab.async false
set_option linter.all false
set_option maxRecDepth 100000
set_option maxHeartbeats 4000000
namespace DL
open PySem PySem.Spec PyProof.Rows L2
open PySem.Froz (sObj TxOk)
/-! ### .. sorted -/
theorem nodup_by_len {α : Type} [DecidableEq α] : ∀ {L bs : List α}, L.Nodup → (∀ x ∈ L, x ∈ bs) → bs.length ≤ L.length → bs.Nodup
  | [], bs, _, _, h => by
    cases bs with
    | nil => exact List.nodup_nil
    | cons b bs => simp at h
  | x :: L, bs, hn, hs, h => by
    obtain ⟨h1, h2⟩ := List.nodup_cons.mp hn
    have hx := hs x List.mem_cons_self
    have e := List.length_erase_of_mem hx
    have hp := List.length_pos_of_mem hx
    have sub : ∀ y ∈ L, y ∈ bs.erase x := fun y hy => (List.mem_erase_of_ne (show y ≠ x from fun z => h1 (z ▸ hy))).mpr (hs y (List.mem_cons_of_mem x hy))
    have ih := nodup_by_len (bs := bs.erase x) h2 sub (by simp at h; omega)
    have no : x ∉ bs.erase x := fun z => by
      have len : ∀ {M cs : List α}, M.Nodup → (∀ y ∈ M, y ∈ cs) → M.length ≤ cs.length := by
        intro M
        induction M with
        | nil => intro _ _ _; exact Nat.zero_le _
        | cons m M ih =>
          intro cs hm hc
          obtain ⟨a, b⟩ := List.nodup_cons.mp hm
          have hmc := hc m List.mem_cons_self
          have := ih (cs := cs.erase m) b fun y hy => (List.mem_erase_of_ne (show y ≠ m from fun z => a (z ▸ hy))).mpr (hc y (List.mem_cons_of_mem m hy))
          have e := List.length_erase_of_mem hmc
          have := List.length_pos_of_mem hmc
          rw [List.length_cons]
          omega
      have := len (M := x :: L) hn fun y hy => (List.mem_cons.mp hy).elim (fun q => q ▸ z) (sub y)
      rw [List.length_cons] at this
      simp at h
      omega
    exact (List.perm_cons_erase hx).nodup_iff.mpr (List.nodup_cons.mpr ⟨no, ih⟩)
/-- a text as a value -/
def StrV (v : Value) (k : Str) : Prop := ∃ t, v = .str k t
theorem strs_each : ∀ {vs : List Value}, (∀ v ∈ vs, ∃ k, StrV v k) → ∃ bs : List Str, PySem.W.EachIs StrV vs bs
  | [], _ => ⟨[], .nil⟩
  | v :: vs, h => by
    obtain ⟨k, hk⟩ := h v List.mem_cons_self
    obtain ⟨bs, hb⟩ := strs_each fun u hu => h u (List.mem_cons_of_mem v hu)
    exact ⟨k :: bs, .cons hk hb⟩
theorem each_mem_iff : ∀ {vs : List Value} {bs : List Str}, PySem.W.EachIs StrV vs bs → ∀ x, x ∈ bs ↔ ∃ v ∈ vs, StrV v x
  | _, _, .nil, x => by simp
  | _, _, .cons (a := v) (b := k) h t, x => by
    rw [List.mem_cons, each_mem_iff t x]
    constructor
    · rintro (rfl | ⟨u, hu, z⟩)
      · exact ⟨v, List.mem_cons_self, h⟩
      · exact ⟨u, List.mem_cons_of_mem v hu, z⟩
    · rintro ⟨u, hu, z⟩
      rcases List.mem_cons.mp hu with rfl | hu
      · obtain ⟨t1, e1⟩ := h
        obtain ⟨t2, e2⟩ := z
        rw [e1] at e2
        cases e2
        exact .inl rfl
      · exact .inr ⟨u, hu, z⟩
theorem is_strV {P : Program} {w : World} {k : Str} {v : Value} (h : (strKind P w).is k v = true) : StrV v k := by
  have h : Value.isStrOf k v = true := h
  unfold Value.isStrOf at h
  split at h
  · exact ⟨_, by rw [eq_of_beq h]⟩
  · cases h
section
variable {P : Program} {w : World} {A : Around} {E : Value → Shared → Prop} {s : Shared}
theorem sorted_setX {a : Addr} {L : List Str} {Q : Value → Shared → Prop} (R : SetX P w s.heap a L) (hh : A.handled = none) (few : L.length < 64) (hu : A.units + 8 < cLine)
    (hQ : ∀ s' p (out : Array Value) (c : Nat) (bs : List Str), (∀ b o, s.heap.get? b = some o → s'.heap.get? b = some o) → s'.gens = s.gens → s'.os = s.os → s.heap.objs.size ≤ p →
      s'.heap.get? p = some (seqObj "list" out c) → bs.Nodup → (∀ x, x ∈ bs ↔ x ∈ L) → PySem.W.EachIs StrV out.toList (bs.mergeSort (PySem.W.dataLe false PyData.str)) → Q (.ref p) s') :
    wpAny (model P w) A (call (.builtin "sorted") [.ref a]) Q E s := by
  obtain ⟨⟨⟨es, ep, t⟩, ho, F, ris, led⟩, nd⟩ := R
  have size : es.size = L.length := F.sz
  apply Calls.call_function_entry kind_sorted plain_sorted entry_sorted (args_sorted1 _)
  unfold Builtin.«sorted»
  refine wpAny_bind (m := checkCount "sorted" 1 1 _) (wpAny_pure ?_)
  refine wpAny_bind (collect_set (A := A.in1) (t := t) (es := es) (ep := ep) hh ⟨_, ho, rfl, rfl⟩ F.fit (by unfold scanBound; omega) ris led fun s1 vs k1 big g1 o1 pm => ?_)
  have str : ∀ v ∈ vs, ∃ k, k ∈ L ∧ StrV v k := fun v hv => by
    obtain ⟨e, he, rfl⟩ := List.mem_map.mp (pm.mem_iff.mp hv)
    obtain ⟨⟨k, h1, _⟩, _⟩ := F.el e he
    exact ⟨k, (F.mem k).mpr ⟨e, he, h1⟩, is_strV h1⟩
  obtain ⟨bs, eb⟩ := strs_each fun v hv => let ⟨k, _, z⟩ := str v hv; ⟨k, z⟩
  have mem : ∀ x, x ∈ bs ↔ x ∈ L := fun x => by
    rw [each_mem_iff eb x]
    constructor
    · rintro ⟨v, hv, t1, e1⟩
      obtain ⟨k, hk, t2, e2⟩ := str v hv
      rw [e1] at e2
      cases e2
      exact hk
    · intro hx
      obtain ⟨e, he, z⟩ := (F.mem x).mp hx
      exact ⟨e.2, pm.mem_iff.mpr (List.mem_map_of_mem he), is_strV z⟩
  have len : vs.length = L.length := by rw [pm.length_eq, List.length_map, Array.length_toList, size]
  have lb : bs.length = L.length := by rw [← len, eb.length]
  have nb : bs.Nodup := nodup_by_len nd (fun x hx => (mem x).mpr hx) (Nat.le_of_eq lb)
  refine wpAny_bind (wpAny_newList ?_ (by rw [len, sizeLine_eq]; omega))
  have hoL : (s1.heap.push (seqObj "list" vs.toArray 0)).get? s1.heap.objs.size = some (seqObj "list" vs.toArray 0) := Heap.get?_push_size _ rfl
  refine wpAny_bind (wpAny_holding (PySem.W.list_sort_data (s := { s1 with heap := s1.heap.push (seqObj "list" vs.toArray 0) }) (enc := PyData.str) (R := StrV) hoL eb (eb.mono fun v b ⟨t, e⟩ => ⟨[], by rw [e]; exact .str _ _, by simp⟩) (PySem.W.AllAlike.of fun a b => by simp [PySem.W.alike]) (PySem.W.Sortable.others fun a => ⟨(fun z => by cases z), (fun xs z => by cases z)⟩) (by rw [lb, sizeLine_eq]; omega) (fun b _ => by
    have : (PyData.str b).depth = 0 := dep_str
    simp only [Around.in1_units]
    omega) fun out lo eo => ?_))
  obtain ⟨c, hc⟩ := sortedHeap_at (vs := vs) (out := out.toArray) hoL
  refine wpAny_pure ⟨_, rfl, hQ _ s1.heap.objs.size out.toArray c bs (fun b u e => ?_) g1 o1 big hc nb mem eo⟩
  have old := k1 b u e
  have lt := Heap.lt_size old
  show (sortedHeap (s1.heap.push (seqObj "list" vs.toArray 0)) s1.heap.objs.size vs out.toArray).get? b = some u
  rw [sortedHeap_old (Nat.ne_of_lt lt) (by rw [Heap.size_push]; exact Nat.lt_succ_of_lt lt)]
  exact Heap.get?_push_of_some _ old
end
/-! ### as an expression -/
def SetXO (P : Program) (w : World) (a : Addr) (L : List Str) : HO := .ext fun h => SetX P w h a L
theorem setXO_new {P : Program} {w : World} {H : Hp} {h : Heap} {a : Addr} {L : List Str} (R : SetX P w h a L) : ObjOk P w H h a (SetXO P w a L) := by
  obtain ⟨D, ho, _⟩ := R.ex
  exact ⟨R, ⟨_, ho⟩, fun h1 h2 p k => SetX.at p k⟩
theorem strs_vals : ∀ {ks : List Str} {us : List Value}, Vals (ks.map V.str) us → ∀ (i : Nat) (v : Value), us[i]? = some v → ∃ (k : Str) (t : Tok), ks[i]? = some k ∧ v = Value.str k t
  | [], _, .nil, i, v, h => by simp at h
  | k :: ks, _, .cons r t, 0, v, h => by
    obtain ⟨tk, e⟩ := r
    simp at h
    exact ⟨k, tk, rfl, h ▸ e⟩
  | k :: ks, _, .cons r t, i + 1, v, h => by
    have := strs_vals t i v (by simpa using h)
    simpa using this
theorem vals_strs : ∀ {out : List Value} {bs : List Str}, PySem.W.EachIs StrV out bs → Vals (bs.map V.str) out
  | _, _, .nil => .nil
  | _, _, .cons h t => .cons h (vals_strs t)
section
variable {X : Cx}
def rSetX (P : Program) (w : World) (K : PySem.W.Frag) : List V → Hp → VK → Prop := fun xs H Q => ∃ (l : Addr) (ks : List Str), xs = [V.ref l] ∧ SqL K H l (ks.map V.str) ∧ ks.length < 64 ∧ ∀ a L, H a = none → (∀ x, x ∈ L ↔ x ∈ ks) → L.Nodup → L.length < 64 → Q (.ref a) (upd H a (SetXO P w a L))
theorem nodup_le {α : Type} [DecidableEq α] {M cs : List α} (hm : M.Nodup) (hc : ∀ y ∈ M, y ∈ cs) : M.length ≤ cs.length := by
  induction M generalizing cs with
  | nil => exact Nat.zero_le _
  | cons m M ih =>
    obtain ⟨a, b⟩ := List.nodup_cons.mp hm
    have hmc := hc m List.mem_cons_self
    have := ih (cs := cs.erase m) b fun y hy => (List.mem_erase_of_ne (show y ≠ m from fun z => a (z ▸ hy))).mpr (hc y (List.mem_cons_of_mem m hy))
    have e := List.length_erase_of_mem hmc
    have := List.length_pos_of_mem hmc
    rw [List.length_cons]
    omega
theorem cr_setX (hc : X.calm = true) : CallR X (.type "set") (rSetX X.prog X.w X.K) := by
  intro pins s σ H xs us Q I r h
  obtain ⟨l, ks, rfl, hl, few, q⟩ := h
  rw [Vals.ref1 r]
  obtain ⟨its, rv, pl, hz⟩ := I.list hl
  have hn : H s.heap.objs.size = none := I.hok.fresh (Nat.le_refl _)
  have len : its.length = ks.length := by rw [← rv.length, List.length_map]
  refine call_setX (P := X.prog) (w := X.w) ks (I.ok.hd hc) pl.isList (fun i v e => strs_vals rv i v (by simpa using e)) (by simpa using len) (by unfold scanBound; omega) fun h' tk L R m keep => ?_
  have fewL : L.length < 64 := Nat.lt_of_le_of_lt (nodup_le R.nd fun y hy => (m y).mp hy) few
  exact ⟨.ref s.heap.objs.size, upd H s.heap.objs.size (SetXO X.prog X.w s.heap.objs.size L), I.laid (t' := tk) keep (Nat.le_refl _) (setXO_new R), rfl, q _ L hn m R.nd fewL⟩
def rSortX (P : Program) (w : World) : List V → Hp → VK → Prop := fun vs H Q => ∃ (a : Addr) (L : List Str), vs = [V.ref a] ∧ H a = some (SetXO P w a L) ∧ L.length < 64 ∧
  ∀ (p : Addr) (bs : List Str), bs.Nodup → (∀ x, x ∈ bs ↔ x ∈ L) → H p = none → Q (.ref p) (upd H p (.lst ((bs.mergeSort (PySem.W.dataLe false PyData.str)).map V.str)))
theorem cr_sortX (hc : X.calm = true) (hu : X.A.units + 64 < cLine) : CallR X (.builtin "sorted") (rSortX X.prog X.w) := by
  intro pins s σ H vs us Q I r h
  obtain ⟨a, L, rfl, ha, few, q⟩ := h
  have R : SetX X.prog X.w s.heap a L := (I.hok a _ ha).1
  rw [Vals.ref1 r]
  refine sorted_setX R (I.ok.hd hc) few (by omega) fun s' p out c bs keep gens os hp hg nb mem each => ?_
  have lb : bs.length < 64 := Nat.lt_of_le_of_lt (nodup_le nb fun y hy => (mem y).mp hy) few
  have hn : H p = none := I.hok.fresh hp
  have lz : ((bs.mergeSort (PySem.W.dataLe false PyData.str)).map V.str).length ≤ sizeLine := by
    rw [List.length_map, List.length_mergeSort, sizeLine_eq]
    omega
  have J := I.call (ch := []) (h' := s'.heap) (g' := s'.gens) (d' := s'.drawn) (t' := s'.toks) (Un.laid keep hp hn) (I.hok.laid keep hp (o := .lst ((bs.mergeSort (PySem.W.dataLe false PyData.str)).map V.str)) ⟨lz, out.toList, c, vals_strs each, hg⟩) (by rw [gens]; exact I.bare) (fun _ z => nomatch z)
  have e : s' = { s with heap := s'.heap, gens := s'.gens, drawn := s'.drawn, toks := s'.toks } := by
    obtain ⟨_, _, _, _, _⟩ := s'
    cases os
    rfl
  rw [e]
  exact ⟨.ref p, _, J, rfl, q p bs nb mem hn⟩
end
def oSortSetX (e : EV) (μ : Mu) (q : PQ) : Prop := ∃ ks : List Str, lstOf μ e = some (ks.map PyData.str) ∧ ks.length < 64 ∧ ∀ bs : List Str, bs.Nodup → (∀ x, x ∈ bs ↔ x ∈ ks) → q (.new ((bs.map PyData.str).mergeSort leD)) μ
def dSortSetX (ta : TDE) : TDE := fun η μ q E => ta η μ (fun e μ1 => oSortSetX e μ1 q) E
theorem x_dSortSetX {ta : TDE} {η : DEnv} {μ : Mu} {q : PQ} {E : XQ} : dSortSetX ta η μ q E = ta η μ (fun e μ1 => oSortSetX e μ1 q) E := Eq.trans rfl rfl
theorem strs_v {K : PySem.W.Frag} {F : Hp} : ∀ {vs : List V} {ks : List Str}, DRs K F vs (ks.map PyData.str) → vs = ks.map V.str ∧ ∀ k ∈ ks, PyData.strOk k = true
  | _, [], .nil => ⟨rfl, fun k hk => by simp at hk⟩
  | _, k :: _, .cons (.str _ ok) hs => by
    obtain ⟨e, h⟩ := strs_v hs
    refine ⟨by rw [List.map_cons, e], fun x hx => ?_⟩
    rcases List.mem_cons.mp hx with rfl | hx
    · exact ok
    · exact h x hx
theorem drs_str {K : PySem.W.Frag} {F : Hp} : ∀ ks : List Str, (∀ k ∈ ks, PyData.strOk k = true) → DRs K F (ks.map V.str) (ks.map PyData.str)
  | [], _ => .nil
  | k :: ks, h => .cons (.str k (h k List.mem_cons_self)) (drs_str ks fun x hx => h x (List.mem_cons_of_mem k hx))
theorem de_sortSetX {X : Cx} {W : WX} {a : Expr} {ta : TDE} {p p2 pos pos2 : Pos} (hc : X.calm = true) (hu : X.A.units + 64 < cLine) (hg : Gl X "sorted") (hm : X.mg "sorted" = none) (hv : bootBuiltins "sorted" = some (.builtin "sorted")) (hg2 : Gl X "set") (hm2 : X.mg "set" = none) (hv2 : bootBuiltins "set" = some (.type "set")) (ha : DE X W a ta)
    (na : starEach [a] X.env = (false, eval a X.env) :: starEach [] X.env := by rfl)
    (na2 : starEach [.Call (.Name "set" p2) [a] [] pos2] X.env = (false, eval (.Call (.Name "set" p2) [a] [] pos2) X.env) :: starEach [] X.env := by rfl) :
    DE X W (.Call (.Name "sorted" p) [.Call (.Name "set" p2) [a] [] pos2] [] pos) (dSortSetX ta) := by
  obtain ⟨t1, p1, g1⟩ := ha.ex
  have P1 : PE X (.Call (.Name "set" p2) [a] [] pos2) _ := pe_callTy (cr_setX hc) hg2 hm2 hv2 (pa_cons p1 pa_nil na) (by decide) (by decide) na rfl
  refine de_pe (pe_callB (cr_sortX hc hu) hg hm hv (pa_cons P1 pa_nil na2) (by decide) (by decide) na2 rfl) fun s σ η μ Q q E S hq l lx => ?_
  refine g1 s σ η μ _ _ E S hq (fun ev μ1 v s1 hk x1 R1 r1 f1 => ?_) lx
  obtain ⟨ks, h1, h2, h3⟩ := hk
  obtain ⟨b, vs, rfl, hs, hv⟩ := lst_ok R1 r1 h1
  obtain ⟨rfl, ok⟩ := strs_v hv
  refine ⟨b, ks, rfl, SqL.of hs, h2, fun c L hc' hL nL fewL => ?_⟩
  have R2 := R1.put (o := SetXO X.prog X.w c L) hc'
  have x2 := x1.put (o := SetXO X.prog X.w c L) R1 hc'
  refine ⟨c, L, rfl, upd_same, fewL, fun p' bs nb mem hp' => ?_⟩
  have e : (bs.mergeSort (PySem.W.dataLe false PyData.str)).map PyData.str = (bs.map PyData.str).mergeSort leD := List.map_mergeSort fun _ _ _ _ => rfl
  exact ans_new R2 x2 l (ds := (bs.map PyData.str).mergeSort leD) (h3 bs nb fun x => (mem x).trans (hL x)) (by rw [← e]; exact drs_str _ fun k hk => ok k ((hL k).mp ((mem k).mp (List.mem_mergeSort.mp hk)))) hp'
section
variable {μ : Mu} {q : PQ} {ks : List Str}
theorem sortSetX_d (few : ks.length < 64) (h : ∀ bs : List Str, bs.Nodup → (∀ x, x ∈ bs ↔ x ∈ ks) → q (.new ((bs.map PyData.str).mergeSort leD)) μ) : oSortSetX (.dat (.list (ks.map PyData.str))) μ q := ⟨ks, rfl, few, h⟩
end
end DL
set_option Elab.async false
set_option linter.all false
set_option maxRecDepth 100000
set_option maxHeartbeats 4000000
namespace DL
open PySem PySem.Spec PyProof.Rows L2
/-! ### x in C, C a written tuple of texts -/
structure GTup (K : PySem.W.Frag) (a : Addr) (ks : List Str) : Prop where
  ex : ∃ (o : Obj) (its : Array Value) (n : Nat), K.lookup a = some o ∧ o.cls = .type "tuple" ∧ o.data = .seq its n ∧ its.size ≤ sizeLine ∧ Vals (ks.map V.str) its.toList
  ok : ks.all PyData.strOk = true
theorem GTup.sq {K : PySem.W.Frag} {a : Addr} {ks : List Str} (G : GTup K a ks) (H : Hp) : SqT K H a (ks.map V.str) := .inr G.ex
theorem dps_str {K : PySem.W.Frag} {H : Hp} : ∀ ks : List Str, DpAll K H (ks.map V.str) (ks.map PyData.str)
  | [] => .nil
  | k :: ks => .cons (.str k) (dps_str ks)
theorem lay_strs : ∀ ks : List Str, ks.all PyData.strOk = true → PyData.canLay0 (.tuple (ks.map PyData.str)) = true := by
  intro ks h
  rw [PyData.canLay0]
  induction ks with
  | nil => rfl
  | cons k ks ih =>
    rw [List.all_cons, Bool.and_eq_true] at h
    rw [List.map_cons, PyData.canLayAll0, PyData.canLay0, h.1, ih h.2]
    rfl
def oMemG (neg : Bool) (a : Addr) (ks : List Str) : OD := fun x y μ q => match x, y with
  | .dat d, .raw (.ref b) => b = a ∧ noD d = true ∧ d.depth ≤ 60 ∧ q (.dat (.bool (if neg then !has (ks.map PyData.str) d else has (ks.map PyData.str) d))) μ
  | _, _ => False
theorem memG_d {neg : Bool} {a : Addr} {ks : List Str} {d : PyData} {μ : Mu} {q : PQ} : oMemG neg a ks (.dat d) (.raw (.ref a)) μ q = (noD d = true ∧ d.depth ≤ 60 ∧ q (.dat (.bool (if neg then !has (ks.map PyData.str) d else has (ks.map PyData.str) d))) μ) := propext ⟨fun h => h.2, fun h => ⟨rfl, h⟩⟩
theorem os_memG {K : PySem.W.Frag} {neg : Bool} {a : Addr} {ks : List Str} (G : GTup K a ks) : OpS K (rMemA K neg) (oMemG neg a ks) := by
  intro s0 N0 s μ x y ex ey q Q R xt rx fx ry fy h l
  unfold oMemG at h
  split at h
  · rename_i d b
    obtain ⟨rfl, n1, dp, h⟩ := h
    obtain ⟨a1, a2⟩ := dat_ok (e := .dat d) R rx rfl n1
    have ey : y = .ref b := ry
    subst ey
    exact .inl ⟨d, .tuple (ks.map PyData.str), ks.map PyData.str, a1, .tup (G.sq _) (dps_str ks), rfl, a2, lay_strs ks G.ok, dp, ans R xt l h (.bl _)⟩
  · exact h.elim
end DL
set_option Elab.async false
set_option linter.all false
set_option maxRecDepth 100000
set_option maxHeartbeats 4000000
namespace DL
open PySem PySem.Spec PyProof.Rows L2
/-! ### more of cells -/
theorem c_mul {n : Nat} {k : Int} {μ : Mu} {q : PQ} : oMul (.loc n) (.dat (.int k)) μ q = lcR μ[n]? fun xs => (-1000 ≤ k ∧ k ≤ 1000 ∧ xs.length ≤ 1000) ∧ q (.new (List.replicate k.toNat xs).flatten) μ := by
  simp only [oMul, lstOf, lcR]
  all_goals (cases μ[n]? with
    | none => rfl
    | some c => cases c <;> rfl)
theorem revK_c {n : Nat} {μ : Mu} {q : PQ} : revK q μ (.loc n) = lcR μ[n]? fun xs => q (.new xs.reverse) μ := by
  simp only [revK, lstOf, lcR]
  all_goals (cases μ[n]? with
    | none => rfl
    | some c => cases c <;> rfl)
end DL
set_option Elab.async false
set_option linter.all false
set_option maxRecDepth 100000
set_option maxHeartbeats 4000000
namespace DL
open PySem PySem.Spec PyProof.Rows L2
/-! ### exceptions whose context is None -/
/-- try: body, except C: a suite that raises -/
def sTryX (K : PySem.W.Frag) (c : Value) (tb ts : TDS) : TDS := fun d E η μ => tb d (fun x μ' => ∃ b, PySem.W.exmOne K (.ref x.c) c = some b ∧ (b = true → ts d E η μ') ∧ (b = false → E x μ')) η μ
section
variable {K : PySem.W.Frag} {c : Value} {tb ts v : TDS} {d : DEnds} {E : XQ} {η : DEnv} {μ : Mu}
theorem s_tryX (h : tb d (fun x μ' => ∃ b, PySem.W.exmOne K (.ref x.c) c = some b ∧ (b = true → ts d E η μ') ∧ (b = false → E x μ')) η μ) : sTryX K c tb ts d E η μ := h
theorem q_tryX (h : sTryX K c tb ts { d with nx := v d E } E η μ) : sSeq (sTryX K c tb ts) v d E η μ := h
end
end DL
set_option Elab.async false
set_option linter.all false
set_option maxRecDepth 100000
set_option maxHeartbeats 4000000
namespace DL
open PySem PySem.Spec PyProof.Rows L2
/-! ### range(i, j, c), c above nought -/
section
variable {X : Cx} {W : WX} {tg a b c : Expr} {t : TDA} {p pos : Pos}
/-! ### x, y, z = a, b, c -/
def parK3 (i j l : Nat) (d : DEnds) (η : DEnv) (es : List EV) (μ1 : Mu) : Prop := match es with
  | [e1, e2, e3] => (noNew e1 = true ∧ noNew e2 = true ∧ noNew e3 = true) ∧ d.nx (((η.set i (some e1)).set j (some e2)).set l (some e3)) μ1
  | _ => False
def sPar3 (i j l : Nat) (t : TDA) : TDS := fun d E η μ => t η μ (fun es μ1 => parK3 i j l d η es μ1) E
end
section
variable {t v : TDS} {ta : TDA} {d : DEnds} {E : XQ} {η : DEnv} {μ : Mu} {i j l : Nat}
theorem s_par3 (h : ta η μ (fun es μ1 => parK3 i j l d η es μ1) E) : sPar3 i j l ta d E η μ := h
theorem q_par3 (h : sPar3 i j l ta { d with nx := v d E } E η μ) : sSeq (sPar3 i j l ta) v d E η μ := h
end
end DL
set_option Elab.async false
set_option linter.all false
set_option maxRecDepth 100000
set_option maxHeartbeats 4000000
namespace DL
open PySem PySem.Spec PyProof.Rows L2
/-! ### methods by their bodies -/
end DL
set_option Elab.async false
set_option linter.all false
set_option maxRecDepth 100000
set_option maxHeartbeats 4000000
namespace DL
open PySem PySem.Spec PyProof.Rows L2
/-! ### sorted(d), d a dict that is a part of a tree -/
end DL
set_option Elab.async false
set_option linter.all false
set_option maxRecDepth 100000
set_option maxHeartbeats 4000000
namespace DL
open PySem PySem.Spec PyProof.Rows L2
/-! ### xs.pop(i) -/
theorem DRs.eraseIdx {K : PySem.W.Frag} {F : Hp} {vs : List V} {ds : List PyData} (h : DRs K F vs ds) (i : Nat) : DRs K F (vs.eraseIdx i) (ds.eraseIdx i) := by
  rw [List.eraseIdx_eq_take_drop_succ, List.eraseIdx_eq_take_drop_succ]
  exact (h.take _).append (h.drop _)
end DL
set_option Elab.async false
set_option linter.all false
set_option maxRecDepth 100000
set_option maxHeartbeats 4000000
namespace DL
open PySem PySem.Spec PyProof.Rows L2
/-! ### what goes out of a def: a part of a cell of its own -/
/-! ### for x in a list that is a part of a tree -/
/-! ### [parts of a cell, in some turn]: the parts become a new list's -/
end DL
set_option Elab.async false
set_option linter.all false
set_option maxRecDepth 100000
set_option maxHeartbeats 4000000
namespace DL
open PySem PySem.Spec PyProof.Rows L2
/-! ### max(a, b), min(a, b) of two alike data -/
/-! .. as readings -/
/-! {} of either kind -/
end DL
set_option Elab.async false
set_option linter.all false
set_option maxRecDepth 100000
set_option maxHeartbeats 4000000
namespace DL
open PySem PySem.Spec PyProof.Rows L2
/-! ### sorted(d), d a dict of any keys that is a part of a tree -/
/-! ### things of one kind that may be a dict's keys -/
/-! a dict of things, a part of an instance -/
end DL
set_option Elab.async false
set_option linter.all false
set_option maxRecDepth 100000
set_option maxHeartbeats 4000000
namespace DL
open PySem PySem.Spec PyProof.Rows L2
/-! ### len of a list that is a part of a tree -/
end DL
set_option Elab.async false
set_option linter.all false
set_option maxRecDepth 100000
set_option maxHeartbeats 4000000
namespace DL
open PySem PySem.Spec PyProof.Rows L2
/-! ### lists of lists of things, parts of a tree -/
end DL
set_option Elab.async false
set_option linter.all false
set_option maxRecDepth 100000
set_option maxHeartbeats 4000000
namespace DL
open PySem PySem.Spec PyProof.Rows L2
/-! ### a cell of its own told by its address alone -/
/-! ### things: numbers, texts, legs -/
def ltTx (a b : Str) : Bool := decide (a.cps.toList < b.cps.toList)
/-- legs: pairs of texts -/
abbrev Lg := Str × Str
def lgD (l : Lg) : PyData := .tuple [.str l.1, .str l.2]
def ltL (a b : Lg) : Bool := lx2 ltTx ltTx a b
theorem ord_lg : OrdE lgD ltL := ord_str.t2 ord_str
theorem enc_lg : Enc lgD 1 := enc_str.t2 enc_str
end DL
set_option Elab.async false
set_option linter.all false
set_option maxRecDepth 100000
set_option maxHeartbeats 4000000
namespace DL
open PySem PySem.Spec PyProof.Rows L2
/-! ### a text times a number -/
/-! ### list(d), d a dict that is a part of a tree -/
/-! ### xs[i] = e, xs a list that is a part of a tree, e new -/
def oSetLT : EV → EV → EV → Mu → (Mu → Prop) → Prop := fun z x y μ q => match x, y with
  | .at n p b, .dat (.int k) => nodK μ n p b fun kd ts => kd = .lst ∧ ∃ j, ixN ts.length k = some j ∧ atK (some j) ts fun _ _ => treeK (fun t => q (putAt μ n p (.nod .lst b (ts.set j t)))) z
  | _, _ => False
def sSetLT (to ti tv : TDE) : TDS := fun d E η μ => tv η μ (fun z μ1 => to η μ1 (fun x μ2 => ti η μ2 (fun y μ3 => oSetLT z x y μ3 fun μ4 => d.nx η μ4) fun _ _ => False) fun _ _ => False) E
theorem s_setLT {to ti tv : TDE} {d : DEnds} {E : XQ} {η : DEnv} {μ : Mu} (h : tv η μ (fun z μ1 => to η μ1 (fun x μ2 => ti η μ2 (fun y μ3 => oSetLT z x y μ3 fun μ4 => d.nx η μ4) fun _ _ => False) fun _ _ => False) E) : sSetLT to ti tv d E η μ := h
theorem q_setLT {to ti tv : TDE} {v : TDS} {d : DEnds} {E : XQ} {η : DEnv} {μ : Mu} (h : tv η μ (fun z μ1 => to η μ1 (fun x μ2 => ti η μ2 (fun y μ3 => oSetLT z x y μ3 fun μ4 => v d E η μ4) fun _ _ => False) fun _ _ => False) E) : sSeq (sSetLT to ti tv) v d E η μ := h
end DL
namespace DL
open PySem PySem.Spec PyProof.Rows L2
end DL
set_option Elab.async false
set_option linter.all false
set_option maxRecDepth 100000
set_option maxHeartbeats 4000000
namespace DL
open PySem PySem.Spec PyProof.Rows L2
/-! ### sets of tuples of texts: what is asked of a member, and the search -/
abbrev TxRow := List Str × Addr
abbrev TxAt (P : Program) (w : World) (h : Heap) (r : TxRow) : Prop := IsTupleKey (strKind P w) h r.1 r.2
abbrev txH (P : Program) (w : World) (k : List Str) : Int := tupleKeyHash (strKind P w) k
end DL
set_option Elab.async false
set_option linter.all false
set_option maxRecDepth 100000
set_option maxHeartbeats 4000000
namespace DL
open PySem PySem.Spec PyProof.Rows L2
/-! ### sets of tuples of texts: the set, and the search in it -/
def cellsOf (P : Program) (w : World) (m : List TxRow) : List (Int × Value) := m.map fun r => (txH P w r.1, .ref r.2)
structure SetPs (P : Program) (w : World) (h : Heap) (a : Addr) (m : List TxRow) (es : Array (Int × Value)) (ep : Nat) (t : SetTable) : Prop where
  here : ∃ o, h.get? a = some o ∧ o.ExactSet ∧ o.data = .set es ep t
  ents : es.toList = cellsOf P w m
  tb : TabOk t (m.map fun r => txH P w r.1)
  kn : (m.map Prod.fst).Nodup
  each : ∀ r ∈ m, TxAt P w h r
  shown : w.params.followText "set-order" = true ∨ t.led = true
  space : m.length * 5 < t.mask * 3
  small : m.length < 64
theorem cells_len {P : Program} {w : World} {m : List TxRow} {es : Array (Int × Value)} (h : es.toList = cellsOf P w m) : es.size = m.length := by
  rw [← Array.length_toList, h]
  exact List.length_map _
theorem fit_by {t : SetTable} {n : Nat} (sz : t.place.size = n) (dm : t.dummies = #[]) (le : n ≤ t.mask) : t.fits n = true := by
  unfold SetTable.fits SetTable.fill
  simp [dm, sz, le]
section
variable {P : Program} {w : World} {A : Around} {E : Value → Shared → Prop} {s : Shared} {a : Addr} {m : List TxRow} {es : Array (Int × Value)} {ep : Nat} {t : SetTable}
theorem SetPs.fit {h : Heap} (R : SetPs P w h a m es ep t) : t.fits es.size = true := by
  have := R.space
  refine fit_by ?_ R.tb.dm ?_
  · rw [R.tb.sz, cells_len R.ents, List.length_map]
  · rw [cells_len R.ents]
    omega
end
end DL
set_option Elab.async false
set_option linter.all false
set_option maxRecDepth 100000
set_option maxHeartbeats 4000000
namespace DL
open PySem PySem.Spec PyProof.Rows L2
/-! ### sets of tuples of texts: growing -/
end DL
set_option Elab.async false
set_option linter.all false
set_option maxRecDepth 100000
set_option maxHeartbeats 4000000
namespace DL
open PySem PySem.Spec PyProof.Rows L2
/-! ### set(xs), xs a list of tuples of texts -/
structure Came (ks : List TxRow) (i : Nat) (m : List TxRow) : Prop where
  of : ∀ r ∈ m, r ∈ ks.take i
  all : ∀ r ∈ ks.take i, r.1 ∈ m.map Prod.fst
  le : m.length ≤ i
theorem Came.step {ks m m' : List TxRow} {i : Nat} {x : TxRow} (g : Came ks i m) (hx : ks[i]? = some x) (e1 : x.1 ∈ m.map Prod.fst → m' = m) (e2 : x.1 ∉ m.map Prod.fst → m'.Perm (x :: m)) : Came ks (i + 1) m' := by
  have t : ks.take (i + 1) = ks.take i ++ [x] := by rw [List.take_add_one, hx]; rfl
  by_cases h : x.1 ∈ m.map Prod.fst
  · cases e1 h
    refine ⟨fun r hr => ?_, fun r hr => ?_, Nat.le_succ_of_le g.le⟩
    · rw [t]
      exact List.mem_append_left _ (g.of r hr)
    · rw [t, List.mem_append, List.mem_singleton] at hr
      rcases hr with hr | rfl
      · exact g.all r hr
      · exact h
  · have pm := e2 h
    refine ⟨fun r hr => ?_, fun r hr => ?_, by rw [pm.length_eq]; exact Nat.succ_le_succ g.le⟩
    · rw [t, List.mem_append, List.mem_singleton]
      rcases List.mem_cons.mp (pm.mem_iff.mp hr) with z | z
      · exact .inr z
      · exact .inl (g.of r z)
    · rw [(pm.map Prod.fst).mem_iff, List.map_cons, List.mem_cons]
      rw [t, List.mem_append, List.mem_singleton] at hr
      rcases hr with hr | rfl
      · exact .inr (g.all r hr)
      · exact .inl rfl
section
variable {P : Program} {w : World} {A : Around} {E : Value → Shared → Prop} {s : Shared}
theorem SetPs.kept {h h' : Heap} {a : Addr} {m : List TxRow} {es : Array (Int × Value)} {ep : Nat} {t : SetTable} (R : SetPs P w h a m es ep t) (k : ∀ o, h.get? a = some o → h'.get? a = some o) (e : ∀ r ∈ m, TxAt P w h' r) : SetPs P w h' a m es ep t := by
  obtain ⟨o, ho, more⟩ := R.here
  exact { R with here := ⟨o, k o ho, more⟩, each := e }
end
end DL
set_option Elab.async false
set_option linter.all false
set_option maxRecDepth 100000
set_option maxHeartbeats 4000000
namespace DL
open PySem PySem.Spec PyProof.Rows L2
/-! ### sorted(set(xs)), xs a list of tuples of texts -/
/-! ### as an expression -/
end DL
set_option Elab.async false
set_option linter.all false
set_option maxRecDepth 100000
set_option maxHeartbeats 4000000
namespace DL
open PySem PySem.Spec PyProof.Rows L2
/-! ### xs += t, t a tuple -/
end DL
set_option Elab.async false
set_option linter.all false
set_option maxRecDepth 100000
set_option maxHeartbeats 4000000
namespace DL
open PySem PySem.Spec PyProof.Rows L2
/-! ### for, its body laying cells that stay -/
def sForG (vs : List Nat) (ti : TDI) (g : TDG) (tb : TDS) : TDS := fun d E η μ => ti η μ (fun items G μ1 => ∃ Inv : Nat → DEnv → Mu → Prop, Inv 0 (forget η vs) μ1 ∧ (∀ i η μ, Inv i η μ → G μ) ∧
  (∀ (i : Nat) (e : EV) η μ, items[i]? = some e → Inv i η μ → g e η μ fun η2 μ2 => tb { nx := fun η' μ' => Inv (i + 1) (forget η' vs) μ', ct := fun η' μ' => Inv (i + 1) (forget η' vs) μ', bk := d.nx, rt := d.rt } E η2 μ2) ∧
  ∀ η μ, Inv items.length η μ → d.nx η μ) E
def ForGG (vs : List Nat) (g : TDG) (tb : TDS) (d : DEnds) (E : XQ) (η : DEnv) (items : List EV) (G : Mu → Prop) (μ1 : Mu) : Prop := ∃ Inv : Nat → DEnv → Mu → Prop, Inv 0 (forget η vs) μ1 ∧ (∀ i η μ, Inv i η μ → G μ) ∧
  (∀ (i : Nat) (e : EV) η μ, items[i]? = some e → Inv i η μ → g e η μ fun η2 μ2 => tb { nx := fun η' μ' => Inv (i + 1) (forget η' vs) μ', ct := fun η' μ' => Inv (i + 1) (forget η' vs) μ', bk := d.nx, rt := d.rt } E η2 μ2) ∧
  ∀ η μ, Inv items.length η μ → d.nx η μ
section
variable {t v : TDS} {ti : TDI} {g : TDG} {d : DEnds} {E : XQ} {η : DEnv} {μ μ1 : Mu} {vs : List Nat}
theorem s_forG (h : ti η μ (ForGG vs g t d E η) E) : sForG vs ti g t d E η μ := h
theorem q_forG (h : ti η μ (ForGG vs g t { d with nx := v d E } E η) E) : sSeq (sForG vs ti g t) v d E η μ := h
end
end DL
set_option Elab.async false
set_option linter.all false
set_option maxRecDepth 100000
set_option maxHeartbeats 4000000
namespace DL
open PySem PySem.Spec PyProof.Rows L2 NdefX LamX
/-! ### max of three whole numbers -/
/-! ### for x in A + B, both lists that are parts of trees -/
/-! ### what is walked, by one of two readings -/
/-! ### a call that is told of some cells alone -/
def pickM (is : List Nat) (μ : Mu) : Mu := is.map fun i => (μ[i]?).getD .dead
theorem pickM_len {is : List Nat} {μ : Mu} : (pickM is μ).length = is.length := by unfold pickM; simp
theorem pickM_get {is : List Nat} {μ : Mu} {k i : Nat} (h : is[k]? = some i) : (pickM is μ)[k]? = some ((μ[i]?).getD .dead) := by unfold pickM; rw [List.getElem?_map, h]; rfl
/-- the world seen so -/
abbrev Wd.pick (s : Wd) (is : List Nat) : Wd := { s with L := fun k => s.L (is.getD k 0), O := fun k a => s.O (is.getD k 0) a }
def PickOk (is : List Nat) (μ : Mu) : Prop := is.Nodup ∧ ∀ i ∈ is, i < μ.length
theorem getD_get {is : List Nat} {k : Nat} (h : k < is.length) : is[k]? = some (is.getD k 0) := by
  rw [List.getD_eq_getElem?_getD, List.getElem?_eq_getElem h]
  rfl
section
variable {K : PySem.W.Frag} {s s' : Wd} {μ : Mu} {is : List Nat}
theorem PickOk.cell (h : PickOk is μ) {k : Nat} (hk : k < is.length) : is.getD k 0 < μ.length ∧ (pickM is μ)[k]? = μ[is.getD k 0]? := by
  have e := getD_get hk
  have h1 := h.2 _ (List.mem_of_getElem? e)
  refine ⟨h1, ?_⟩
  rw [pickM_get e, List.getElem?_eq_getElem h1]
  rfl
theorem PickOk.inj (h : PickOk is μ) {k j : Nat} (hk : k < is.length) (hj : j < is.length) (e : is.getD k 0 = is.getD j 0) : k = j := by
  have e1 := getD_get hk
  have e2 := getD_get hj
  rw [List.getElem?_eq_getElem hk] at e1
  rw [List.getElem?_eq_getElem hj] at e2
  have z := List.pairwise_iff_getElem.mp h.1
  have e3 : is[k] = is[j] := by rw [Option.some.inj e1, Option.some.inj e2, e]
  by_cases q : k < j
  · exact absurd e3 (z k j hk hj q)
  · by_cases q2 : j < k
    · exact absurd e3.symm (z j k hj hk q2)
    · omega
theorem Rep.pick (R : Rep K s μ) (h : PickOk is μ) : Rep K (s.pick is) (pickM is μ) := by
  refine ⟨R.sub, fun k c hc => ?_, fun k j a hk hj h1 h2 => ?_, fun k hk => ?_, fun k a hk h1 => ?_, fun k t ht => ?_⟩
  · have hk : k < is.length := by have := (List.getElem?_eq_some_iff.mp hc).1; rw [pickM_len] at this; exact this
    rw [(h.cell hk).2] at hc
    exact (R.cell _ c hc).atL
  · rw [pickM_len] at hk hj
    exact h.inj hk hj (R.dis _ _ a (h.cell hk).1 (h.cell hj).1 h1 h2)
  · rw [pickM_len] at hk
    exact R.root _ (h.cell hk).1
  · rw [pickM_len] at hk
    exact R.live _ a (h.cell hk).1 h1
  · have hk : k < is.length := by have := (List.getElem?_eq_some_iff.mp ht).1; rw [pickM_len] at this; exact this
    rw [(h.cell hk).2] at ht
    obtain ⟨a, b, c⟩ := R.tree _ t ht
    exact ⟨a, b, c⟩
theorem CellAt.keeps {s' : Wd} {a : Addr} {c : Cell} (h : CellAt K s a c) (e : Same s.F s'.F) (k : Keeps s.F s.H s'.F s'.H a) : CellAt K s' a c := by
  cases c with
  | lst xs =>
    obtain ⟨h0, vs, h1, h2⟩ := h
    exact ⟨k.2 h0 (fun ws z => by rw [h1] at z; cases z), vs, k.1.trans h1, h2.mono e⟩
  | frz xs => obtain ⟨vs, h1, h2⟩ := h; exact ⟨vs, e _ _ h1, h2.mono e⟩
  | dct kvs =>
    obtain ⟨h0, vs, h1, h2, h3⟩ := h
    exact ⟨k.2 h0 (fun ws z => by rw [h1] at z; cases z), vs, k.1.trans h1, h2, h3.mono e⟩
  | dck kvs =>
    obtain ⟨h0, vs, h1, h2, h3⟩ := h
    exact ⟨k.2 h0 (fun ws z => by rw [h1] at z; cases z), vs, k.1.trans h1, h2, h3.mono e⟩
  | abs P =>
    obtain ⟨xs, hP, h0, vs, h1, h2⟩ := h
    exact ⟨xs, hP, k.2 h0 (fun ws z => by rw [h1] at z; cases z), vs, k.1.trans h1, h2.mono e⟩
  | tab P nm =>
    obtain ⟨rfl, ht⟩ := h
    obtain ⟨ps, h1, _⟩ := ht.ex
    exact ⟨rfl, ht.to e (k.2 ht.nf (fun ws z => by rw [h1] at z; cases z)) fun ps hp => k.1.trans hp⟩
  | own t => exact fun z => h (k.1.symm.trans z)
  | dead => exact fun z => h (k.1.symm.trans z)
end
/-- what is handed over, its cells by the places in the pick -/
inductive DisP (P : Program) (w : World) (mg : Str → Option Value) (base : Heap) (D : Need → Prop) (is : List Nat) : EV → EV → Prop
  | dat (d : PyData) : DisP P w mg base D is (.dat d) (.dat d)
  | loc {n k : Nat} : is[k]? = some n → DisP P w mg base D is (.loc n) (.loc k)
  | fn {N N' : Need} {k : Nat} {g : PyData → Option Int} : Left D N N' → DisP P w mg base D is (.per (wP P w mg base N k g)) (.per (wP P w mg base N' k g))
inductive DisPs (P : Program) (w : World) (mg : Str → Option Value) (base : Heap) (D : Need → Prop) (is : List Nat) : List EV → List EV → Prop
  | nil : DisPs P w mg base D is [] []
  | cons {e e' : EV} {es es' : List EV} : DisP P w mg base D is e e' → DisPs P w mg base D is es es' → DisPs P w mg base D is (e :: es) (e' :: es')
section
variable {P : Program} {w : World} {mg : Str → Option Value} {base : Heap} {D : Need → Prop} {K : PySem.W.Frag} {s : Wd} {N : Nat} {C : CMap} {is : List Nat}
theorem DisP.ok {v : V} {y y' : EV} (hD : ∀ N, D N → N.ψ K (layC s.F C)) (nF : ∀ a u, C a = some u → s.F a = none) (h : DisP P w mg base D is y y') (r : VR K s N v y) : VR K (({ s with H := layC s.H C, F := layC s.F C } : Wd).pick is) is.length v y' := by
  cases h with
  | dat d => exact DR.mono (same_lay nF) r
  | loc hk =>
    rename_i n k
    have r' : n < N ∧ v = .ref (s.L n) := r
    have hl := (List.getElem?_eq_some_iff.mp hk).1
    have e := getD_get hl
    rw [hk] at e
    refine ⟨hl, ?_⟩
    show v = .ref (s.L (is.getD k 0))
    rw [← Option.some.inj e]
    exact r'.2
  | fn l => exact left_ok hD (same_lay nF) l r
theorem DisPs.ok (hD : ∀ N, D N → N.ψ K (layC s.F C)) (nF : ∀ a u, C a = some u → s.F a = none) : ∀ {vs : List V} {es es' : List EV}, DisPs P w mg base D is es es' → VL K s N vs es → VL K (({ s with H := layC s.H C, F := layC s.F C } : Wd).pick is) is.length vs es'
  | _, _, _, .nil, .nil => .nil
  | _, _, _, .cons h hs, .cons r rs => .cons (h.ok hD nF r) (DisPs.ok hD nF hs rs)
end
end DL
set_option Elab.async false
set_option linter.all false
set_option maxRecDepth 100000
set_option maxHeartbeats 4000000
namespace DL
open PySem PySem.Spec PyProof.Rows L2 NdefX LamX
/-! ### what goes out of a def: a new list, its last item a cell of the def's own -/
end DL
set_option Elab.async false
set_option linter.all false
set_option maxRecDepth 100000
set_option maxHeartbeats 4000000
namespace DL
open PySem PySem.Spec PyProof.Rows L2
/-! ### exceptions with one field -/
def rfK (C : Addr) (f : Str) (E : XQ) : List EV → Mu → Prop := fun es μ1 => match es with
  | [.dat d] => E ⟨C, some [(f, d)]⟩ μ1
  | _ => False
def sRaiseF (C : Addr) (f : Str) (t : TDA) : TDS := fun _ E η μ => t η μ (rfK C f E) E
theorem s_raiseF {C : Addr} {f : Str} {t : TDA} {d : DEnds} {E : XQ} {η : DEnv} {μ : Mu} (h : t η μ (rfK C f E) E) : sRaiseF C f t d E η μ := h
theorem q_raiseF {C : Addr} {f : Str} {t : TDA} {d : DEnds} {E : XQ} {η : DEnv} {μ : Mu} {v : TDS} (h : t η μ (rfK C f E) E) : sSeq (sRaiseF C f t) v d E η μ := h
end DL
set_option Elab.async false
set_option linter.all false
set_option maxRecDepth 100000
set_option maxHeartbeats 4000000
namespace DL
open PySem PySem.Spec PyProof.Rows L2
/-! ### e.f, e a caught exception that is kept -/
/-! ### try with two clauses, either keeping its exception -/
end DL
set_option Elab.async false
set_option linter.all false
set_option maxRecDepth 100000
set_option maxHeartbeats 4000000
namespace DL
open PySem PySem.Spec PyProof.Rows L2
/-! ### an exception that leaves a comprehension -/
end DL
set_option Elab.async false
set_option linter.all false
set_option maxRecDepth 100000
set_option maxHeartbeats 4000000
namespace DL
open PySem PySem.Spec PyProof.Rows L2
end DL
set_option Elab.async false
set_option linter.all false
set_option maxRecDepth 100000
set_option maxHeartbeats 4000000
namespace DL
open PySem PySem.Spec PyProof.Rows L2
/-! ### .. by data -/
end DL
set_option Elab.async false
set_option linter.all false
set_option maxRecDepth 100000
set_option maxHeartbeats 4000000
namespace DL
open PySem PySem.Spec PyProof.Rows L2 TL
/-! ### texts: split at a sign, startswith, int, str, f-strings -/
end DL
set_option Elab.async false
set_option linter.all false
set_option maxRecDepth 100000
set_option maxHeartbeats 4000000
namespace DL
open PySem PySem.Spec PyProof.Rows L2
/-! ### (data, .., a new list): a tuple that is a tree -/
/-! ### a, b = a tuple that is a part of a tree -/
/-! ### a text times a number, nought too -/
end DL
set_option Elab.async false
set_option linter.all false
set_option maxRecDepth 100000
set_option maxHeartbeats 4000000
namespace DL
open PySem PySem.Spec PyProof.Rows L2
/-! ### {"k1": v1, "k2": v2}.get(e, d) -/
end DL
set_option Elab.async false
set_option linter.all false
set_option maxRecDepth 100000
set_option maxHeartbeats 4000000
namespace DL
open PySem PySem.Spec PyProof.Rows L2
/-! ### a list that is a part of a tree, == and != [] -/
end DL
set_option Elab.async false
set_option linter.all false
set_option maxRecDepth 100000
set_option maxHeartbeats 4000000
namespace DL
open PySem PySem.Spec PyProof.Rows L2
/-! ### a comprehension whose items may raise -/
end DL
set_option Elab.async false
set_option linter.all false
set_option maxRecDepth 100000
set_option maxHeartbeats 4000000
namespace B
open PySem L2 DL
def top (i : Nat) : Stmt := PySem.Challenge.pw_boardlay_k02_drawings.main.body.getD i (.Pass ⟨0, 0, 0, 0⟩)
abbrev s_is_name : Stmt := top 24
abbrev s_is_number : Stmt := top 25
abbrev s_is_leg : Stmt := top 30
abbrev s_all_unlike : Stmt := top 31
abbrev s_is_drawing : Stmt := top 32
abbrev s_drawing_of : Stmt := top 33
abbrev s_law_cell_at : Stmt := top 35
abbrev s_law_state : Stmt := top 36
abbrev s_law_next : Stmt := top 37
abbrev s_law_names : Stmt := top 38
abbrev s_law_is_word : Stmt := top 39
abbrev s_law_between : Stmt := top 40
abbrev s_law_is_drawing : Stmt := top 41
abbrev s_law_plain_drawing : Stmt := top 42
abbrev s_law_odd : Stmt := top 43
abbrev s_law_spoilt : Stmt := top 44
abbrev s_law_kinds : Stmt := top 45
abbrev s_law_tried : Stmt := top 46
abbrev s_law : Stmt := top 47
structure Top (K : PySem.W.Frag) (mg : Str → Option Value) where
  a_is_name : Addr
  fd_is_name : FuncData
  F_is_name : Fun K "is_name" "is_name" s_is_name a_is_name fd_is_name
  m_is_name : mg "is_name" = some (.ref a_is_name)
  b_is_name : Binds K fd_is_name ["thing"] []
  a_is_number : Addr
  fd_is_number : FuncData
  F_is_number : Fun K "is_number" "is_number" s_is_number a_is_number fd_is_number
  m_is_number : mg "is_number" = some (.ref a_is_number)
  b_is_number : Binds K fd_is_number ["thing", "least", "most"] []
  a_is_leg : Addr
  fd_is_leg : FuncData
  F_is_leg : Fun K "is_leg" "is_leg" s_is_leg a_is_leg fd_is_leg
  m_is_leg : mg "is_leg" = some (.ref a_is_leg)
  b_is_leg : Binds K fd_is_leg ["thing", "wide", "high"] []
  a_all_unlike : Addr
  fd_all_unlike : FuncData
  F_all_unlike : Fun K "all_unlike" "all_unlike" s_all_unlike a_all_unlike fd_all_unlike
  m_all_unlike : mg "all_unlike" = some (.ref a_all_unlike)
  b_all_unlike : Binds K fd_all_unlike ["row"] []
  a_is_drawing : Addr
  fd_is_drawing : FuncData
  F_is_drawing : Fun K "is_drawing" "is_drawing" s_is_drawing a_is_drawing fd_is_drawing
  m_is_drawing : mg "is_drawing" = some (.ref a_is_drawing)
  b_is_drawing : Binds K fd_is_drawing ["thing"] []
  a_drawing_of : Addr
  fd_drawing_of : FuncData
  F_drawing_of : Fun K "drawing_of" "drawing_of" s_drawing_of a_drawing_of fd_drawing_of
  m_drawing_of : mg "drawing_of" = some (.ref a_drawing_of)
  b_drawing_of : Binds K fd_drawing_of ["thing"] []
  a_law_cell_at : Addr
  fd_law_cell_at : FuncData
  F_law_cell_at : Fun K "_law_cell_at" "_law_cell_at" s_law_cell_at a_law_cell_at fd_law_cell_at
  m_law_cell_at : mg "_law_cell_at" = some (.ref a_law_cell_at)
  b_law_cell_at : Binds K fd_law_cell_at ["_law_script", "_law_k"] []
  a_law_state : Addr
  fd_law_state : FuncData
  F_law_state : Fun K "_law_state" "_law_state" s_law_state a_law_state fd_law_state
  m_law_state : mg "_law_state" = some (.ref a_law_state)
  b_law_state : Binds K fd_law_state ["_law_cell", "_law_k"] []
  a_law_next : Addr
  fd_law_next : FuncData
  F_law_next : Fun K "_law_next" "_law_next" s_law_next a_law_next fd_law_next
  m_law_next : mg "_law_next" = some (.ref a_law_next)
  b_law_next : Binds K fd_law_next ["_law_state_here", "_law_size"] []
  a_law_names : Addr
  fd_law_names : FuncData
  F_law_names : Fun K "_law_names" "_law_names" s_law_names a_law_names fd_law_names
  m_law_names : mg "_law_names" = some (.ref a_law_names)
  b_law_names : Binds K fd_law_names ["_law_state_here", "_law_amount"] []
  a_law_is_word : Addr
  fd_law_is_word : FuncData
  F_law_is_word : Fun K "_law_is_word" "_law_is_word" s_law_is_word a_law_is_word fd_law_is_word
  m_law_is_word : mg "_law_is_word" = some (.ref a_law_is_word)
  b_law_is_word : Binds K fd_law_is_word ["_law_thing"] []
  a_law_between : Addr
  fd_law_between : FuncData
  F_law_between : Fun K "_law_between" "_law_between" s_law_between a_law_between fd_law_between
  m_law_between : mg "_law_between" = some (.ref a_law_between)
  b_law_between : Binds K fd_law_between ["_law_thing", "_law_least", "_law_most"] []
  a_law_is_drawing : Addr
  fd_law_is_drawing : FuncData
  F_law_is_drawing : Fun K "_law_is_drawing" "_law_is_drawing" s_law_is_drawing a_law_is_drawing fd_law_is_drawing
  m_law_is_drawing : mg "_law_is_drawing" = some (.ref a_law_is_drawing)
  b_law_is_drawing : Binds K fd_law_is_drawing ["_law_thing"] []
  a_law_plain_drawing : Addr
  fd_law_plain_drawing : FuncData
  F_law_plain_drawing : Fun K "_law_plain_drawing" "_law_plain_drawing" s_law_plain_drawing a_law_plain_drawing fd_law_plain_drawing
  m_law_plain_drawing : mg "_law_plain_drawing" = some (.ref a_law_plain_drawing)
  b_law_plain_drawing : Binds K fd_law_plain_drawing ["_law_state_here", "_law_name"] []
  a_law_odd : Addr
  fd_law_odd : FuncData
  F_law_odd : Fun K "_law_odd" "_law_odd" s_law_odd a_law_odd fd_law_odd
  m_law_odd : mg "_law_odd" = some (.ref a_law_odd)
  b_law_odd : Binds K fd_law_odd ["_law_state_here"] []
  a_law_spoilt : Addr
  fd_law_spoilt : FuncData
  F_law_spoilt : Fun K "_law_spoilt" "_law_spoilt" s_law_spoilt a_law_spoilt fd_law_spoilt
  m_law_spoilt : mg "_law_spoilt" = some (.ref a_law_spoilt)
  b_law_spoilt : Binds K fd_law_spoilt ["_law_state_here", "_law_thing"] []
  a_law_kinds : Addr
  fd_law_kinds : FuncData
  F_law_kinds : Fun K "_law_kinds" "_law_kinds" s_law_kinds a_law_kinds fd_law_kinds
  m_law_kinds : mg "_law_kinds" = some (.ref a_law_kinds)
  b_law_kinds : Binds K fd_law_kinds ["_law_e"] []
  a_law_tried : Addr
  fd_law_tried : FuncData
  F_law_tried : Fun K "_law_tried" "_law_tried" s_law_tried a_law_tried fd_law_tried
  m_law_tried : mg "_law_tried" = some (.ref a_law_tried)
  b_law_tried : Binds K fd_law_tried ["_law_thing"] []
  a_law : Addr
  fd_law : FuncData
  F_law : Fun K "law" "law" s_law a_law fd_law
  m_law : mg "law" = some (.ref a_law)
  b_law : Binds K fd_law ["_law_script"] []
  n_ValueError : mg "ValueError" = none
  n_all : mg "all" = none
  n_bool : mg "bool" = none
  n_enumerate : mg "enumerate" = none
  n_int : mg "int" = none
  n_isinstance : mg "isinstance" = none
  n_len : mg "len" = none
  n_list : mg "list" = none
  n_max : mg "max" = none
  n_min : mg "min" = none
  n_range : mg "range" = none
  n_set : mg "set" = none
  n_sorted : mg "sorted" = none
  n_str : mg "str" = none
  n_tuple : mg "tuple" = none
  g_FIGURES : ∃ t, mg "FIGURES" = some (.str "0123456789" t)
  g_LETTERS : ∃ t, mg "LETTERS" = some (.str "abcdefghijklmnopqrstuvwxyz" t)
  g_MOST_LEGS : ∃ t, mg "MOST_LEGS" = some (.int 6 t)
  g_MOST_SIDE : ∃ t, mg "MOST_SIDE" = some (.int 5 t)
  g_MOST_SIGNS : ∃ t, mg "MOST_SIGNS" = some (.int 6 t)
  a_KINDS : Addr
  m_KINDS : mg "KINDS" = some (.ref a_KINDS)
  t_KINDS : GTup K a_KINDS ["flat", "through"]
  c_BoardError : Addr
  gx_BoardError : mg "BoardError" = some (.ref c_BoardError)
  c_NoBytes : Addr
  gx_NoBytes : mg "NoBytes" = some (.ref c_NoBytes)
  c_NoDeed : Addr
  gx_NoDeed : mg "NoDeed" = some (.ref c_NoDeed)
  c_NoDrawing : Addr
  gx_NoDrawing : mg "NoDrawing" = some (.ref c_NoDrawing)
  c_NoOrder : Addr
  gx_NoOrder : mg "NoOrder" = some (.ref c_NoOrder)
  c_NoPart : Addr
  gx_NoPart : mg "NoPart" = some (.ref c_NoPart)
  c_NoSize : Addr
  gx_NoSize : mg "NoSize" = some (.ref c_NoSize)
  c_NoSpot : Addr
  gx_NoSpot : mg "NoSpot" = some (.ref c_NoSpot)
  c_NoText : Addr
  gx_NoText : mg "NoText" = some (.ref c_NoText)
  c_NoTie : Addr
  gx_NoTie : mg "NoTie" = some (.ref c_NoTie)
  c_NoTurn : Addr
  gx_NoTurn : mg "NoTurn" = some (.ref c_NoTurn)
  c_NoWay : Addr
  gx_NoWay : mg "NoWay" = some (.ref c_NoWay)
  c_NoWeight : Addr
  gx_NoWeight : mg "NoWeight" = some (.ref c_NoWeight)
  c_NoWord : Addr
  gx_NoWord : mg "NoWord" = some (.ref c_NoWord)
  c_OffFloor : Addr
  gx_OffFloor : mg "OffFloor" = some (.ref c_OffFloor)
  c_OnShut : Addr
  gx_OnShut : mg "OnShut" = some (.ref c_OnShut)
  c_Overlap : Addr
  gx_Overlap : mg "Overlap" = some (.ref c_Overlap)
  c_TooMany : Addr
  gx_TooMany : mg "TooMany" = some (.ref c_TooMany)
  c_TooNear : Addr
  gx_TooNear : mg "TooNear" = some (.ref c_TooNear)
  hd_BoardError : PySem.W.hasDictIn K c_BoardError = true
  xt_BoardError : PySem.W.typeIn K (.ref c_BoardError) = some (.type "type")
  hd_NoBytes : PySem.W.hasDictIn K c_NoBytes = true
  xt_NoBytes : PySem.W.typeIn K (.ref c_NoBytes) = some (.type "type")
  hd_NoDeed : PySem.W.hasDictIn K c_NoDeed = true
  xt_NoDeed : PySem.W.typeIn K (.ref c_NoDeed) = some (.type "type")
  hd_NoDrawing : PySem.W.hasDictIn K c_NoDrawing = true
  xt_NoDrawing : PySem.W.typeIn K (.ref c_NoDrawing) = some (.type "type")
  hd_NoOrder : PySem.W.hasDictIn K c_NoOrder = true
  xt_NoOrder : PySem.W.typeIn K (.ref c_NoOrder) = some (.type "type")
  hd_NoPart : PySem.W.hasDictIn K c_NoPart = true
  xt_NoPart : PySem.W.typeIn K (.ref c_NoPart) = some (.type "type")
  hd_NoSize : PySem.W.hasDictIn K c_NoSize = true
  xt_NoSize : PySem.W.typeIn K (.ref c_NoSize) = some (.type "type")
  hd_NoSpot : PySem.W.hasDictIn K c_NoSpot = true
  xt_NoSpot : PySem.W.typeIn K (.ref c_NoSpot) = some (.type "type")
  hd_NoText : PySem.W.hasDictIn K c_NoText = true
  xt_NoText : PySem.W.typeIn K (.ref c_NoText) = some (.type "type")
  hd_NoTie : PySem.W.hasDictIn K c_NoTie = true
  xt_NoTie : PySem.W.typeIn K (.ref c_NoTie) = some (.type "type")
  hd_NoTurn : PySem.W.hasDictIn K c_NoTurn = true
  xt_NoTurn : PySem.W.typeIn K (.ref c_NoTurn) = some (.type "type")
  hd_NoWay : PySem.W.hasDictIn K c_NoWay = true
  xt_NoWay : PySem.W.typeIn K (.ref c_NoWay) = some (.type "type")
  hd_NoWeight : PySem.W.hasDictIn K c_NoWeight = true
  xt_NoWeight : PySem.W.typeIn K (.ref c_NoWeight) = some (.type "type")
  hd_NoWord : PySem.W.hasDictIn K c_NoWord = true
  xt_NoWord : PySem.W.typeIn K (.ref c_NoWord) = some (.type "type")
  hd_OffFloor : PySem.W.hasDictIn K c_OffFloor = true
  xt_OffFloor : PySem.W.typeIn K (.ref c_OffFloor) = some (.type "type")
  hd_OnShut : PySem.W.hasDictIn K c_OnShut = true
  xt_OnShut : PySem.W.typeIn K (.ref c_OnShut) = some (.type "type")
  hd_Overlap : PySem.W.hasDictIn K c_Overlap = true
  xt_Overlap : PySem.W.typeIn K (.ref c_Overlap) = some (.type "type")
  hd_TooMany : PySem.W.hasDictIn K c_TooMany = true
  xt_TooMany : PySem.W.typeIn K (.ref c_TooMany) = some (.type "type")
  hd_TooNear : PySem.W.hasDictIn K c_TooNear = true
  xt_TooNear : PySem.W.typeIn K (.ref c_TooNear) = some (.type "type")
  xb_BoardError : PySem.W.subIn K (.ref c_BoardError) (.type "BaseException") = some true
  xx_NoDrawing : PySem.W.excIn K c_NoDrawing [.type "ValueError", .type "Exception", .type "BaseException", .type "object"] "ValueError.__new__" = true
  xk_NoDrawing : PySem.W.keepIn K (.ref c_NoDrawing) = true
  xb_NoDrawing : PySem.W.subIn K (.ref c_NoDrawing) (.type "BaseException") = some true
  xe_NoDrawing : ExcC K c_NoDrawing
  sb_NoDrawing_BoardError : PySem.W.subIn K (.ref c_NoDrawing) (.ref c_BoardError) = some true
  ne_NoDrawing_NoBytes : c_NoDrawing ≠ c_NoBytes
  sb_NoDrawing_NoBytes : PySem.W.subIn K (.ref c_NoDrawing) (.ref c_NoBytes) = some false
  ne_NoDrawing_NoDeed : c_NoDrawing ≠ c_NoDeed
  sb_NoDrawing_NoDeed : PySem.W.subIn K (.ref c_NoDrawing) (.ref c_NoDeed) = some false
  ne_NoDrawing_NoOrder : c_NoDrawing ≠ c_NoOrder
  sb_NoDrawing_NoOrder : PySem.W.subIn K (.ref c_NoDrawing) (.ref c_NoOrder) = some false
  ne_NoDrawing_NoPart : c_NoDrawing ≠ c_NoPart
  sb_NoDrawing_NoPart : PySem.W.subIn K (.ref c_NoDrawing) (.ref c_NoPart) = some false
  ne_NoDrawing_NoSize : c_NoDrawing ≠ c_NoSize
  sb_NoDrawing_NoSize : PySem.W.subIn K (.ref c_NoDrawing) (.ref c_NoSize) = some false
  ne_NoDrawing_NoSpot : c_NoDrawing ≠ c_NoSpot
  sb_NoDrawing_NoSpot : PySem.W.subIn K (.ref c_NoDrawing) (.ref c_NoSpot) = some false
  ne_NoDrawing_NoText : c_NoDrawing ≠ c_NoText
  sb_NoDrawing_NoText : PySem.W.subIn K (.ref c_NoDrawing) (.ref c_NoText) = some false
  ne_NoDrawing_NoTie : c_NoDrawing ≠ c_NoTie
  sb_NoDrawing_NoTie : PySem.W.subIn K (.ref c_NoDrawing) (.ref c_NoTie) = some false
  ne_NoDrawing_NoTurn : c_NoDrawing ≠ c_NoTurn
  sb_NoDrawing_NoTurn : PySem.W.subIn K (.ref c_NoDrawing) (.ref c_NoTurn) = some false
  ne_NoDrawing_NoWay : c_NoDrawing ≠ c_NoWay
  sb_NoDrawing_NoWay : PySem.W.subIn K (.ref c_NoDrawing) (.ref c_NoWay) = some false
  ne_NoDrawing_NoWeight : c_NoDrawing ≠ c_NoWeight
  sb_NoDrawing_NoWeight : PySem.W.subIn K (.ref c_NoDrawing) (.ref c_NoWeight) = some false
  ne_NoDrawing_NoWord : c_NoDrawing ≠ c_NoWord
  sb_NoDrawing_NoWord : PySem.W.subIn K (.ref c_NoDrawing) (.ref c_NoWord) = some false
  ne_NoDrawing_OffFloor : c_NoDrawing ≠ c_OffFloor
  sb_NoDrawing_OffFloor : PySem.W.subIn K (.ref c_NoDrawing) (.ref c_OffFloor) = some false
  ne_NoDrawing_OnShut : c_NoDrawing ≠ c_OnShut
  sb_NoDrawing_OnShut : PySem.W.subIn K (.ref c_NoDrawing) (.ref c_OnShut) = some false
  ne_NoDrawing_Overlap : c_NoDrawing ≠ c_Overlap
  sb_NoDrawing_Overlap : PySem.W.subIn K (.ref c_NoDrawing) (.ref c_Overlap) = some false
  ne_NoDrawing_TooMany : c_NoDrawing ≠ c_TooMany
  sb_NoDrawing_TooMany : PySem.W.subIn K (.ref c_NoDrawing) (.ref c_TooMany) = some false
  ne_NoDrawing_TooNear : c_NoDrawing ≠ c_TooNear
  sb_NoDrawing_TooNear : PySem.W.subIn K (.ref c_NoDrawing) (.ref c_TooNear) = some false
  sb_NoDrawing_ValueError : PySem.W.subIn K (.ref c_NoDrawing) (.type "ValueError") = some true
theorem sc_is_name : FnScope ["thing", "sign"] ["thing"] (defScope s_is_name) := ⟨rfl, rfl, rfl, by decide +kernel, rfl, by decide +kernel, by decide +kernel⟩
theorem sc_is_number : FnScope ["thing", "least", "most"] ["thing", "least", "most"] (defScope s_is_number) := ⟨rfl, rfl, rfl, by decide +kernel, rfl, by decide +kernel, by decide +kernel⟩
theorem sc_is_leg : FnScope ["thing", "wide", "high"] ["thing", "wide", "high"] (defScope s_is_leg) := ⟨rfl, rfl, rfl, by decide +kernel, rfl, by decide +kernel, by decide +kernel⟩
theorem sc_all_unlike : FnScope ["row", "place", "thing"] ["row"] (defScope s_all_unlike) := ⟨rfl, rfl, rfl, by decide +kernel, rfl, by decide +kernel, by decide +kernel⟩
theorem sc_is_drawing : FnScope ["thing", "wide", "high", "those", "one"] ["thing"] (defScope s_is_drawing) := ⟨rfl, rfl, rfl, by decide +kernel, rfl, by decide +kernel, by decide +kernel⟩
theorem sc_drawing_of : FnScope ["thing"] ["thing"] (defScope s_drawing_of) := ⟨rfl, rfl, rfl, by decide +kernel, rfl, by decide +kernel, by decide +kernel⟩
theorem sc_law_cell_at : FnScope ["_law_script", "_law_k"] ["_law_script", "_law_k"] (defScope s_law_cell_at) := ⟨rfl, rfl, rfl, by decide +kernel, rfl, by decide +kernel, by decide +kernel⟩
theorem sc_law_state : FnScope ["_law_cell", "_law_k", "_law_drawn"] ["_law_cell", "_law_k"] (defScope s_law_state) := ⟨rfl, rfl, rfl, by decide +kernel, rfl, by decide +kernel, by decide +kernel⟩
theorem sc_law_next : FnScope ["_law_state_here", "_law_size", "_law_found", "_law_mixed"] ["_law_state_here", "_law_size"] (defScope s_law_next) := ⟨rfl, rfl, rfl, by decide +kernel, rfl, by decide +kernel, by decide +kernel⟩
theorem sc_law_names : FnScope ["_law_state_here", "_law_amount", "_law_letters", "_law_shift", "_law_found", "_law_k", "_law_name", "_law_turn", "_law_words"] ["_law_state_here", "_law_amount"] (defScope s_law_names) := ⟨rfl, rfl, rfl, by decide +kernel, rfl, by decide +kernel, by decide +kernel⟩
theorem sc_law_is_word : FnScope ["_law_thing", "_law_good", "_law_sign"] ["_law_thing"] (defScope s_law_is_word) := ⟨rfl, rfl, rfl, by decide +kernel, rfl, by decide +kernel, by decide +kernel⟩
theorem sc_law_between : FnScope ["_law_thing", "_law_least", "_law_most"] ["_law_thing", "_law_least", "_law_most"] (defScope s_law_between) := ⟨rfl, rfl, rfl, by decide +kernel, rfl, by decide +kernel, by decide +kernel⟩
theorem sc_law_is_drawing : FnScope ["_law_thing", "_law_name", "_law_wide", "_law_high", "_law_those", "_law_one", "_law_names_here", "_law_spots"] ["_law_thing"] (defScope s_law_is_drawing) := ⟨rfl, rfl, rfl, by decide +kernel, rfl, by decide +kernel, by decide +kernel⟩
theorem sc_law_plain_drawing : FnScope ["_law_state_here", "_law_name", "_law_wide", "_law_high", "_law_those", "_law_leg", "_law_place", "_law_one"] ["_law_state_here", "_law_name"] (defScope s_law_plain_drawing) := ⟨rfl, rfl, rfl, by decide +kernel, rfl, by decide +kernel, by decide +kernel⟩
theorem sc_law_odd : FnScope ["_law_state_here", "_law_some"] ["_law_state_here"] (defScope s_law_odd) := ⟨rfl, rfl, rfl, by decide +kernel, rfl, by decide +kernel, by decide +kernel⟩
theorem sc_law_spoilt : FnScope ["_law_state_here", "_law_thing", "_law_way", "_law_k", "_law_those", "_law_at", "_law_other", "_law_odd_here"] ["_law_state_here", "_law_thing"] (defScope s_law_spoilt) := ⟨rfl, rfl, rfl, by decide +kernel, rfl, by decide +kernel, by decide +kernel⟩
theorem sc_law_kinds : FnScope ["_law_e", "_law_some", "_law_k"] ["_law_e"] (defScope s_law_kinds) := ⟨rfl, rfl, rfl, by decide +kernel, rfl, by decide +kernel, by decide +kernel⟩
theorem sc_law_tried : FnScope ["_law_thing", "_law_found", "_law_caught", "_law_e", "_law_kinds_here"] ["_law_thing"] (defScope s_law_tried) := ⟨rfl, rfl, rfl, by decide +kernel, rfl, by decide +kernel, by decide +kernel⟩
theorem sc_law : FnScope ["_law_script", "_law_k", "_law_state_here", "_law_thing", "_law_one", "_law_due", "_law_found"] ["_law_script"] (defScope s_law) := ⟨rfl, rfl, rfl, by decide +kernel, rfl, by decide +kernel, by decide +kernel⟩
local macro_rules | `(tactic| walk_at "dx0") => `(tactic| simp (disch := first | assumption | omega) only [↓x_tVal, ↓x_dOp, startD, List.map_cons, List.map_nil, List.length_cons, List.length_nil, Nat.zero_add, Nat.reduceAdd, Nat.reduceSub, List.replicate.eq_1, List.append_nil, ↓x_dCB, ↓x_aCons, ↓x_aNil, oLt, dVar_0, ↓old_ro, ↓lnD_ro, List.length_map, dVar_1, ↓old_dat, ↓oI0_ii, ↓wB_b, ↓ix_ro, at_nn, ↓exitQ_dat, ↓tk_0, ↓x_dC, ↓x_dStl, List.replicate.eq_2, List.replicate, List.cons_append, List.nil_append, oMod, oSub, oPow, List.set_cons_succ, List.set_cons_zero, ↓mul_int, cmul_l, true_and, ↓add_int, cmul_r, ↓oI_ii, ilt_h, ↓stl_dat, ↓nN_dat, ↓x_dLst, ↓x_dFrz, ↓dVar_2, ↓dVar_1, ↓wD_dat, ↓dVar_0, cpow_h, ↓wDs_cons, ↓wDs_nil, Int.reduceToNat, nle_h, ↓exitQ_new, oGt, ↓old_loc, ↓c_ix, ↓lcR_l, List.getElem?_cons_succ, List.getElem?_cons_zero, Option.some.injEq, exists_eq_left', oDiv, ↓x_gSb, ↓c_set, cdiv_h, ↓lcK_l, ↓dVar_3])
local macro_rules | `(tactic| walk_at "one") => `(tactic| (first | refine q_setLT ?_ | refine s_setLT ?_ | refine q_par3 ?_ | refine s_par3 ?_ | refine s_lock ?_ | refine q_lock ?_ | refine s_par ?_ | refine q_aug ?_ | refine s_aug ?_ | refine q_augS ?_ | refine s_augS ?_ | refine q_next ?_ | refine q_when ?_ | refine q_if ?_ | refine q_ret ?_ | refine q_retN ?_ | refine q_set ?_ | refine q_asg ?_ | refine q_par ?_ | refine q_drop ?_ | refine q_forF ?_ | refine q_forG ?_ | refine q_wipe ?_ | refine s_next ?_ | refine s_when ?_ | refine s_if ?_ | refine s_ret ?_ | refine s_retN ?_ | refine s_set ?_ | refine s_asg ?_ | refine s_drop ?_ | refine s_forF ?_ | refine s_forG ?_ | refine s_wipe ?_ | refine s_raise ?_ | refine q_raise ?_ | refine q_tryX ?_ | refine s_tryX ?_ | refine s_raiseF ?_ | refine q_raiseF ?_))
local macro_rules | `(tactic| walk_at "ok") => `(tactic| repeat (with_reducible refine And.intro ?_ ?_; focus (first | assumption | omega | decide | trivial | (simp only [List.length_map, List.length_append, List.length_cons, List.length_nil, List.length_range, List.length_replicate]; omega))))
section
variable {P : Program} {w : World} {K : PySem.W.Frag} {mg : Str → Option Value} {base : Heap}
abbrev sp_law_cell_at := sp_cell
abbrev sp_law_state := sp_state
abbrev sp_law_next := sp_next
theorem okC_law_cell_at (T : Top K mg) : DefAt P w K mg base "_law_cell_at" 1 ["_law_script", "_law_k"] [] [] sp_law_cell_at := by
  refine def_ok sp_law_cell_at T.F_law_cell_at sc_law_cell_at T.m_law_cell_at T.b_law_cell_at (fun cdv A outer s H E hr tk pw => (dss_cons (ds_if (dt_cmp op_lt os_lt (dv 1) (de_callB call_lenA cs_lenD (by rfl) T.n_len bb_len (da_cons (dv 0) da_nil)) (nomark _)) (dss_one (ds_ret (de_ix ix_seq os_ix (dv 0) (dv 1) (fun _ _ => rfl)))) dss_nil)
    (dss_one (ds_ret de_int)))) ?_
  rintro es μ q x - ⟨ns, k, rfl, h0, h1, hl, h⟩
  refine q_whenB (decide (k < ns.length)) (fun K hK => ?_) (fun hb => ?_) (fun hb => ?_)
  · walk_at "dx0"
    simpa using hK
  · (first | (walk_at "one" <;> (try walk_at "dx0")) | skip)
    simp only [decide_eq_true_eq] at hb
    obtain ⟨j, rfl⟩ : ∃ j : Nat, k = j := ⟨k.toNat, by omega⟩
    have hj : j < ns.length := by omega
    exact ⟨.int ns[j], by simp [hj], h _⟩
  · (first | (walk_at "one" <;> (try walk_at "dx0")) | skip)
    exact h 0
theorem ok_law_cell_at (T : Top K mg) : DefAt P w K mg base "_law_cell_at" 1 ["_law_script", "_law_k"] [] [] sp_cellA := (okC_law_cell_at T).imp cell_abs
theorem okC_law_state (T : Top K mg) : DefAt P w K mg base "_law_state" 1 ["_law_cell", "_law_k"] [] [] sp_law_state := by
  refine def_ok sp_law_state T.F_law_state sc_law_state T.m_law_state T.b_law_state (fun cdv A outer s H E hr tk pw => (dss_cons (ds_set (i := 2) sc_law_state.nd rfl (by first | exact Or.inl rfl | exact Or.inr rfl) (de_stl (de_op op_mod os_mod (de_op opA_mul os_mul (de_op opA_add os_add (de_op opA_add os_add (dv 0) (de_op opA_mul os_mul de_int (dv 1))) de_int) de_int) de_int)))
    (dss_one (ds_ret (de_lst (da_cons (de_frz (de_op op_mod os_mod (de_op opA_add os_add (de_op opA_add os_add (de_op opA_mul os_mul (dv 2) (dv 2)) (de_op opA_mul os_mul de_int (dv 2))) (dv 1)) de_int)) (da_cons (de_frz (de_op op_sub os_sub (dv 0) (de_op op_pow os_pow de_int de_int))) da_nil))))))) ?_
  rintro es μ q x - ⟨c, k, rfl, h0, h1, h⟩
  (first | (walk_at "one" <;> (try walk_at "dx0")) | skip)
  have hm := Int.emod_nonneg ((c + 7919 * k + 1) * 48271) (show (2147483647 : Int) ≠ 0 by decide)
  have hm2 := Int.emod_lt_of_pos ((c + 7919 * k + 1) * 48271) (show (0 : Int) < 2147483647 by decide)
  generalize (c + 7919 * k + 1) * 48271 % 2147483647 = z at hm hm2
  (first | (walk_at "one" <;> (try walk_at "dx0")) | skip)
  exact h _ _ (by omega) (by omega)
theorem ok_law_state (T : Top K mg) : DefAt P w K mg base "_law_state" 1 ["_law_cell", "_law_k"] [] [] sp_stateA := (okC_law_state T).imp state_abs
theorem okC_law_next (T : Top K mg) : DefAt P w K mg base "_law_next" 1 ["_law_state_here", "_law_size"] [] [] sp_law_next := by
  refine def_ok sp_law_next T.F_law_next sc_law_next T.m_law_next T.b_law_next (fun cdv A outer s H E hr tk pw => (dss_cons (ds_if (dt_cmp op_gt os_gt (de_ix ix_seq os_ix (dv 0) de_int (fun _ _ => rfl)) de_int (nomark _)) (dss_cons (ds_set (i := 2) sc_law_next.nd rfl (by first | exact Or.inl rfl | exact Or.inr rfl) (de_stl (de_op op_mod os_mod (de_ix ix_seq os_ix (dv 0) de_int (fun _ _ => rfl)) (dv 1))))
    (dss_cons (ds_asg (de_frz (de_op op_fdiv os_div (de_ix ix_seq os_ix (dv 0) de_int (fun _ _ => rfl)) (dv 1))) (dg_sub (W := WF) (dv 0) de_int set_list ss_list))
    (dss_one (ds_ret (dv 2))))) dss_nil)
    (dss_cons (ds_asg (de_frz (de_op op_mod os_mod (de_op opA_add os_add (de_op opA_mul os_mul (de_ix ix_seq os_ix (dv 0) de_int (fun _ _ => rfl)) de_int) de_int) de_int)) (dg_sub (W := WF) (dv 0) de_int set_list ss_list))
    (dss_cons (ds_set (i := 3) sc_law_next.nd rfl (by first | exact Or.inl rfl | exact Or.inr rfl) (de_stl (de_op op_mod os_mod (de_op opA_mul os_mul (de_ix ix_seq os_ix (dv 0) de_int (fun _ _ => rfl)) (de_ix ix_seq os_ix (dv 0) de_int (fun _ _ => rfl))) de_int)))
    (dss_one (ds_ret (de_op op_mod os_mod (de_op op_fdiv os_div (dv 3) de_int) (dv 1)))))))) ?_
  rintro es μ q x - ⟨n, k, rfl, ⟨a, b, hn, ha, hb⟩, h0, h1, h⟩
  have hlt := get_lt hn
  refine q_whenB (decide (1 < b)) (fun K hK => ?_) (fun hb1 => ?_) (fun hb1 => ?_)
  · walk_at "dx0"
    simp only [hn]
    walk_at "dx0"
    exact hK
  · (first | (walk_at "one" <;> (try walk_at "dx0")) | skip)
    simp only [hn]
    walk_at "dx0"
    (walk_at "one" <;> (try walk_at "dx0"))
    simp only [hn]
    walk_at "dx0"
    simp only [hn]
    walk_at "dx0"
    refine ⟨1, rfl, ?_⟩
    (first | (walk_at "one" <;> (try walk_at "dx0")) | skip)
    have st : Stp μ n (μ.set n (.lst [.int a, .int (b / k)])) := ⟨a, _, rfl, ha, hb⟩
    rw [st.take]
    exact h _ _ (Int.emod_nonneg _ (by omega)) (Int.emod_lt_of_pos _ h0) st
  · (walk_at "one" <;> (try walk_at "dx0"))
    simp only [hn]
    walk_at "dx0"
    simp only [hn]
    walk_at "dx0"
    refine ⟨0, rfl, ?_⟩
    have hm := Int.emod_nonneg (a * 69621 + 11) (show (2147483629 : Int) ≠ 0 by decide)
    have hm2 := Int.emod_lt_of_pos (a * 69621 + 11) (show (0 : Int) < 2147483629 by decide)
    generalize (a * 69621 + 11) % 2147483629 = z at hm hm2
    have st : Stp μ n (μ.set n (.lst [.int z, .int b])) := ⟨z, _, rfl, hm, by omega⟩
    have hn2 : (μ.set n (.lst [.int z, .int b]))[n]? = some (.lst [.int z, .int b]) := List.getElem?_set_self hlt
    (walk_at "one" <;> (try walk_at "dx0"))
    simp only [hn2]
    walk_at "dx0"
    (first | (walk_at "one" <;> (try walk_at "dx0")) | skip)
    rw [st.take]
    exact h _ _ (Int.emod_nonneg _ (by omega)) (Int.emod_lt_of_pos _ h0) st
theorem ok_law_next (T : Top K mg) : DefAt P w K mg base "_law_next" 1 ["_law_state_here", "_law_size"] [] [] sp_nextA := (okC_law_next T).abs next_abs
local macro_rules | `(tactic| walk_at "dx1") => `(tactic| simp (disch := first | assumption | omega) only [↓x_dAndV, ↓x_dCB, ↓x_aCons, startD, List.map_cons, List.map_nil, List.length_cons, List.length_nil, Nat.zero_add, Nat.reduceAdd, Nat.reduceSub, List.replicate.eq_1, List.append_nil, ↓x_dRaw, ↓x_aNil, ↓x_dNotV, ↓wB_b, ↓x_dChain, oLe, dVar_2, ↓old_dat, ↓exitQ_dat, dVar_0, ↓nN_dat, true_and, dVar_1, ↓isi_bool, ↓isi_int, ↓tk_0, Bool.not_false, ↓oI0_ii, decide_eq_true_eq, if_true, Bool.false_eq_true, if_false, Bool.not_true])
def sp_is_number : SpD := fun es μ q x => ∃ (d : PyData) (a : Int) (b : Int), es = [.dat d, .dat (.int a), .dat (.int b)] ∧ (q (.dat (.bool (isNum d a b))) μ)
theorem e_is_number {d : PyData} {a : Int} {b : Int} {μ : Mu} {q : PQ} {x : XQ} : sp_is_number [.dat d, .dat (.int a), .dat (.int b)] μ q x = (q (.dat (.bool (isNum d a b))) μ) := by
  refine propext ⟨fun hyp0 => ?_, fun hyp0 => ⟨d, a, b, rfl, hyp0⟩⟩
  obtain ⟨d', a', b', eq0, hyp0⟩ := hyp0
  simp only [List.cons.injEq, Exn.mk.injEq, EV.at.injEq, eq_self, EV.dat.injEq, EV.loc.injEq, EV.new.injEq, EV.ro.injEq, EV.exc.injEq, EV.per.injEq, PyData.int.injEq, PyData.str.injEq, PyData.bool.injEq, PyData.list.injEq, PyData.tuple.injEq, and_true, true_and, and_assoc, map_int_inj, ] at eq0
  obtain ⟨rfl, rfl, rfl⟩ := eq0
  exact hyp0
theorem ok_is_number (T : Top K mg) : DefAt P w K mg base "is_number" 1 ["thing", "least", "most"] [] [] sp_is_number := by
  refine def_ok sp_is_number T.F_is_number sc_is_number T.m_is_number T.b_is_number (fun cdv A outer s H E hr tk pw => (dss_one (ds_ret (de_and (de_callB call_isiY cs_isi (by rfl) T.n_isinstance bb_isinstance (da_cons (dv 0) (da_cons (de_ty T.n_int bt_int) da_nil))) (de_and (de_not (de_callB call_isiY cs_isi (by rfl) T.n_isinstance bb_isinstance (da_cons (dv 0) (da_cons (de_ty T.n_bool bt_bool) da_nil)))) (de_one (de_chain op_le os_le op_le os_le (dv 1) (dv 0) (dv 2)))))))) ?_
  rintro es μ q x - ⟨d, a, b, rfl, h⟩
  refine s_ret ?_
  (try walk_at "dx1")
  cases d with
  | int i =>
    simp only [isIntD, isBoolD, isNum] at h ⊢
    (try walk_at "dx1")
    by_cases h1 : a ≤ i
    · simpa [h1] using h
    · simpa [h1] using h
  | _ =>
    simp only [isIntD, isBoolD, isNum] at h ⊢
    (try walk_at "dx1")
    exact h
local macro_rules | `(tactic| walk_at "dx2") => `(tactic| simp (disch := first | assumption | omega) only [↓x_dAndV, ↓x_dCB, ↓x_aCons, startD, List.map_cons, List.map_nil, List.length_cons, List.length_nil, Nat.zero_add, Nat.reduceAdd, Nat.reduceSub, List.replicate.eq_1, List.append_nil, ↓x_dRaw, ↓x_aNil, ↓x_dNotV, ↓wB_b, ↓x_dChain, oLe, dVar_2, ↓old_dat, ↓exitQ_dat, dVar_0, ↓nN_dat, true_and, dVar_1, ↓isi_bool, ↓isi_int, ↓tk_0, Bool.not_false, ↓oI0_ii, decide_eq_true_eq, if_true, Bool.false_eq_true, if_false, Bool.not_true])
local macro_rules | `(tactic| walk_at "dx3") => `(tactic| simp (disch := first | assumption | omega) only [oLe, List.map_cons, List.map_nil, ↓exitQ_dat, startD, List.length_cons, List.length_nil, Nat.zero_add, Nat.reduceAdd, Nat.reduceSub, List.replicate.eq_2, List.replicate, List.cons_append, List.nil_append, ↓x_tOrD, ↓x_tNotD, ↓x_tVal, ↓x_dCB, ↓x_aCons, ↓dVar_0, ↓old_dat, ↓x_dRaw, ↓x_aNil, ↓isi_str, ↓wB_b, ↓isStrD_str, Bool.not_true, Bool.false_eq_true, if_true, ↓x_dChain, ↓x_dC, ↓lnD_str, nle_h, ↓nN_dat, ↓oI0_ii, decide_eq_true_eq, Bool.not_false, true_and, if_false, ↓x_dOp, ↓ix_s, at_nn, Int.reduceToNat, ↓sign_ss, ↓x_lc, ↓x_iSeqD, ↓seqDK_s, ↓seqK_str, ↓x_oAll, ↓x_gNm, ↓x_dOrV, wipeD, List.set_cons_succ, List.set_cons_zero, ↓wD_dat, dVar_1, ↓tk_0, ↓lstK_new, ↓bools_k, ↓isStrD_none, ↓isStrD_bool, ↓isStrD_int, ↓isStrD_list, ↓lnD_lst, ↓isStrD_tuple, ↓lnD_tup, ↓isStrD_dict, ↓lnD_d])
/-! ### names -/
def letters : Str := "abcdefghijklmnopqrstuvwxyz"
def figures : Str := "0123456789"
def nameZ (z : Str) : Bool := decide (1 ≤ z.length) && decide (z.length ≤ 6) && (match z.cps.toList with
  | c :: _ => decide (c ∈ letters.cps.toList)
  | [] => false) && z.cps.toList.all fun c => decide (c ∈ letters.cps.toList) || decide (c ∈ figures.cps.toList)
def isName (d : PyData) : Bool := match d with
  | .str z => nameZ z
  | _ => false
theorem str_at0 {z : Str} (h : 1 ≤ z.length) : ∃ c r, z.cps.toList = c :: r := by
  cases e : z.cps.toList with
  | nil =>
    have h2 : z.cps.toList.length = 0 := by rw [e]; rfl
    have h3 : z.cps.toList.length = z.length := Array.length_toList
    omega
  | cons c r => exact ⟨c, r, rfl⟩
def sp_is_name : SpD := fun es μ q x => ∃ (d : PyData), es = [.dat d] ∧ ((∀ z, d = .str z → z.length ≤ 1000) ∧ q (.dat (.bool (isName d))) μ)
theorem e_is_name {d : PyData} {μ : Mu} {q : PQ} {x : XQ} : sp_is_name [.dat d] μ q x = ((∀ z, d = .str z → z.length ≤ 1000) ∧ q (.dat (.bool (isName d))) μ) := by
  refine propext ⟨fun hyp0 => ?_, fun hyp0 => ⟨d, rfl, hyp0⟩⟩
  obtain ⟨d', eq0, hyp0⟩ := hyp0
  simp only [List.cons.injEq, Exn.mk.injEq, EV.at.injEq, eq_self, EV.dat.injEq, EV.loc.injEq, EV.new.injEq, EV.ro.injEq, EV.exc.injEq, EV.per.injEq, PyData.int.injEq, PyData.str.injEq, PyData.bool.injEq, PyData.list.injEq, PyData.tuple.injEq, and_true, true_and, and_assoc, map_int_inj, ] at eq0
  subst eq0
  exact hyp0
theorem ok_is_name (T : Top K mg) : DefAt P w K mg base "is_name" 1 ["thing"] [] [] sp_is_name := by
  refine def_ok sp_is_name T.F_is_name sc_is_name T.m_is_name T.b_is_name (fun cdv A outer s H E hr tk pw => (dss_cons (ds_if (dw_or (dt_not (dt_val (de_callB call_isiY cs_isi (by rfl) T.n_isinstance bb_isinstance (da_cons (dv 0) (da_cons (de_ty T.n_str bt_str) da_nil))))) (dw_or1 (dt_not (dt_chain op_le os_le op_le os_le de_int (de_callB call_lenA cs_lenD (by rfl) T.n_len bb_len (da_cons (dv 0) da_nil)) (de_gint T.g_MOST_SIGNS))))).dt (dss_one (ds_ret de_bl)) dss_nil)
    (dss_cons (ds_if (dt_cmp op_notIn_sign os_notInSign (de_ix ix_seq os_ix (dv 0) de_int (fun _ _ => rfl)) (de_gstr T.g_LETTERS) (by rfl)) (dss_one (ds_ret de_bl)) dss_nil)
    (dss_one (ds_ret (de_callB (cr_all rfl) cs_all (by rfl) T.n_all bb_all (da_cons (de_lc (own := [("sign", 1)]) rfl sc_is_name.nd (di_seqD (dv 0)) (blkOk_by (N := ["thing", "sign"]) (sc := (defScope s_is_name)) (by decide +kernel)) (by decide) (fun _ _ _ _ _ => (dg_name (i := 1) sc_is_name.nd rfl (by first | exact Or.inl rfl | exact Or.inr rfl))) (fun _ _ _ _ _ => dts_nil) (fun _ _ _ _ _ => (de_or (de_cmp op_in_sign os_inSign (dv 1) (de_gstr T.g_LETTERS) (by rfl)) (de_one (de_cmp op_in_sign os_inSign (dv 1) (de_gstr T.g_FIGURES) (by rfl)))))) da_nil))))))) ?_
  rintro es μ q x - ⟨d, rfl, hz, h⟩
  cases d with
  | str z =>
    have hz := hz z rfl
    ((try walk_at "dx3"); repeat (walk_at "one" <;> (try walk_at "dx3")))
    by_cases h1 : 1 ≤ z.length
    · rw [if_pos (by omega)]
      by_cases h2 : z.length ≤ 6
      · rw [if_neg (by simp; omega)]
        obtain ⟨c, r, hc⟩ := str_at0 h1
        ((try walk_at "dx3"); repeat (walk_at "one" <;> (try walk_at "dx3")))
        refine ⟨c, by rw [hc]; rfl, c, rfl, ?_⟩
        by_cases h3 : c ∈ letters.cps.toList
        · rw [if_neg (by simpa [letters] using h3)]
          have hl : z.cps.toList.length = z.length := Array.length_toList
          ((try walk_at "dx3"); repeat (walk_at "one" <;> (try walk_at "dx3")))
          refine lc_map (fun c => .bool (decide (c ∈ letters.cps.toList) || decide (c ∈ figures.cps.toList))) (by omega) trivial (fun a K _ hK => ?_) ?_
          · (try walk_at "dx3")
            refine ⟨a, rfl, ?_⟩
            by_cases h4 : a ∈ letters.cps.toList
            · rw [if_pos (by simpa [letters] using h4)]
              simpa [h4] using hK
            · rw [if_neg (by simpa [letters] using h4)]
              exact ⟨a, rfl, by simpa [h4, figures] using hK⟩
          · rw [show List.map (fun c => PyData.bool (decide (c ∈ letters.cps.toList) || decide (c ∈ figures.cps.toList))) z.cps.toList = (z.cps.toList.map fun c => (decide (c ∈ letters.cps.toList) || decide (c ∈ figures.cps.toList))).map .bool from by rw [List.map_map]; rfl]
            (try walk_at "dx3")
            have : nameZ z = z.cps.toList.all fun c => decide (c ∈ letters.cps.toList) || decide (c ∈ figures.cps.toList) := by
              unfold nameZ
              simp [h1, h2, hc, h3]
            simp only [isName, this] at h
            rw [List.all_map]
            exact h
        · rw [if_pos (by simpa [letters] using h3)]
          ((try walk_at "dx3"); repeat (walk_at "one" <;> (try walk_at "dx3")))
          have : nameZ z = false := by unfold nameZ; simp [hc, h3]
          simp only [isName, this] at h
          exact h
      · rw [if_pos (by simp; omega)]
        ((try walk_at "dx3"); repeat (walk_at "one" <;> (try walk_at "dx3")))
        have : nameZ z = false := by unfold nameZ; simp [h2]
        simp only [isName, this] at h
        exact h
    · rw [if_neg (by omega)]
      ((try walk_at "dx3"); repeat (walk_at "one" <;> (try walk_at "dx3")))
      have : nameZ z = false := by unfold nameZ; simp [h1]
      simp only [isName, this] at h
      exact h
  | none => ((try walk_at "dx3"); repeat (walk_at "one" <;> (try walk_at "dx3"))); exact h
  | bool b => ((try walk_at "dx3"); repeat (walk_at "one" <;> (try walk_at "dx3"))); exact h
  | int i => ((try walk_at "dx3"); repeat (walk_at "one" <;> (try walk_at "dx3"))); exact h
  | list xs => ((try walk_at "dx3"); repeat (walk_at "one" <;> (try walk_at "dx3"))); exact h
  | tuple xs => ((try walk_at "dx3"); repeat (walk_at "one" <;> (try walk_at "dx3"))); exact h
  | dict kv => ((try walk_at "dx3"); repeat (walk_at "one" <;> (try walk_at "dx3"))); exact h
local macro_rules | `(tactic| walk_at "dx4") => `(tactic| simp (disch := first | assumption | omega) only [oLe, List.map_cons, List.map_nil, ↓exitQ_dat, startD, List.length_cons, List.length_nil, Nat.zero_add, Nat.reduceAdd, Nat.reduceSub, List.replicate.eq_2, List.replicate, List.cons_append, List.nil_append, ↓x_tOrD, ↓x_tNotD, ↓x_tVal, ↓x_dCB, ↓x_aCons, ↓dVar_0, ↓old_dat, ↓x_dRaw, ↓x_aNil, ↓isi_str, ↓wB_b, ↓isStrD_str, Bool.not_true, Bool.false_eq_true, if_true, ↓x_dChain, ↓x_dC, ↓lnD_str, nle_h, ↓nN_dat, ↓oI0_ii, decide_eq_true_eq, Bool.not_false, true_and, if_false, ↓x_dOp, ↓ix_s, at_nn, Int.reduceToNat, ↓sign_ss, ↓x_lc, ↓x_iSeqD, ↓seqDK_s, ↓seqK_str, ↓x_oAll, ↓x_gNm, ↓x_dOrV, wipeD, List.set_cons_succ, List.set_cons_zero, ↓wD_dat, dVar_1, ↓tk_0, ↓lstK_new, ↓bools_k, ↓isStrD_none, ↓isStrD_bool, ↓isStrD_int, ↓isStrD_list, ↓lnD_lst, ↓isStrD_tuple, ↓lnD_tup, ↓isStrD_dict, ↓lnD_d])
local macro_rules | `(tactic| walk_at "dx5") => `(tactic| simp (disch := first | assumption | omega) only [List.length_cons, List.length_nil, Nat.zero_add, Nat.reduceAdd, oSub, ↓exitQ_dat, startD, List.map_cons, List.map_nil, Nat.reduceSub, List.replicate.eq_1, List.append_nil, ↓x_tOrD, ↓x_tNotD, ↓x_tVal, ↓x_dCB, ↓x_aCons, ↓dVar_0, ↓old_dat, ↓x_dRaw, ↓x_aNil, ↓isi_tuple, ↓wB_b, ↓isTupD_tuple, Bool.not_true, Bool.false_eq_true, if_true, ↓x_dOp, ↓lnD_tup, ↓x_dC, ↓ne_dd, ↓noD_i, and_true, dep_int, nle_h, eqv_int, ↓x_dCall, ↓x_dStl, ↓ix_tupD, at_nn, Int.reduceToNat, ↓stl_dat, ↓aO_cons, ↓nN_dat, ↓aO_nil, Bool.and_true, ↓e_is_name, true_and, if_false, ↓tk_0, List.getElem?_cons_succ, List.getElem?_cons_zero, Option.some.injEq, ↓dVar_1, ↓oI0_ii, ↓dVar_2, ↓e_is_number, exists_eq_left', ↓x_dAndV, ↓isi_str, ↓memG_d, ↓isStrD_str, ↓noD_s, dep_str, ↓isStrD_none, ↓noD_n, dep_none, ↓isStrD_bool, ↓noD_b, dep_bool, ↓isStrD_int, ↓isStrD_list, ↓noD_l, dep_lst, Nat.reduceLeDiff, ↓isStrD_tuple, ↓noD_t, dep_tup, ↓isStrD_dict, ↓isTupD_none, Bool.not_false, ↓isTupD_bool, ↓isTupD_int, ↓isTupD_list, ↓lnD_lst, ↓ix_lstD, ↓isTupD_str, ↓lnD_str, ↓ix_s, ↓isTupD_dict, ↓lnD_d])
/-! ### legs, drawings, of whatever thing -/
def kindB (d : PyData) : Bool := match d with
  | .str z => decide (z = "flat") || decide (z = "through")
  | _ => false
def isLeg (d : PyData) (w h : Int) : Bool := match d with
  | .tuple [a, b, c, e] => isName a && (isNum b 0 (w - 1) && (isNum c 0 (h - 1) && kindB e))
  | _ => false
mutual
def szOk : PyData → Bool
  | .str z => decide (z.length ≤ 1000)
  | .list xs => decide (xs.length ≤ 60) && szAll xs
  | .tuple xs => decide (xs.length ≤ 60) && szAll xs
  | .dict _ => false
  | _ => true
def szAll : List PyData → Bool
  | [] => true
  | x :: xs => szOk x && szAll xs
end
structure Fit (d : PyData) : Prop where
  nod : noD d = true
  dep : d.depth ≤ 40
  sz : szOk d = true
theorem szAll_mem : ∀ {xs : List PyData}, szAll xs = true → ∀ d ∈ xs, szOk d = true
  | [], _, d, h => by simp at h
  | x :: xs, h, d, hd => by
    rw [szAll, Bool.and_eq_true] at h
    rcases List.mem_cons.mp hd with rfl | hd
    · exact h.1
    · exact szAll_mem h.2 d hd
theorem depAll_mem : ∀ {xs : List PyData} {d : PyData}, d ∈ xs → d.depth ≤ PyData.depthAll xs
  | [], d, h => by simp at h
  | x :: xs, d, h => by
    rw [PyData.depthAll]
    rcases List.mem_cons.mp h with rfl | h
    · omega
    · have := depAll_mem h
      omega
theorem noDs_mem : ∀ {xs : List PyData}, noDs xs = true → ∀ d ∈ xs, noD d = true
  | [], _, d, h => by simp at h
  | x :: xs, h, d, hd => by
    rw [noDs_cons, Bool.and_eq_true] at h
    rcases List.mem_cons.mp hd with rfl | hd
    · exact h.1
    · exact noDs_mem h.2 d hd
theorem Fit.tup {xs : List PyData} (F : Fit (.tuple xs)) : xs.length ≤ 60 ∧ ∀ d ∈ xs, Fit d := by
  obtain ⟨h1, h2, h3⟩ := F
  rw [szOk, Bool.and_eq_true, decide_eq_true_eq] at h3
  rw [noD_t] at h1
  rw [dep_tup] at h2
  exact ⟨h3.1, fun d hd => ⟨noDs_mem h1 d hd, by have := depAll_mem hd; omega, szAll_mem h3.2 d hd⟩⟩
theorem Fit.str {z : Str} (F : Fit (.str z)) : z.length ≤ 1000 := by
  have := F.sz
  rw [szOk, decide_eq_true_eq] at this
  exact this
theorem Fit.txt {d : PyData} (F : Fit d) : ∀ z, d = .str z → z.length ≤ 1000 := fun z e => by
  subst e
  exact F.str
def sp_is_leg (T : Top K mg) : SpD := fun es μ q x => ∃ (d : PyData) (w : Int) (h : Int), es = [.dat d, .dat (.int w), .dat (.int h)] ∧ (Fit d ∧ q (.dat (.bool (isLeg d w h))) μ)
theorem e_is_leg (T : Top K mg) {d : PyData} {w : Int} {h : Int} {μ : Mu} {q : PQ} {x : XQ} : sp_is_leg T [.dat d, .dat (.int w), .dat (.int h)] μ q x = (Fit d ∧ q (.dat (.bool (isLeg d w h))) μ) := by
  refine propext ⟨fun hyp0 => ?_, fun hyp0 => ⟨d, w, h, rfl, hyp0⟩⟩
  obtain ⟨d', w', h', eq0, hyp0⟩ := hyp0
  simp only [List.cons.injEq, Exn.mk.injEq, EV.at.injEq, eq_self, EV.dat.injEq, EV.loc.injEq, EV.new.injEq, EV.ro.injEq, EV.exc.injEq, EV.per.injEq, PyData.int.injEq, PyData.str.injEq, PyData.bool.injEq, PyData.list.injEq, PyData.tuple.injEq, and_true, true_and, and_assoc, map_int_inj, ] at eq0
  obtain ⟨rfl, rfl, rfl⟩ := eq0
  exact hyp0
theorem ok_is_leg (T : Top K mg) : DefAt P w K mg base "is_leg" 2 ["thing", "wide", "high"] [] [] (sp_is_leg T) := by
  refine def_ok (sp_is_leg T) T.F_is_leg sc_is_leg T.m_is_leg T.b_is_leg (fun cdv A outer s H E hr tk pw => (dss_cons (ds_if (dw_or (dt_not (dt_val (de_callB call_isiY cs_isi (by rfl) T.n_isinstance bb_isinstance (da_cons (dv 0) (da_cons (de_ty T.n_tuple bt_tuple) da_nil))))) (dw_or (dt_cmp (opA_ne hr.units) os_ne (de_callB call_lenA cs_lenD (by rfl) T.n_len bb_len (da_cons (dv 0) da_nil)) de_int (nomark _)) (dw_or1 (dt_not (dt_val (de_call (ok_is_name T) hr (by decide) (by rfl) tk (fun _ _ => .nil) (da_cons (de_stl (de_ix ix_seq os_ix (dv 0) de_int (fun _ _ => rfl))) da_nil))))))).dt (dss_one (ds_ret de_bl)) dss_nil)
    (dss_cons (ds_if (dw_or (dt_not (dt_val (de_call (ok_is_number T) hr (by decide) (by rfl) tk (fun _ _ => .nil) (da_cons (de_stl (de_ix ix_seq os_ix (dv 0) de_int (fun _ _ => rfl))) (da_cons de_int (da_cons (de_stl (de_op op_sub os_sub (dv 1) de_int)) da_nil)))))) (dw_or1 (dt_not (dt_val (de_call (ok_is_number T) hr (by decide) (by rfl) tk (fun _ _ => .nil) (da_cons (de_stl (de_ix ix_seq os_ix (dv 0) de_int (fun _ _ => rfl))) (da_cons de_int (da_cons (de_stl (de_op op_sub os_sub (dv 2) de_int)) da_nil)))))))).dt (dss_one (ds_ret de_bl)) dss_nil)
    (dss_one (ds_ret (de_and (de_callB call_isiY cs_isi (by rfl) T.n_isinstance bb_isinstance (da_cons (de_ix ix_seq os_ix (dv 0) de_int (fun _ _ => rfl)) (da_cons (de_ty T.n_str bt_str) da_nil))) (de_one (de_cmp (opA_in hr.units) (os_memG T.t_KINDS) (de_ix ix_seq os_ix (dv 0) de_int (fun _ _ => rfl)) (de_gcls T.m_KINDS) (by rfl))))))))) ?_
  rintro es μ q x - ⟨d, w, h, rfl, F, k⟩
  cases d with
  | tuple xs =>
    obtain ⟨hl, hf⟩ := F.tup
    ((try walk_at "dx5"); repeat (walk_at "one" <;> (try walk_at "dx5")))
    by_cases h4 : xs.length = 4
    · rw [if_neg (by simp [h4])]
      obtain ⟨a, b, c, e, rfl⟩ : ∃ a b c e, xs = [a, b, c, e] := by
        match xs, h4 with
        | [a, b, c, e], _ => exact ⟨a, b, c, e, rfl⟩
      have fa := hf a (by simp)
      have fe := hf e (by simp)
      refine ⟨a, rfl, fa.txt, ?_⟩
      simp only [isLeg] at k
      cases hn : isName a with
      | false =>
        rw [hn] at k
        rw [if_pos (by simp)]
        ((try walk_at "dx5"); repeat (walk_at "one" <;> (try walk_at "dx5")))
        exact k
      | true =>
        rw [hn] at k
        rw [if_neg (by simp)]
        ((try walk_at "dx5"); repeat (walk_at "one" <;> (try walk_at "dx5")))
        cases hb : isNum b 0 (w - 1) with
        | false =>
          rw [hb] at k
          rw [if_pos (by simp)]
          ((try walk_at "dx5"); repeat (walk_at "one" <;> (try walk_at "dx5")))
          exact k
        | true =>
          rw [hb] at k
          rw [if_neg (by simp)]
          ((try walk_at "dx5"); repeat (walk_at "one" <;> (try walk_at "dx5")))
          cases hc : isNum c 0 (h - 1) with
          | false =>
            rw [hc] at k
            rw [if_pos (by simp)]
            ((try walk_at "dx5"); repeat (walk_at "one" <;> (try walk_at "dx5")))
            exact k
          | true =>
            rw [hc] at k
            rw [if_neg (by simp)]
            ((try walk_at "dx5"); repeat (walk_at "one" <;> (try walk_at "dx5")))
            cases e with
            | str z =>
              ((try walk_at "dx5"); repeat (walk_at "one" <;> (try walk_at "dx5")))
              have e2 : has [PyData.str (Str.ofString "flat"), PyData.str (Str.ofString "through")] (.str z) = kindB (.str z) := by
                simp only [has, kindB, List.any_cons, List.any_nil, eqv_str, Bool.or_false, eq_comm (a := z)]
              rw [e2]
              exact k
            | none => ((try walk_at "dx5"); repeat (walk_at "one" <;> (try walk_at "dx5"))); exact k
            | bool b => ((try walk_at "dx5"); repeat (walk_at "one" <;> (try walk_at "dx5"))); exact k
            | int i => ((try walk_at "dx5"); repeat (walk_at "one" <;> (try walk_at "dx5"))); exact k
            | list xs => ((try walk_at "dx5"); repeat (walk_at "one" <;> (try walk_at "dx5"))); exact k
            | tuple xs => ((try walk_at "dx5"); repeat (walk_at "one" <;> (try walk_at "dx5"))); exact k
            | dict kv => ((try walk_at "dx5"); repeat (walk_at "one" <;> (try walk_at "dx5"))); exact k
    · rw [if_pos (by simp; omega)]
      ((try walk_at "dx5"); repeat (walk_at "one" <;> (try walk_at "dx5")))
      have : isLeg (.tuple xs) w h = false := by
        unfold isLeg
        split
        · rename_i e
          cases e
          simp at h4
        · rfl
      rw [this] at k
      exact k
  | none => ((try walk_at "dx5"); repeat (walk_at "one" <;> (try walk_at "dx5"))); exact k
  | bool b => ((try walk_at "dx5"); repeat (walk_at "one" <;> (try walk_at "dx5"))); exact k
  | int i => ((try walk_at "dx5"); repeat (walk_at "one" <;> (try walk_at "dx5"))); exact k
  | list xs => ((try walk_at "dx5"); repeat (walk_at "one" <;> (try walk_at "dx5"))); exact k
  | str z => ((try walk_at "dx5"); repeat (walk_at "one" <;> (try walk_at "dx5"))); exact k
  | dict kv => ((try walk_at "dx5"); repeat (walk_at "one" <;> (try walk_at "dx5"))); exact k
local macro_rules | `(tactic| walk_at "dx6") => `(tactic| simp (disch := first | assumption | omega) only [List.length_cons, List.length_nil, Nat.zero_add, Nat.reduceAdd, oSub, ↓exitQ_dat, startD, List.map_cons, List.map_nil, Nat.reduceSub, List.replicate.eq_1, List.append_nil, ↓x_tOrD, ↓x_tNotD, ↓x_tVal, ↓x_dCB, ↓x_aCons, ↓dVar_0, ↓old_dat, ↓x_dRaw, ↓x_aNil, ↓isi_tuple, ↓wB_b, ↓isTupD_tuple, Bool.not_true, Bool.false_eq_true, if_true, ↓x_dOp, ↓lnD_tup, ↓x_dC, ↓ne_dd, ↓noD_i, and_true, dep_int, nle_h, eqv_int, ↓x_dCall, ↓x_dStl, ↓ix_tupD, at_nn, Int.reduceToNat, ↓stl_dat, ↓aO_cons, ↓nN_dat, ↓aO_nil, Bool.and_true, ↓e_is_name, true_and, if_false, ↓tk_0, List.getElem?_cons_succ, List.getElem?_cons_zero, Option.some.injEq, ↓dVar_1, ↓oI0_ii, ↓dVar_2, ↓e_is_number, exists_eq_left', ↓x_dAndV, ↓isi_str, ↓memG_d, ↓isStrD_str, ↓noD_s, dep_str, ↓isStrD_none, ↓noD_n, dep_none, ↓isStrD_bool, ↓noD_b, dep_bool, ↓isStrD_int, ↓isStrD_list, ↓noD_l, dep_lst, Nat.reduceLeDiff, ↓isStrD_tuple, ↓noD_t, dep_tup, ↓isStrD_dict, ↓isTupD_none, Bool.not_false, ↓isTupD_bool, ↓isTupD_int, ↓isTupD_list, ↓lnD_lst, ↓ix_lstD, ↓isTupD_str, ↓lnD_str, ↓ix_s, ↓isTupD_dict, ↓lnD_d])
local macro_rules | `(tactic| walk_at "dx7") => `(tactic| simp (disch := first | assumption | omega) only [↓exitQ_dat, startD, List.map_cons, List.map_nil, List.length_cons, List.length_nil, Nat.zero_add, Nat.reduceAdd, Nat.reduceSub, List.replicate.eq_2, List.replicate, List.cons_append, List.nil_append, ↓x_iEnumD, ↓x_aCons, ↓x_dStl, ↓dVar_0, ↓old_dat, ↓stl_dat, ↓x_aNil, ↓enumK_l, ↓x_gTp, ↓x_gCn, ↓x_gNm, ↓nN_dat, ↓x_gNl0, ↓fg_cons, ↓fg_nil, List.set_cons_succ, List.set_cons_zero, true_and, ↓x_tVal, ↓x_dOp, ↓dVar_2, ↓x_dSl, ↓x_oNo, ↓x_oSome, ↓dVar_1, ↓intK_i, ↓sl_lstD, ↓memA_n, ↓mem_n, ↓noD_l, nle_h, ↓wB_b, Bool.false_eq_true, if_false, cl_dat, ↓cl_none, ↓cl_nil, ↓tk_0, ↓x_dC])
/-! ### no two alike -/
def unlD (ds : List PyData) : Bool := ds.zipIdx.all fun p => !has (ds.take p.2) p.1
theorem cut_to {ds : List PyData} {i : Nat} (h : i ≤ ds.length) : cutD ds none (some (0 + (i : Int))) = ds.take i := by
  unfold cutD
  have e1 : HT.sIx ds.length 0 none = 0 := by simp [HT.sIx]
  have e2 : HT.sIx ds.length ds.length (some (0 + (i : Int))) = i := by
    simp only [HT.sIx]
    split <;> omega
  rw [e1, e2]
  rfl
theorem noDs_take {ds : List PyData} (h : noDs ds = true) : ∀ i, noDs (ds.take i) = true := by
  induction ds with
  | nil => intro i; simp [noDs]
  | cons d ds ih =>
    intro i
    rw [noDs_cons, Bool.and_eq_true] at h
    cases i with
    | zero => simp [noDs]
    | succ i => rw [List.take_succ_cons, noDs_cons, h.1, ih h.2]; rfl
def sp_all_unlike : SpD := fun es μ q x => ∃ (ds : List PyData), es = [.dat (.list ds)] ∧ ((noDs ds = true ∧ PyData.depthAll ds ≤ 40 ∧ ds.length ≤ 1000) ∧ q (.dat (.bool (unlD ds))) μ)
theorem e_all_unlike {ds : List PyData} {μ : Mu} {q : PQ} {x : XQ} : sp_all_unlike [.dat (.list ds)] μ q x = ((noDs ds = true ∧ PyData.depthAll ds ≤ 40 ∧ ds.length ≤ 1000) ∧ q (.dat (.bool (unlD ds))) μ) := by
  refine propext ⟨fun hyp0 => ?_, fun hyp0 => ⟨ds, rfl, hyp0⟩⟩
  obtain ⟨ds', eq0, hyp0⟩ := hyp0
  simp only [List.cons.injEq, Exn.mk.injEq, EV.at.injEq, eq_self, EV.dat.injEq, EV.loc.injEq, EV.new.injEq, EV.ro.injEq, EV.exc.injEq, EV.per.injEq, PyData.int.injEq, PyData.str.injEq, PyData.bool.injEq, PyData.list.injEq, PyData.tuple.injEq, and_true, true_and, and_assoc, map_int_inj, ] at eq0
  subst eq0
  exact hyp0
theorem ok_all_unlike (T : Top K mg) : DefAt P w K mg base "all_unlike" 1 ["row"] [] [] sp_all_unlike := by
  refine def_ok sp_all_unlike T.F_all_unlike sc_all_unlike T.m_all_unlike T.b_all_unlike (fun cdv A outer s H E hr tk pw => (dss_cons (ds_forF [1, 2] pw rfl (di_enum1 (by rfl) T.n_enumerate (da_cons (de_stl (dv 0)) da_nil)) (dg_tup (n := 2) rfl (dgs_cons (dg_name (i := 1) sc_all_unlike.nd rfl (by first | exact Or.inl rfl | exact Or.inr rfl)) (dgs_cons (dg_name (i := 2) sc_all_unlike.nd rfl (by first | exact Or.inl rfl | exact Or.inr rfl)) dgs_nil))) (dss_one (ds_if (dt_cmp (opA_in hr.units) os_memA (dv 2) (de_slice slA os_sl (dv 0) do_none (do_some (dv 1))) (by rfl)) (dss_one (ds_ret de_bl)) dss_nil)))
    (dss_one (ds_ret de_bl)))) ?_
  rintro es μ q x - ⟨ds, rfl, ⟨hn, hd, hl⟩, k⟩
  ((try walk_at "dx7"); repeat (walk_at "one" <;> (try walk_at "dx7")))
  have e := enumE_map 0 id ds
  rw [List.map_id] at e
  rw [e]
  refine for_all (fun p : PyData × Nat => !has (ds.take p.2) p.1) trivial ?_ fun hall => ?_
  · rintro i ⟨d, j⟩ J hi - hJ
    have hm := List.mem_of_getElem? hi
    have hj := List.mem_zipIdx hm
    have hdm : d ∈ ds := by
      rw [hj.2.2]
      exact List.getElem_mem _
    have hjl : j < ds.length := by omega
    have h1 := noDs_mem hn d hdm
    have h2 := noDs_take hn j
    have h3 : d.depth ≤ 60 := by have := depAll_mem hdm; omega
    simp only [id]
    ((try walk_at "dx7"); repeat (walk_at "one" <;> (try walk_at "dx7")))
    rw [cut_to (by omega)]
    refine ⟨⟨h1, h2⟩, ?_⟩
    cases hh : has (ds.take j) d with
    | true =>
      have : unlD ds = false := List.all_eq_false.mpr ⟨(d, j), hm, by simp [hh]⟩
      rw [this] at k
      rw [if_pos rfl]
      ((try walk_at "dx7"); repeat (walk_at "one" <;> (try walk_at "dx7")))
      exact k
    | false =>
      have hJ := hJ (by simp [hh])
      rw [if_neg (by simp)]
      (have j := hJ; simp only [List.range_succ, List.map_append, List.map_cons, List.map_nil, fg_cons, fg_nil, List.set_cons_succ, List.set_cons_zero] at j; exact j)
  · have : unlD ds = true := List.all_eq_true.mpr hall
    rw [this] at k
    ((try walk_at "dx7"); repeat (walk_at "one" <;> (try walk_at "dx7")))
    exact k
local macro_rules | `(tactic| walk_at "dx8") => `(tactic| simp (disch := first | assumption | omega) only [↓exitQ_dat, startD, List.map_cons, List.map_nil, List.length_cons, List.length_nil, Nat.zero_add, Nat.reduceAdd, Nat.reduceSub, List.replicate.eq_2, List.replicate, List.cons_append, List.nil_append, ↓x_iEnumD, ↓x_aCons, ↓x_dStl, ↓dVar_0, ↓old_dat, ↓stl_dat, ↓x_aNil, ↓enumK_l, ↓x_gTp, ↓x_gCn, ↓x_gNm, ↓nN_dat, ↓x_gNl0, ↓fg_cons, ↓fg_nil, List.set_cons_succ, List.set_cons_zero, true_and, ↓x_tVal, ↓x_dOp, ↓dVar_2, ↓x_dSl, ↓x_oNo, ↓x_oSome, ↓dVar_1, ↓intK_i, ↓sl_lstD, ↓memA_n, ↓mem_n, ↓noD_l, nle_h, ↓wB_b, Bool.false_eq_true, if_false, cl_dat, ↓cl_none, ↓cl_nil, ↓tk_0, ↓x_dC])
local macro_rules | `(tactic| walk_at "dx9") => `(tactic| simp (disch := first | assumption | omega) only [List.length_cons, List.length_nil, Nat.zero_add, Nat.reduceAdd, oLe, List.map_cons, List.map_nil, ↓exitQ_dat, startD, Nat.reduceSub, List.replicate.eq_2, List.replicate, List.cons_append, List.nil_append, ↓x_tOrD, ↓x_tNotD, ↓x_tVal, ↓x_dCB, ↓x_aCons, ↓dVar_0, ↓old_dat, ↓x_dRaw, ↓x_aNil, ↓isi_tuple, ↓wB_b, ↓isTupD_tuple, Bool.not_true, Bool.false_eq_true, if_true, ↓x_dOp, ↓lnD_tup, ↓x_dC, ↓ne_dd, ↓noD_i, and_true, dep_int, nle_h, eqv_int, ↓x_dCall, ↓x_dStl, ↓ix_tupD, at_nn, Int.reduceToNat, ↓stl_dat, ↓aO_cons, ↓nN_dat, ↓aO_nil, Bool.and_true, List.append_nil, ↓e_is_name, true_and, if_false, ↓tk_0, ↓x_dFrz, ↓x_dSl, ↓x_oSome, ↓intK_i, ↓x_oNo, ↓sl_tupD, ↓wD_dat, ↓x_gTp, ↓x_gCn, ↓x_gNm, ↓x_gNl0, List.set_cons_succ, List.set_cons_zero, ↓dVar_1, ↓dVar_2, ↓e_is_number, ↓dVar_3, ↓x_dChain, Bool.not_false, ↓oI0_ii, decide_eq_true_eq, ↓x_lc, ↓x_iSeqD, ↓seqDK_t, ↓x_oAll, wipeD, dVar_2, dVar_1, dVar_4, ↓e_is_leg, ↓lstK_new, ↓bools_k, List.getElem?_cons_zero, Option.some.injEq, exists_eq_left', ↓stl_new, ↓e_all_unlike, List.length_map, ↓lsA_t, ↓eq_nn, ↓noD_l, dep_lst, eqv_lst, ↓isTupD_none, ↓isTupD_bool, ↓isTupD_int, ↓isTupD_list, ↓lnD_lst, ↓isTupD_str, ↓lnD_str, ↓isTupD_dict, ↓lnD_d, ↓ix_lstD, ↓ix_s])
/-! ### what is a drawing -/
abbrev Lg := Str × Int × Int × Str
abbrev lgD (l : Lg) : PyData := .tuple [.str l.1, .int l.2.1, .int l.2.2.1, .str l.2.2.2]
theorem enc_lg : Enc lgD 1 := Enc.t4 enc_str enc_int enc_int enc_str
abbrev lgT := lx2 (fun a b : Str => decide (a.cps.toList < b.cps.toList)) (lx2 (fun a b : Int => decide (a < b)) (lx2 (fun a b : Int => decide (a < b)) fun a b : Str => decide (a.cps.toList < b.cps.toList)))
theorem ord_lg : OrdE lgD lgT := ord_str.t4 ord_int ord_int ord_str
theorem isLeg_ex {d : PyData} {w h : Int} (e : isLeg d w h = true) : ∃ l : Lg, d = lgD l := by
  unfold isLeg at e
  split at e
  · rename_i a b c k
    rw [Bool.and_eq_true, Bool.and_eq_true, Bool.and_eq_true] at e
    obtain ⟨h1, h2, h3, h4⟩ := e
    cases a <;> simp [isName] at h1
    cases b <;> simp [isNum] at h2
    cases c <;> simp [isNum] at h3
    cases k <;> simp [kindB] at h4
    exact ⟨(_, _, _, _), rfl⟩
  · cases e
theorem legs_ex {w h : Int} : ∀ {ls : List PyData}, ls.all (fun d => isLeg d w h) = true → ∃ ks : List Lg, ls = ks.map lgD
  | [], _ => ⟨[], rfl⟩
  | d :: ls, e => by
    rw [List.all_cons, Bool.and_eq_true] at e
    obtain ⟨l, rfl⟩ := isLeg_ex e.1
    obtain ⟨ks, rfl⟩ := legs_ex e.2
    exact ⟨l :: ks, rfl⟩
theorem tup_inj {a a' : PyData} {w h w' h' : Int} {ks ks' : List Lg} (e : PyData.tuple [a, .int w, .int h, .tuple (ks.map lgD)] = .tuple [a', .int w', .int h', .tuple (ks'.map lgD)]) : a = a' ∧ w = w' ∧ h = h' ∧ ks = ks' := by
  injection e with e
  injection e with e1 e
  injection e with e2 e
  injection e with e3 e
  injection e with e4 e
  injection e2 with e2
  injection e3 with e3
  injection e4 with e4
  exact ⟨e1, e2, e3, enc_lg.map_eq.mp e4⟩
theorem cut13 (l : Lg) : cutD [PyData.str l.1, .int l.2.1, .int l.2.2.1, .str l.2.2.2] (some 1) (some 3) = [.int l.2.1, .int l.2.2.1] := rfl
/-- all's well with legs -/
def legsOk (ks : List Lg) : Bool := decide ((ks.map (·.1)).Nodup) && decide ((ks.map fun l => (l.2.1, l.2.2.1)).Nodup) && decide (ks = ks.mergeSort (leO lgT))
theorem unl_iff {α : Type} {en : α → PyData} {n : Nat} (E : Enc en n) (as : List α) : unlD (as.map en) = true ↔ as.Nodup := by
  unfold unlD
  rw [List.all_eq_true, List.Nodup, List.pairwise_iff_getElem]
  constructor
  · intro h i j hi hj hij e
    have h2 := h (en as[j], j) (by rw [List.mem_zipIdx_iff_getElem?, List.getElem?_map, List.getElem?_eq_getElem hj]; rfl)
    rw [Bool.not_eq_true'] at h2
    have h3 := List.any_eq_false.mp h2 (en as[i]) (by
      rw [← List.map_take]
      refine List.mem_map_of_mem ?_
      rw [List.mem_take_iff_getElem]
      exact ⟨i, by omega, rfl⟩)
    exact h3 ((E.inj _ _).mpr e)
  · rintro h ⟨d, j⟩ hp
    rw [List.mem_zipIdx_iff_getElem?, List.getElem?_map] at hp
    cases hj : as[j]? with
    | none => rw [hj] at hp; cases hp
    | some a =>
      rw [hj] at hp
      have e : en a = d := Option.some.inj hp
      subst e
      obtain ⟨hj1, rfl⟩ := List.getElem?_eq_some_iff.mp hj
      rw [Bool.not_eq_true']
      refine List.any_eq_false.mpr fun x hx hv => ?_
      rw [← List.map_take] at hx
      obtain ⟨b, hb, rfl⟩ := List.mem_map.mp hx
      obtain ⟨i, hi, rfl⟩ := List.mem_take_iff_getElem.mp hb
      exact h i j (by omega) hj1 (by omega) ((E.inj _ _).mp hv)
abbrev pt2 (p : Int × Int) : PyData := .tuple [.int p.1, .int p.2]
theorem enc_pt2 : Enc pt2 1 := Enc.t2 enc_int enc_int
/-- .. of whatever thing -/
inductive IsDr (d : PyData) : Bool → Prop
  | no : (¬ ∃ nm w h ks, d = .tuple [nm, .int w, .int h, .tuple (List.map lgD ks)] ∧ isName nm = true ∧ (1 ≤ w ∧ w ≤ 5) ∧ (1 ≤ h ∧ h ≤ 5) ∧ (1 ≤ ks.length ∧ ks.length ≤ 6) ∧ (∀ l ∈ ks, isLeg (lgD l) w h = true) ∧ legsOk ks = true) → IsDr d false
  | yes {nm : PyData} {w h : Int} {ks : List Lg} : d = .tuple [nm, .int w, .int h, .tuple (ks.map lgD)] → isName nm = true → (1 ≤ w ∧ w ≤ 5) → (1 ≤ h ∧ h ≤ 5) → (1 ≤ ks.length ∧ ks.length ≤ 6) → (∀ l ∈ ks, isLeg (lgD l) w h = true) → legsOk ks = true → IsDr d true
def sp_is_drawing (T : Top K mg) : SpD := fun es μ q x => ∃ (d : PyData), es = [.dat d] ∧ (Fit d ∧ ∀ b, IsDr d b → q (.dat (.bool b)) μ)
theorem e_is_drawing (T : Top K mg) {d : PyData} {μ : Mu} {q : PQ} {x : XQ} : sp_is_drawing T [.dat d] μ q x = (Fit d ∧ ∀ b, IsDr d b → q (.dat (.bool b)) μ) := by
  refine propext ⟨fun hyp0 => ?_, fun hyp0 => ⟨d, rfl, hyp0⟩⟩
  obtain ⟨d', eq0, hyp0⟩ := hyp0
  simp only [List.cons.injEq, Exn.mk.injEq, EV.at.injEq, eq_self, EV.dat.injEq, EV.loc.injEq, EV.new.injEq, EV.ro.injEq, EV.exc.injEq, EV.per.injEq, PyData.int.injEq, PyData.str.injEq, PyData.bool.injEq, PyData.list.injEq, PyData.tuple.injEq, and_true, true_and, and_assoc, map_int_inj, ] at eq0
  subst eq0
  exact hyp0
theorem ok_is_drawing (T : Top K mg) : DefAt P w K mg base "is_drawing" 3 ["thing"] [] [] (sp_is_drawing T) := by
  refine def_ok (sp_is_drawing T) T.F_is_drawing sc_is_drawing T.m_is_drawing T.b_is_drawing (fun cdv A outer s H E hr tk pw => (dss_cons (ds_if (dw_or (dt_not (dt_val (de_callB call_isiY cs_isi (by rfl) T.n_isinstance bb_isinstance (da_cons (dv 0) (da_cons (de_ty T.n_tuple bt_tuple) da_nil))))) (dw_or (dt_cmp (opA_ne hr.units) os_ne (de_callB call_lenA cs_lenD (by rfl) T.n_len bb_len (da_cons (dv 0) da_nil)) de_int (nomark _)) (dw_or1 (dt_not (dt_val (de_call (ok_is_name T) hr (by decide) (by rfl) tk (fun _ _ => .nil) (da_cons (de_stl (de_ix ix_seq os_ix (dv 0) de_int (fun _ _ => rfl))) da_nil))))))).dt (dss_one (ds_ret de_bl)) dss_nil)
    (dss_cons (ds_asg (de_frz (de_slice slA os_sl (dv 0) (do_some de_int) do_none)) (dg_tup (n := 3) rfl (dgs_cons (dg_name (i := 1) sc_is_drawing.nd rfl (by first | exact Or.inl rfl | exact Or.inr rfl)) (dgs_cons (dg_name (i := 2) sc_is_drawing.nd rfl (by first | exact Or.inl rfl | exact Or.inr rfl)) (dgs_cons (dg_name (i := 3) sc_is_drawing.nd rfl (by first | exact Or.inl rfl | exact Or.inr rfl)) dgs_nil)))))
    (dss_cons (ds_if (dw_or (dt_not (dt_val (de_call (ok_is_number T) hr (by decide) (by rfl) tk (fun _ _ => .nil) (da_cons (de_stl (dv 1)) (da_cons de_int (da_cons (de_stl (de_gint T.g_MOST_SIDE)) da_nil)))))) (dw_or1 (dt_not (dt_val (de_call (ok_is_number T) hr (by decide) (by rfl) tk (fun _ _ => .nil) (da_cons (de_stl (dv 2)) (da_cons de_int (da_cons (de_stl (de_gint T.g_MOST_SIDE)) da_nil)))))))).dt (dss_one (ds_ret de_bl)) dss_nil)
    (dss_cons (ds_if (dw_or (dt_not (dt_val (de_callB call_isiY cs_isi (by rfl) T.n_isinstance bb_isinstance (da_cons (dv 3) (da_cons (de_ty T.n_tuple bt_tuple) da_nil))))) (dw_or1 (dt_not (dt_chain op_le os_le op_le os_le de_int (de_callB call_lenA cs_lenD (by rfl) T.n_len bb_len (da_cons (dv 3) da_nil)) (de_gint T.g_MOST_LEGS))))).dt (dss_one (ds_ret de_bl)) dss_nil)
    (dss_cons (ds_if (dt_not (dt_val (de_callB (cr_all rfl) cs_all (by rfl) T.n_all bb_all (da_cons (de_lc (own := [("one", 4)]) rfl sc_is_drawing.nd (di_seqD (dv 3)) (blkOk_by (N := ["thing", "wide", "high", "those", "one"]) (sc := (defScope s_is_drawing)) (by decide +kernel)) (by decide) (fun _ _ _ _ _ => (dg_name (i := 4) sc_is_drawing.nd rfl (by first | exact Or.inl rfl | exact Or.inr rfl))) (fun _ _ _ _ _ => dts_nil) (fun _ _ _ _ _ => (de_call (ok_is_leg T) hr (by decide) (by rfl) tk0 (fun _ _ => .nil) (da_cons (de_stl (dv 4)) (da_cons (de_stl (dv 1)) (da_cons (de_stl (dv 2)) da_nil)))))) da_nil)))) (dss_one (ds_ret de_bl)) dss_nil)
    (dss_cons (ds_if (dw_or (dt_not (dt_val (de_call (ok_all_unlike T) hr (by decide) (by rfl) tk (fun _ _ => .nil) (da_cons (de_stl (de_lc (own := [("one", 4)]) rfl sc_is_drawing.nd (di_seqD (dv 3)) (blkOk_by (N := ["thing", "wide", "high", "those", "one"]) (sc := (defScope s_is_drawing)) (by decide +kernel)) (by decide) (fun _ _ _ _ _ => (dg_name (i := 4) sc_is_drawing.nd rfl (by first | exact Or.inl rfl | exact Or.inr rfl))) (fun _ _ _ _ _ => dts_nil) (fun _ _ _ _ _ => (de_ix ix_seq os_ix (dv 4) de_int (fun _ _ => rfl))))) da_nil)))) (dw_or1 (dt_not (dt_val (de_call (ok_all_unlike T) hr (by decide) (by rfl) tk (fun _ _ => .nil) (da_cons (de_stl (de_lc (own := [("one", 4)]) rfl sc_is_drawing.nd (di_seqD (dv 3)) (blkOk_by (N := ["thing", "wide", "high", "those", "one"]) (sc := (defScope s_is_drawing)) (by decide +kernel)) (by decide) (fun _ _ _ _ _ => (dg_name (i := 4) sc_is_drawing.nd rfl (by first | exact Or.inl rfl | exact Or.inr rfl))) (fun _ _ _ _ _ => dts_nil) (fun _ _ _ _ _ => (de_slice slA os_sl (dv 4) (do_some de_int) (do_some de_int))))) da_nil)))))).dt (dss_one (ds_ret de_bl)) dss_nil)
    (dss_one (ds_ret (de_cmp (opA_eq hr.units) os_eq (de_callTy (call_listA rfl) cs_listA (by rfl) T.n_list bt_list (da_cons (dv 3) da_nil)) (de_callB (call_sortA rfl hr.units) cs_sortA (by rfl) T.n_sorted bb_sorted (da_cons (dv 3) da_nil)) (nomark _))))))))))) ?_
  rintro es μ q x - ⟨d, rfl, F, k⟩
  cases d with
  | tuple xs =>
    obtain ⟨hl, hf⟩ := F.tup
    ((try walk_at "dx9"); repeat (walk_at "one" <;> (try walk_at "dx9")))
    by_cases h4 : xs.length = 4
    · rw [if_neg (by simp [h4])]
      obtain ⟨a, b, c, e, rfl⟩ : ∃ a b c e, xs = [a, b, c, e] := by
        match xs, h4 with
        | [a, b, c, e], _ => exact ⟨a, b, c, e, rfl⟩
      have fa := hf a (by simp)
      have fe := hf e (by simp)
      refine ⟨a, rfl, fa.txt, ?_⟩
      cases hn : isName a with
      | false =>
        rw [if_pos (by simp)]
        ((try walk_at "dx9"); repeat (walk_at "one" <;> (try walk_at "dx9")))
        exact k false (.no fun ⟨nm, w, h, ks, e1, e2, _⟩ => by cases e1; rw [hn] at e2; cases e2)
      | true =>
        rw [if_neg (by simp)]
        ((try walk_at "dx9"); repeat (walk_at "one" <;> (try walk_at "dx9")))
        rw [show cutD [a, b, c, e] (some 1) none = [b, c, e] from rfl]
        ((try walk_at "dx9"); repeat (walk_at "one" <;> (try walk_at "dx9")))
        cases hb : isNum b 1 5 with
        | false =>
          rw [if_pos (by simp)]
          ((try walk_at "dx9"); repeat (walk_at "one" <;> (try walk_at "dx9")))
          exact k false (.no fun ⟨nm, w, h, ks, e1, _, e2, _⟩ => by cases e1; simp [isNum] at hb; omega)
        | true =>
          obtain ⟨w, rfl, w1, w2⟩ := isNum_ex hb
          rw [if_neg (by simp)]
          ((try walk_at "dx9"); repeat (walk_at "one" <;> (try walk_at "dx9")))
          cases hc : isNum c 1 5 with
          | false =>
            rw [if_pos (by simp)]
            ((try walk_at "dx9"); repeat (walk_at "one" <;> (try walk_at "dx9")))
            exact k false (.no fun ⟨nm, w, h, ks, e1, _, _, e2, _⟩ => by cases e1; simp [isNum] at hc; omega)
          | true =>
            obtain ⟨h, rfl, h1, h2⟩ := isNum_ex hc
            rw [if_neg (by simp)]
            ((try walk_at "dx9"); repeat (walk_at "one" <;> (try walk_at "dx9")))
            cases e with
            | tuple ls =>
              obtain ⟨ll, lf⟩ := fe.tup
              ((try walk_at "dx9"); repeat (walk_at "one" <;> (try walk_at "dx9")))
              by_cases hl1 : 1 ≤ ls.length
              · by_cases hl2 : ls.length ≤ 6
                · rw [if_pos (by omega), if_neg (by simp; omega)]
                  ((try walk_at "dx9"); repeat (walk_at "one" <;> (try walk_at "dx9")))
                  refine lc_map (as := ls) (h := EV.dat) (fun d => .bool (isLeg d w h)) (by omega) trivial (fun d K hd hK => ?_) ?_
                  · (try walk_at "dx9")
                    exact ⟨lf d hd, hK⟩
                  rw [show ls.map (fun d => PyData.bool (isLeg d w h)) = (ls.map fun d => isLeg d w h).map .bool from by rw [List.map_map]; rfl]
                  (try walk_at "dx9")
                  have hall : ((ls.map fun d => isLeg d w h).all id) = ls.all (fun d => isLeg d w h) := by rw [List.all_map]; rfl
                  cases hv : ls.all (fun d => isLeg d w h) with
                  | false =>
                    rw [hall, hv, if_pos (by simp)]
                    ((try walk_at "dx9"); repeat (walk_at "one" <;> (try walk_at "dx9")))
                    refine k false (.no fun ⟨nm, w', h', ks, e1, _, _, _, _, e2, _⟩ => ?_)
                    cases e1
                    have : (ks.map lgD).all (fun d => isLeg d w h) = true := by
                      rw [List.all_map]
                      exact List.all_eq_true.mpr e2
                    rw [hv] at this
                    cases this
                  | true =>
                    obtain ⟨ks, rfl⟩ := legs_ex hv
                    rw [hall, hv, if_neg (by simp)]
                    rw [List.length_map] at hl1 hl2 ll
                    ((try walk_at "dx9"); repeat (walk_at "one" <;> (try walk_at "dx9")))
                    refine lc_mapD (f := ?f) (by omega) trivial (fun a K ha hK => ?e) ?_
                    case e => (try walk_at "dx9"); exact hK
                    (try walk_at "dx9")
                    refine ⟨⟨noDs_map (fun l => noD_s) _, Nat.le_trans (depA_map _ (n := 0) (fun l => Nat.le_of_eq dep_str) _) (by decide)⟩, ?_⟩
                    cases u1 : unlD (ks.map fun l => .str l.1) with
                    | false =>
                      rw [if_pos (by simp)]
                      ((try walk_at "dx9"); repeat (walk_at "one" <;> (try walk_at "dx9")))
                      refine k false (.no fun ⟨nm, w', h', ks', e1, _, _, _, _, _, e2⟩ => ?_)
                      obtain ⟨rfl, rfl, rfl, rfl⟩ := tup_inj e1
                      rw [show (ks.map fun l => PyData.str l.1) = (ks.map (·.1)).map .str from by rw [List.map_map]; rfl] at u1
                      have n1 : ¬ (ks.map (·.1)).Nodup := fun z => by rw [(unl_iff enc_str _).mpr z] at u1; cases u1
                      simp [legsOk, n1] at e2
                    | true =>
                      rw [if_neg (by simp)]
                      refine lc_mapD (f := ?f2) (by omega) trivial (fun a K ha hK => ?e2) ?_
                      case e2 => (try walk_at "dx9"); rw [cut13]; exact hK
                      (try walk_at "dx9")
                      refine ⟨⟨noDs_map (fun l => by rw [noD_t, noDs_cons, noD_i, noDs_cons, noD_i, noDs_nil]; rfl) _, Nat.le_trans (depA_map _ (n := 1) (fun l => by rw [dep_tup, depA_cons, dep_int, depA_cons, dep_int, depA_nil]; decide) _) (by decide)⟩, ?_⟩
                      cases u2 : unlD (ks.map fun l => .tuple [.int l.2.1, .int l.2.2.1]) with
                      | false =>
                        rw [if_pos (by simp)]
                        ((try walk_at "dx9"); repeat (walk_at "one" <;> (try walk_at "dx9")))
                        refine k false (.no fun ⟨nm, w', h', ks', e1, _, _, _, _, _, e2⟩ => ?_)
                        obtain ⟨rfl, rfl, rfl, rfl⟩ := tup_inj e1
                        rw [show (ks.map fun l => PyData.tuple [.int l.2.1, .int l.2.2.1]) = (ks.map fun l => (l.2.1, l.2.2.1)).map pt2 from by rw [List.map_map]; rfl] at u2
                        have n1 : ¬ (ks.map fun l => (l.2.1, l.2.2.1)).Nodup := fun z => by rw [(unl_iff enc_pt2 _).mpr z] at u2; cases u2
                        simp [legsOk, n1] at e2
                      | true =>
                        rw [if_neg (by simp)]
                        ((try walk_at "dx9"); repeat (walk_at "one" <;> (try walk_at "dx9")))
                        rw [ord_lg.srt_t (.inl fun l => ⟨_, _, rfl⟩) enc_lg (by decide)]
                        ((try walk_at "dx9"); repeat (walk_at "one" <;> (try walk_at "dx9")))
                        rw [show (ks.map fun l => PyData.str l.1) = (ks.map (·.1)).map .str from by rw [List.map_map]; rfl] at u1
                        rw [show (ks.map fun l => PyData.tuple [.int l.2.1, .int l.2.2.1]) = (ks.map fun l => (l.2.1, l.2.2.1)).map pt2 from by rw [List.map_map]; rfl] at u2
                        have n1 := (unl_iff enc_str _).mp u1
                        have n2 := (unl_iff enc_pt2 _).mp u2
                        have dp := depA_map lgD (n := 1) enc_lg.dep ks
                        refine ⟨⟨noDs_map enc_lg.nod _, noDs_map enc_lg.nod _⟩, by omega, ?_⟩
                        have hv' : ∀ l ∈ ks, isLeg (lgD l) w h = true := by
                          rw [List.all_map] at hv
                          exact List.all_eq_true.mp hv
                        by_cases hh : ks = ks.mergeSort (leO lgT)
                        · rw [(enc_lg.all _ _).mpr hh]
                          exact k true (.yes rfl hn ⟨w1, w2⟩ ⟨h1, h2⟩ ⟨hl1, hl2⟩ hv' (by unfold legsOk; rw [decide_eq_true n1, decide_eq_true n2, decide_eq_true hh]; rfl))
                        · rw [show PyData.eqvAll (ks.map lgD) ((ks.mergeSort (leO lgT)).map lgD) = false from by
                            rw [Bool.eq_false_iff]
                            exact fun z => hh ((enc_lg.all _ _).mp z)]
                          refine k false (.no fun ⟨nm, w', h', ks', e1, _, _, _, _, _, e2⟩ => ?_)
                          obtain ⟨rfl, rfl, rfl, rfl⟩ := tup_inj e1
                          unfold legsOk at e2
                          rw [decide_eq_false hh, Bool.and_false] at e2
                          cases e2
                · rw [if_pos (by omega), if_pos (by simp; omega)]
                  ((try walk_at "dx9"); repeat (walk_at "one" <;> (try walk_at "dx9")))
                  exact k false (.no fun ⟨nm, w, h, ks, e1, _, _, _, e2, _⟩ => by cases e1; simp at hl2; omega)
              · rw [if_neg (by omega)]
                ((try walk_at "dx9"); repeat (walk_at "one" <;> (try walk_at "dx9")))
                exact k false (.no fun ⟨nm, w, h, ks, e1, _, _, _, e2, _⟩ => by cases e1; simp at hl1; simp [hl1] at e2)
            | none => ((try walk_at "dx9"); repeat (walk_at "one" <;> (try walk_at "dx9"))); exact k false (.no fun ⟨_, _, _, _, e, _⟩ => by cases e)
            | bool b => ((try walk_at "dx9"); repeat (walk_at "one" <;> (try walk_at "dx9"))); exact k false (.no fun ⟨_, _, _, _, e, _⟩ => by cases e)
            | int i => ((try walk_at "dx9"); repeat (walk_at "one" <;> (try walk_at "dx9"))); exact k false (.no fun ⟨_, _, _, _, e, _⟩ => by cases e)
            | list xs => ((try walk_at "dx9"); repeat (walk_at "one" <;> (try walk_at "dx9"))); exact k false (.no fun ⟨_, _, _, _, e, _⟩ => by cases e)
            | str z => ((try walk_at "dx9"); repeat (walk_at "one" <;> (try walk_at "dx9"))); exact k false (.no fun ⟨_, _, _, _, e, _⟩ => by cases e)
            | dict kv => ((try walk_at "dx9"); repeat (walk_at "one" <;> (try walk_at "dx9"))); exact k false (.no fun ⟨_, _, _, _, e, _⟩ => by cases e)
    · rw [if_pos (by simp; omega)]
      ((try walk_at "dx9"); repeat (walk_at "one" <;> (try walk_at "dx9")))
      exact k false (.no fun ⟨nm, w, h, ks, e1, _⟩ => by cases e1; simp at h4)
  | none => ((try walk_at "dx9"); repeat (walk_at "one" <;> (try walk_at "dx9"))); exact k false (.no fun ⟨_, _, _, _, e, _⟩ => by cases e)
  | bool b => ((try walk_at "dx9"); repeat (walk_at "one" <;> (try walk_at "dx9"))); exact k false (.no fun ⟨_, _, _, _, e, _⟩ => by cases e)
  | int i => ((try walk_at "dx9"); repeat (walk_at "one" <;> (try walk_at "dx9"))); exact k false (.no fun ⟨_, _, _, _, e, _⟩ => by cases e)
  | list xs => ((try walk_at "dx9"); repeat (walk_at "one" <;> (try walk_at "dx9"))); exact k false (.no fun ⟨_, _, _, _, e, _⟩ => by cases e)
  | str z => ((try walk_at "dx9"); repeat (walk_at "one" <;> (try walk_at "dx9"))); exact k false (.no fun ⟨_, _, _, _, e, _⟩ => by cases e)
  | dict kv => ((try walk_at "dx9"); repeat (walk_at "one" <;> (try walk_at "dx9"))); exact k false (.no fun ⟨_, _, _, _, e, _⟩ => by cases e)
local macro_rules | `(tactic| walk_at "dx10") => `(tactic| simp (disch := first | assumption | omega) only [List.length_cons, List.length_nil, Nat.zero_add, Nat.reduceAdd, oLe, List.map_cons, List.map_nil, ↓exitQ_dat, startD, Nat.reduceSub, List.replicate.eq_2, List.replicate, List.cons_append, List.nil_append, ↓x_tOrD, ↓x_tNotD, ↓x_tVal, ↓x_dCB, ↓x_aCons, ↓dVar_0, ↓old_dat, ↓x_dRaw, ↓x_aNil, ↓isi_tuple, ↓wB_b, ↓isTupD_tuple, Bool.not_true, Bool.false_eq_true, if_true, ↓x_dOp, ↓lnD_tup, ↓x_dC, ↓ne_dd, ↓noD_i, and_true, dep_int, nle_h, eqv_int, ↓x_dCall, ↓x_dStl, ↓ix_tupD, at_nn, Int.reduceToNat, ↓stl_dat, ↓aO_cons, ↓nN_dat, ↓aO_nil, Bool.and_true, List.append_nil, ↓e_is_name, true_and, if_false, ↓tk_0, ↓x_dFrz, ↓x_dSl, ↓x_oSome, ↓intK_i, ↓x_oNo, ↓sl_tupD, ↓wD_dat, ↓x_gTp, ↓x_gCn, ↓x_gNm, ↓x_gNl0, List.set_cons_succ, List.set_cons_zero, ↓dVar_1, ↓dVar_2, ↓e_is_number, ↓dVar_3, ↓x_dChain, Bool.not_false, ↓oI0_ii, decide_eq_true_eq, ↓x_lc, ↓x_iSeqD, ↓seqDK_t, ↓x_oAll, wipeD, dVar_2, dVar_1, dVar_4, ↓e_is_leg, ↓lstK_new, ↓bools_k, List.getElem?_cons_zero, Option.some.injEq, exists_eq_left', ↓stl_new, ↓e_all_unlike, List.length_map, ↓lsA_t, ↓eq_nn, ↓noD_l, dep_lst, eqv_lst, ↓isTupD_none, ↓isTupD_bool, ↓isTupD_int, ↓isTupD_list, ↓lnD_lst, ↓isTupD_str, ↓lnD_str, ↓isTupD_dict, ↓lnD_d, ↓ix_lstD, ↓ix_s])
local macro_rules | `(tactic| walk_at "dx11") => `(tactic| simp (disch := first | assumption | omega) only [List.length_cons, List.length_nil, Nat.zero_add, ↓exitQ_dat, startD, List.map_cons, List.map_nil, Nat.reduceSub, List.replicate.eq_1, List.append_nil, ↓x_tNotD, ↓x_tVal, ↓x_dCall, ↓x_aCons, ↓x_dStl, ↓dVar_0, ↓old_dat, ↓stl_dat, ↓x_aNil, ↓aO_cons, ↓nN_dat, ↓aO_nil, Bool.and_true, ↓e_is_drawing, ↓wB_b, true_and, ↓tk_0, oGt, Nat.reduceAdd, List.replicate.eq_2, List.replicate, List.cons_append, List.nil_append, ↓x_tOrD, ↓x_dCB, ↓x_dRaw, ↓isi_str, ↓isStrD_str, Bool.not_true, Bool.false_eq_true, if_true, ↓x_dOp, ↓lnD_str, nle_h, ↓x_dC, ↓eq_dd, ↓noD_i, and_true, dep_int, eqv_int, decide_eq_true_eq, ↓oI0_ii, if_false, ↓x_dFrz, ↓x_lc, ↓x_iSeqD, ↓seqDK_s, ↓seqK_str, List.set_cons_succ, List.set_cons_zero, ↓x_gNm, wipeD, dVar_2, ↓wD_dat, ↓sign_ss, ↓wD_new, ↓x_dAndV, ↓dVar_1, ↓lnD_lst, List.length_map, ↓ix_s, at_nn, Int.reduceToNat, ↓isStrD_none, Bool.not_false, ↓isStrD_bool, ↓isStrD_int, ↓isStrD_list, ↓isStrD_tuple, ↓lnD_tup, ↓isStrD_dict, ↓lnD_d, oGe, oLe, ↓isi_int, ↓isIntD_int, ↓x_dNotV, ↓isi_bool, ↓isBoolD_int, ↓dVar_2, ↓isIntD_none, ↓isBoolD_none, ↓isIntD_bool, ↓isBoolD_bool, ↓isIntD_str, ↓isBoolD_str, ↓isIntD_list, ↓isBoolD_list, ↓isIntD_tuple, ↓isBoolD_tuple, ↓isIntD_dict, ↓isBoolD_dict])
def sp_drawing_of (T : Top K mg) : SpD := fun es μ q x => ∃ (d : PyData), es = [.dat d] ∧ (Fit d ∧ ∀ b, IsDr d b → (if b = true then q (.dat d) μ else x ⟨T.c_NoDrawing, none⟩ μ))
theorem e_drawing_of (T : Top K mg) {d : PyData} {μ : Mu} {q : PQ} {x : XQ} : sp_drawing_of T [.dat d] μ q x = (Fit d ∧ ∀ b, IsDr d b → (if b = true then q (.dat d) μ else x ⟨T.c_NoDrawing, none⟩ μ)) := by
  refine propext ⟨fun hyp0 => ?_, fun hyp0 => ⟨d, rfl, hyp0⟩⟩
  obtain ⟨d', eq0, hyp0⟩ := hyp0
  simp only [List.cons.injEq, Exn.mk.injEq, EV.at.injEq, eq_self, EV.dat.injEq, EV.loc.injEq, EV.new.injEq, EV.ro.injEq, EV.exc.injEq, EV.per.injEq, PyData.int.injEq, PyData.str.injEq, PyData.bool.injEq, PyData.list.injEq, PyData.tuple.injEq, and_true, true_and, and_assoc, map_int_inj, ] at eq0
  subst eq0
  exact hyp0
theorem ok_drawing_of (T : Top K mg) : DefAt P w K mg base "drawing_of" 4 ["thing"] [] [] (sp_drawing_of T) := by
  refine def_ok (sp_drawing_of T) T.F_drawing_of sc_drawing_of T.m_drawing_of T.b_drawing_of (fun cdv A outer s H E hr tk pw => (dss_cons (ds_if (dt_not (dt_val (de_call (ok_is_drawing T) hr (by decide) (by rfl) tk (fun _ _ => .nil) (da_cons (de_stl (dv 0)) da_nil)))) (dss_one (ds_raise rfl tk PySem.F.excBase_ValueError T.xx_NoDrawing T.gx_NoDrawing T.xk_NoDrawing (raises_own T.xb_NoDrawing T.xt_NoDrawing) (by rfl))) dss_nil)
    (dss_one (ds_ret (dv 0))))) ?_
  rintro es μ q x - ⟨d, rfl, F, k⟩
  ((try walk_at "dx11"); repeat (walk_at "one" <;> (try walk_at "dx11")))
  refine ⟨F, fun b hb => ?_⟩
  have k := k b hb
  cases b with
  | true =>
    rw [if_pos rfl] at k
    rw [if_neg (by simp)]
    ((try walk_at "dx11"); repeat (walk_at "one" <;> (try walk_at "dx11")))
    exact k
  | false =>
    rw [if_neg (by simp)] at k
    rw [if_pos (by simp)]
    ((try walk_at "dx11"); repeat (walk_at "one" <;> (try walk_at "dx11")))
    exact k
local macro_rules | `(tactic| walk_at "dx12") => `(tactic| simp (disch := first | assumption | omega) only [List.length_cons, List.length_nil, Nat.zero_add, ↓exitQ_dat, startD, List.map_cons, List.map_nil, Nat.reduceSub, List.replicate.eq_1, List.append_nil, ↓x_tNotD, ↓x_tVal, ↓x_dCall, ↓x_aCons, ↓x_dStl, ↓dVar_0, ↓old_dat, ↓stl_dat, ↓x_aNil, ↓aO_cons, ↓nN_dat, ↓aO_nil, Bool.and_true, ↓e_is_drawing, ↓wB_b, true_and, ↓tk_0, oGt, Nat.reduceAdd, List.replicate.eq_2, List.replicate, List.cons_append, List.nil_append, ↓x_tOrD, ↓x_dCB, ↓x_dRaw, ↓isi_str, ↓isStrD_str, Bool.not_true, Bool.false_eq_true, if_true, ↓x_dOp, ↓lnD_str, nle_h, ↓x_dC, ↓eq_dd, ↓noD_i, and_true, dep_int, eqv_int, decide_eq_true_eq, ↓oI0_ii, if_false, ↓x_dFrz, ↓x_lc, ↓x_iSeqD, ↓seqDK_s, ↓seqK_str, List.set_cons_succ, List.set_cons_zero, ↓x_gNm, wipeD, dVar_2, ↓wD_dat, ↓sign_ss, ↓wD_new, ↓x_dAndV, ↓dVar_1, ↓lnD_lst, List.length_map, ↓ix_s, at_nn, Int.reduceToNat, ↓isStrD_none, Bool.not_false, ↓isStrD_bool, ↓isStrD_int, ↓isStrD_list, ↓isStrD_tuple, ↓lnD_tup, ↓isStrD_dict, ↓lnD_d, oGe, oLe, ↓isi_int, ↓isIntD_int, ↓x_dNotV, ↓isi_bool, ↓isBoolD_int, ↓dVar_2, ↓isIntD_none, ↓isBoolD_none, ↓isIntD_bool, ↓isBoolD_bool, ↓isIntD_str, ↓isBoolD_str, ↓isIntD_list, ↓isBoolD_list, ↓isIntD_tuple, ↓isBoolD_tuple, ↓isIntD_dict, ↓isBoolD_dict])
theorem alnum : (Str.ofString "abcdefghijklmnopqrstuvwxyz0123456789").cps.toList = letters.cps.toList ++ figures.cps.toList := by decide
theorem lets_figs : ∀ c ∈ letters.cps.toList, c ∉ figures.cps.toList := by decide
def sp_law_is_word : SpD := fun es μ q x => ∃ (d : PyData), es = [.dat d] ∧ ((∀ z, d = .str z → z.length ≤ 1000) ∧ q (.dat (.bool (isName d))) μ)
theorem e_law_is_word {d : PyData} {μ : Mu} {q : PQ} {x : XQ} : sp_law_is_word [.dat d] μ q x = ((∀ z, d = .str z → z.length ≤ 1000) ∧ q (.dat (.bool (isName d))) μ) := by
  refine propext ⟨fun hyp0 => ?_, fun hyp0 => ⟨d, rfl, hyp0⟩⟩
  obtain ⟨d', eq0, hyp0⟩ := hyp0
  simp only [List.cons.injEq, Exn.mk.injEq, EV.at.injEq, eq_self, EV.dat.injEq, EV.loc.injEq, EV.new.injEq, EV.ro.injEq, EV.exc.injEq, EV.per.injEq, PyData.int.injEq, PyData.str.injEq, PyData.bool.injEq, PyData.list.injEq, PyData.tuple.injEq, and_true, true_and, and_assoc, map_int_inj, ] at eq0
  subst eq0
  exact hyp0
theorem ok_law_is_word (T : Top K mg) : DefAt P w K mg base "_law_is_word" 1 ["_law_thing"] [] [] sp_law_is_word := by
  refine def_ok sp_law_is_word T.F_law_is_word sc_law_is_word T.m_law_is_word T.b_law_is_word (fun cdv A outer s H E hr tk pw => (dss_cons (ds_if (dw_or (dt_not (dt_val (de_callB call_isiY cs_isi (by rfl) T.n_isinstance bb_isinstance (da_cons (dv 0) (da_cons (de_ty T.n_str bt_str) da_nil))))) (dw_or (dt_cmp (opA_eq hr.units) os_eq (de_callB call_lenA cs_lenD (by rfl) T.n_len bb_len (da_cons (dv 0) da_nil)) de_int (nomark _)) (dw_or1 (dt_cmp op_gt os_gt (de_callB call_lenA cs_lenD (by rfl) T.n_len bb_len (da_cons (dv 0) da_nil)) de_int (nomark _))))).dt (dss_one (ds_ret de_bl)) dss_nil)
    (dss_cons (ds_setLc (i := 1) (k := dFrz) (own := [("_law_sign", 2)]) rfl sc_law_is_word.nd rfl rfl (sw_true rfl rfl rfl (by decide +kernel)) (.inl rfl) (di_seqD (dv 0)) (blkOk_by (N := ["_law_thing", "_law_good", "_law_sign"]) (sc := (defScope s_law_is_word)) (by decide +kernel)) (by decide) (fun _ _ _ _ _ => (dg_name (i := 2) sc_law_is_word.nd rfl (by first | exact Or.inl rfl | exact Or.inr rfl))) (fun _ _ _ _ _ => (dts_one (dt_cmp op_in_sign os_inSign (dv 2) de_str (by rfl)))) (fun _ _ _ _ _ => (dv 2)))
    (dss_one (ds_ret (de_and (de_cmp (opA_eq hr.units) os_eq (de_callB call_lenA cs_lenD (by rfl) T.n_len bb_len (da_cons (dv 1) da_nil)) (de_callB call_lenA cs_lenD (by rfl) T.n_len bb_len (da_cons (dv 0) da_nil)) (nomark _)) (de_one (de_cmp op_notIn_sign os_notInSign (de_ix ix_seq os_ix (dv 0) de_int (fun _ _ => rfl)) de_str (by rfl))))))))) ?_
  rintro es μ q x - ⟨d, rfl, hz, h⟩
  cases d with
  | str z =>
    have hz := hz z rfl
    ((try walk_at "dx12"); repeat (walk_at "one" <;> (try walk_at "dx12")))
    by_cases h0 : 1 ≤ z.length
    · rw [if_neg (by omega)]
      by_cases h6 : z.length ≤ 6
      · rw [if_neg (by omega)]
        obtain ⟨c, r, hc⟩ := str_at0 h0
        have hl : z.cps.toList.length = z.length := Array.length_toList
        ((try walk_at "dx12"); repeat (walk_at "one" <;> (try walk_at "dx12")))
        refine lc_filter (p := fun c => decide (c ∈ letters.cps.toList) || decide (c ∈ figures.cps.toList)) (f := fun c => .str ⟨#[c]⟩) (by omega) trivial (fun a K K' _ hK hK' => ?_) ?_
        · (try walk_at "dx12")
          refine ⟨a, rfl, ?_⟩
          by_cases h4 : a ∈ letters.cps.toList ∨ a ∈ figures.cps.toList
          · rw [if_pos (by rw [alnum]; exact List.mem_append.mpr h4)]
            exact hK (by simpa using h4)
          · rw [if_neg (by rw [alnum]; exact fun z => h4 (List.mem_append.mp z))]
            exact hK' (by simpa using h4)
        · have hall : (List.filter (fun c => decide (c ∈ letters.cps.toList) || decide (c ∈ figures.cps.toList)) z.cps.toList).length = z.length ↔ z.cps.toList.all (fun c => decide (c ∈ letters.cps.toList) || decide (c ∈ figures.cps.toList)) = true := by
            rw [← hl, List.length_filter_eq_length_iff, List.all_eq_true]
          generalize List.filter (fun c => decide (c ∈ letters.cps.toList) || decide (c ∈ figures.cps.toList)) z.cps.toList = F at hall
          ((try walk_at "dx12"); repeat (walk_at "one" <;> (try walk_at "dx12")))
          have hn : isName (.str z) = (decide (c ∈ letters.cps.toList) && z.cps.toList.all fun c => decide (c ∈ letters.cps.toList) || decide (c ∈ figures.cps.toList)) := by
            simp [isName, nameZ, h0, h6, hc]
          rw [hn] at h
          by_cases hf : F.length = z.length
          · rw [if_pos (by omega)]
            refine ⟨c, by rw [hc]; rfl, c, rfl, ?_⟩
            have ha := hall.mp hf
            rw [ha, Bool.and_true] at h
            have hcm := List.all_eq_true.mp ha c (by rw [hc]; exact List.mem_cons_self)
            rw [Bool.or_eq_true, decide_eq_true_eq, decide_eq_true_eq] at hcm
            rw [show (!decide (c ∈ (Str.ofString "0123456789").cps.toList)) = decide (c ∈ letters.cps.toList) from by
              change (!decide (c ∈ figures.cps.toList)) = _
              by_cases h3 : c ∈ letters.cps.toList
              · rw [decide_eq_true h3, decide_eq_false (lets_figs c h3)]
                rfl
              · rw [decide_eq_false h3, decide_eq_true (hcm.resolve_left h3)]
                rfl]
            exact h
          · rw [if_neg (by omega)]
            have ha : (z.cps.toList.all fun c => decide (c ∈ letters.cps.toList) || decide (c ∈ figures.cps.toList)) = false := by
              rw [Bool.eq_false_iff]
              exact fun z => hf (hall.mpr z)
            rw [ha, Bool.and_false] at h
            exact h
      · rw [if_pos (by omega)]
        ((try walk_at "dx12"); repeat (walk_at "one" <;> (try walk_at "dx12")))
        have : nameZ z = false := by unfold nameZ; simp [h6]
        simp only [isName, this] at h
        exact h
    · rw [if_pos (by omega)]
      ((try walk_at "dx12"); repeat (walk_at "one" <;> (try walk_at "dx12")))
      have : nameZ z = false := by unfold nameZ; simp [h0]
      simp only [isName, this] at h
      exact h
  | none => ((try walk_at "dx12"); repeat (walk_at "one" <;> (try walk_at "dx12"))); exact h
  | bool b => ((try walk_at "dx12"); repeat (walk_at "one" <;> (try walk_at "dx12"))); exact h
  | int i => ((try walk_at "dx12"); repeat (walk_at "one" <;> (try walk_at "dx12"))); exact h
  | list xs => ((try walk_at "dx12"); repeat (walk_at "one" <;> (try walk_at "dx12"))); exact h
  | tuple xs => ((try walk_at "dx12"); repeat (walk_at "one" <;> (try walk_at "dx12"))); exact h
  | dict kv => ((try walk_at "dx12"); repeat (walk_at "one" <;> (try walk_at "dx12"))); exact h
local macro_rules | `(tactic| walk_at "dx13") => `(tactic| simp (disch := first | assumption | omega) only [List.length_cons, List.length_nil, Nat.zero_add, ↓exitQ_dat, startD, List.map_cons, List.map_nil, Nat.reduceSub, List.replicate.eq_1, List.append_nil, ↓x_tNotD, ↓x_tVal, ↓x_dCall, ↓x_aCons, ↓x_dStl, ↓dVar_0, ↓old_dat, ↓stl_dat, ↓x_aNil, ↓aO_cons, ↓nN_dat, ↓aO_nil, Bool.and_true, ↓e_is_drawing, ↓wB_b, true_and, ↓tk_0, oGt, Nat.reduceAdd, List.replicate.eq_2, List.replicate, List.cons_append, List.nil_append, ↓x_tOrD, ↓x_dCB, ↓x_dRaw, ↓isi_str, ↓isStrD_str, Bool.not_true, Bool.false_eq_true, if_true, ↓x_dOp, ↓lnD_str, nle_h, ↓x_dC, ↓eq_dd, ↓noD_i, and_true, dep_int, eqv_int, decide_eq_true_eq, ↓oI0_ii, if_false, ↓x_dFrz, ↓x_lc, ↓x_iSeqD, ↓seqDK_s, ↓seqK_str, List.set_cons_succ, List.set_cons_zero, ↓x_gNm, wipeD, dVar_2, ↓wD_dat, ↓sign_ss, ↓wD_new, ↓x_dAndV, ↓dVar_1, ↓lnD_lst, List.length_map, ↓ix_s, at_nn, Int.reduceToNat, ↓isStrD_none, Bool.not_false, ↓isStrD_bool, ↓isStrD_int, ↓isStrD_list, ↓isStrD_tuple, ↓lnD_tup, ↓isStrD_dict, ↓lnD_d, oGe, oLe, ↓isi_int, ↓isIntD_int, ↓x_dNotV, ↓isi_bool, ↓isBoolD_int, ↓dVar_2, ↓isIntD_none, ↓isBoolD_none, ↓isIntD_bool, ↓isBoolD_bool, ↓isIntD_str, ↓isBoolD_str, ↓isIntD_list, ↓isBoolD_list, ↓isIntD_tuple, ↓isBoolD_tuple, ↓isIntD_dict, ↓isBoolD_dict])
def sp_law_between : SpD := fun es μ q x => ∃ (d : PyData) (a : Int) (b : Int), es = [.dat d, .dat (.int a), .dat (.int b)] ∧ (q (.dat (.bool (isNum d a b))) μ)
theorem e_law_between {d : PyData} {a : Int} {b : Int} {μ : Mu} {q : PQ} {x : XQ} : sp_law_between [.dat d, .dat (.int a), .dat (.int b)] μ q x = (q (.dat (.bool (isNum d a b))) μ) := by
  refine propext ⟨fun hyp0 => ?_, fun hyp0 => ⟨d, a, b, rfl, hyp0⟩⟩
  obtain ⟨d', a', b', eq0, hyp0⟩ := hyp0
  simp only [List.cons.injEq, Exn.mk.injEq, EV.at.injEq, eq_self, EV.dat.injEq, EV.loc.injEq, EV.new.injEq, EV.ro.injEq, EV.exc.injEq, EV.per.injEq, PyData.int.injEq, PyData.str.injEq, PyData.bool.injEq, PyData.list.injEq, PyData.tuple.injEq, and_true, true_and, and_assoc, map_int_inj, ] at eq0
  obtain ⟨rfl, rfl, rfl⟩ := eq0
  exact hyp0
theorem ok_law_between (T : Top K mg) : DefAt P w K mg base "_law_between" 1 ["_law_thing", "_law_least", "_law_most"] [] [] sp_law_between := by
  refine def_ok sp_law_between T.F_law_between sc_law_between T.m_law_between T.b_law_between (fun cdv A outer s H E hr tk pw => (dss_one (ds_ret (de_and (de_callB call_isiY cs_isi (by rfl) T.n_isinstance bb_isinstance (da_cons (dv 0) (da_cons (de_ty T.n_int bt_int) da_nil))) (de_and (de_not (de_callB call_isiY cs_isi (by rfl) T.n_isinstance bb_isinstance (da_cons (dv 0) (da_cons (de_ty T.n_bool bt_bool) da_nil)))) (de_and (de_cmp op_ge os_ge (dv 0) (dv 1) (nomark _)) (de_one (de_cmp op_le os_le (dv 0) (dv 2) (nomark _))))))))) ?_
  rintro es μ q x - ⟨d, a, b, rfl, h⟩
  cases d with
  | int i =>
    ((try walk_at "dx13"); repeat (walk_at "one" <;> (try walk_at "dx13")))
    simp only [isNum] at h
    split
    · rename_i ha
      simpa [ha] using h
    · rename_i ha
      simpa [ha] using h
  | none => ((try walk_at "dx13"); repeat (walk_at "one" <;> (try walk_at "dx13"))); exact h
  | bool b => ((try walk_at "dx13"); repeat (walk_at "one" <;> (try walk_at "dx13"))); exact h
  | str z => ((try walk_at "dx13"); repeat (walk_at "one" <;> (try walk_at "dx13"))); exact h
  | list xs => ((try walk_at "dx13"); repeat (walk_at "one" <;> (try walk_at "dx13"))); exact h
  | tuple xs => ((try walk_at "dx13"); repeat (walk_at "one" <;> (try walk_at "dx13"))); exact h
  | dict kv => ((try walk_at "dx13"); repeat (walk_at "one" <;> (try walk_at "dx13"))); exact h
local macro_rules | `(tactic| walk_at "dx14") => `(tactic| simp (disch := first | assumption | omega) only [List.length_cons, List.length_nil, Nat.zero_add, ↓exitQ_dat, startD, List.map_cons, List.map_nil, Nat.reduceSub, List.replicate.eq_1, List.append_nil, ↓x_tNotD, ↓x_tVal, ↓x_dCall, ↓x_aCons, ↓x_dStl, ↓dVar_0, ↓old_dat, ↓stl_dat, ↓x_aNil, ↓aO_cons, ↓nN_dat, ↓aO_nil, Bool.and_true, ↓e_is_drawing, ↓wB_b, true_and, ↓tk_0, oGt, Nat.reduceAdd, List.replicate.eq_2, List.replicate, List.cons_append, List.nil_append, ↓x_tOrD, ↓x_dCB, ↓x_dRaw, ↓isi_str, ↓isStrD_str, Bool.not_true, Bool.false_eq_true, if_true, ↓x_dOp, ↓lnD_str, nle_h, ↓x_dC, ↓eq_dd, ↓noD_i, and_true, dep_int, eqv_int, decide_eq_true_eq, ↓oI0_ii, if_false, ↓x_dFrz, ↓x_lc, ↓x_iSeqD, ↓seqDK_s, ↓seqK_str, List.set_cons_succ, List.set_cons_zero, ↓x_gNm, wipeD, dVar_2, ↓wD_dat, ↓sign_ss, ↓wD_new, ↓x_dAndV, ↓dVar_1, ↓lnD_lst, List.length_map, ↓ix_s, at_nn, Int.reduceToNat, ↓isStrD_none, Bool.not_false, ↓isStrD_bool, ↓isStrD_int, ↓isStrD_list, ↓isStrD_tuple, ↓lnD_tup, ↓isStrD_dict, ↓lnD_d, oGe, oLe, ↓isi_int, ↓isIntD_int, ↓x_dNotV, ↓isi_bool, ↓isBoolD_int, ↓dVar_2, ↓isIntD_none, ↓isBoolD_none, ↓isIntD_bool, ↓isBoolD_bool, ↓isIntD_str, ↓isBoolD_str, ↓isIntD_list, ↓isBoolD_list, ↓isIntD_tuple, ↓isBoolD_tuple, ↓isIntD_dict, ↓isBoolD_dict])
local macro_rules | `(tactic| walk_at "dx15") => `(tactic| simp (disch := first | assumption | omega) only [List.length_cons, List.length_nil, Nat.zero_add, Nat.reduceAdd, oSub, List.map_cons, List.map_nil, oGt, oLt, ↓exitQ_dat, startD, Nat.reduceSub, List.replicate.eq_2, List.replicate, List.cons_append, List.nil_append, ↓x_tOrD, ↓x_tNotD, ↓x_tVal, ↓x_dCB, ↓x_aCons, ↓dVar_0, ↓old_dat, ↓x_dRaw, ↓x_aNil, ↓isi_tuple, ↓wB_b, ↓isTupD_tuple, Bool.not_true, Bool.false_eq_true, if_true, ↓x_dOp, ↓lnD_tup, ↓x_dC, ↓ne_dd, ↓noD_i, and_true, dep_int, nle_h, eqv_int, ↓ix_tupD, at_nn, Int.reduceToNat, true_and, if_false, List.getElem?_cons_succ, List.getElem?_cons_zero, Option.some.injEq, exists_eq_left', ↓x_dFrz, ↓wD_dat, ↓x_gTp, ↓x_gCn, ↓x_gNm, ↓nN_dat, ↓x_gNl0, List.set_cons_succ, List.set_cons_zero, ↓x_dCall, ↓x_dStl, ↓dVar_1, ↓stl_dat, ↓aO_cons, ↓aO_nil, Bool.and_true, List.append_nil, ↓dVar_2, ↓dVar_3, ↓e_law_between, ↓e_law_is_word, ↓tk_0, ↓x_iSeqD, ↓dVar_4, ↓seqDK_t, ↓fg_cons, ↓fg_nil, ↓dVar_5, ↓oI0_ii, ↓x_tAndD, ↓noD_s, dep_str, cl_none, ↓cl_dat, ↓cl_nil, ↓isTupD_none, Bool.not_false, ↓isTupD_bool, ↓isTupD_int, ↓isTupD_list, ↓lnD_lst, ↓ix_lstD, ↓isTupD_str, ↓lnD_str, ↓ix_s, ↓isTupD_dict, ↓lnD_d, Option.map_none, ↓x_lc, wipeD, dVar_5, ↓wD_new, ↓x_dTup, ↓wDs_cons, ↓wDs_nil, ↓srt_n, ↓stl_new, ↓dVar_6, ↓x_dSortSetX, ↓dVar_7, ↓x_dSortSet, ↓ne_dn, ↓noD_l, ↓noDs_s, dep_lst, eqv_lst, ↓x_dAndV, List.length_map, decide_eq_true_eq, Option.map_some])
def sp_law_is_drawing (T : Top K mg) : SpD := fun es μ q x => ∃ (d : PyData), es = [.dat d] ∧ (Fit d ∧ ∀ b, IsDr d b → q (.dat (.bool b)) μ)
theorem e_law_is_drawing (T : Top K mg) {d : PyData} {μ : Mu} {q : PQ} {x : XQ} : sp_law_is_drawing T [.dat d] μ q x = (Fit d ∧ ∀ b, IsDr d b → q (.dat (.bool b)) μ) := by
  refine propext ⟨fun hyp0 => ?_, fun hyp0 => ⟨d, rfl, hyp0⟩⟩
  obtain ⟨d', eq0, hyp0⟩ := hyp0
  simp only [List.cons.injEq, Exn.mk.injEq, EV.at.injEq, eq_self, EV.dat.injEq, EV.loc.injEq, EV.new.injEq, EV.ro.injEq, EV.exc.injEq, EV.per.injEq, PyData.int.injEq, PyData.str.injEq, PyData.bool.injEq, PyData.list.injEq, PyData.tuple.injEq, and_true, true_and, and_assoc, map_int_inj, ] at eq0
  subst eq0
  exact hyp0
theorem ord_pt2 : OrdE pt2 (lx2 (fun a b : Int => decide (a < b)) fun a b : Int => decide (a < b)) := ord_int.t2 ord_int
abbrev strLt (a b : Str) : Bool := decide (a.cps.toList < b.cps.toList)
theorem legsOk_eq (ks : List Lg) : legsOk ks = (decide (ks.map (·.1) = (ks.map (·.1)).mergeSort (leO strLt) ∧ (ks.map (·.1)).Nodup) && decide ((ks.map fun l => (l.2.1, l.2.2.1)).Nodup)) := by
  unfold legsOk
  rw [Bool.eq_iff_iff]
  simp only [Bool.and_eq_true, decide_eq_true_eq]
  constructor
  · rintro ⟨⟨n1, n2⟩, e⟩
    refine ⟨⟨?_, n1⟩, n2⟩
    have hs := sort_sorted ord_lg ks
    rw [← e] at hs
    have hr : Rise strLt (ks.map (·.1)) := by
      unfold Rise
      rw [List.pairwise_map]
      rw [List.Nodup, List.pairwise_map] at n1
      refine List.Pairwise.imp₂ (fun a b h3 h4 => ?_) hs n1
      rcases ord_str.tri a.1 b.1 with z | z | z
      · exact z
      · exact absurd z h4
      · exfalso
        have : lgT b a = true := by
          unfold lgT lx2
          rw [if_neg (fun w => h4 w.symm)]
          exact z
        unfold leO at h3
        rw [this] at h3
        cases h3
    exact (sort_rise ord_str hr).symm
  · rintro ⟨⟨e, n1⟩, n2⟩
    refine ⟨⟨n1, n2⟩, ?_⟩
    have hr : Rise strLt (ks.map (·.1)) := by
      rw [e]
      exact rise_sort ord_str n1
    have hr2 : Rise lgT ks := by
      unfold Rise at hr ⊢
      rw [List.pairwise_map] at hr
      refine hr.imp fun {a b} h3 => ?_
      unfold lgT lx2
      rw [if_neg fun z => ?_]
      · exact h3
      · rw [z] at h3
        have hi := ord_str.irr b.1
        exact absurd (h3.symm.trans hi) (by decide)
    exact (sort_rise ord_lg hr2).symm
abbrev ltP2 := lx2 (fun a b : Int => decide (a < b)) fun a b : Int => decide (a < b)
/-- sorted(set(xs)) of pairs near nought -/
theorem sortSet_pt2 {μ : Mu} {q : PQ} {e : EV} {ss : List (Int × Int)} (he : lstOf μ e = some (ss.map pt2)) (hl : ss.length < 64) (hb : ∀ c ∈ ss, (0 ≤ c.1 ∧ c.1 < 64) ∧ (0 ≤ c.2 ∧ c.2 < 64)) (h : ∀ L : List (Int × Int), Rise ltP2 L → (∀ a, a ∈ L ↔ a ∈ ss) → q (.new (L.map pt2)) μ) : oSortSet e μ q := by
  have code2 : ∀ x y : Int, TS.code 64 [x, y] = x * 64 + y := fun x y => by
    have e1 : (64 : Int) ^ 1 = 64 := by decide
    have e0 : (64 : Int) ^ 0 = 1 := by decide
    show x * 64 ^ 1 + (y * 64 ^ 0 + 0) = _
    rw [e1, e0]
    omega
  refine ⟨ss.map fun c => [c.1, c.2], 2, 64, by rw [he, List.map_map]; rfl, by simpa using hl, by decide, fun a ha => ?_, fun L hn hm hp => ?_⟩
  · obtain ⟨c, hc, rfl⟩ := List.mem_map.mp ha
    obtain ⟨⟨b1, b2⟩, b3, b4⟩ := hb c hc
    refine ⟨rfl, ?_⟩
    intro x hx
    simp only [List.mem_cons, List.not_mem_nil, or_false] at hx
    rcases hx with rfl | rfl <;> constructor <;> assumption
  · have hx : ∀ a ∈ L, ∃ c ∈ ss, a = [c.1, c.2] := fun a ha => by
      obtain ⟨c, hc, e⟩ := List.mem_map.mp ((hm a).mp ha)
      exact ⟨c, hc, e.symm⟩
    obtain ⟨M, hM, hMs⟩ : ∃ M : List (Int × Int), L = M.map (fun c => [c.1, c.2]) ∧ ∀ c ∈ M, c ∈ ss := by
      clear hm hp hn
      induction L with
      | nil => exact ⟨[], rfl, fun c hc => by simp at hc⟩
      | cons a L ih =>
        obtain ⟨c, hc, e⟩ := hx a (by simp)
        obtain ⟨M, e2, h2⟩ := ih fun b hb => hx b (List.mem_cons_of_mem _ hb)
        exact ⟨c :: M, by rw [e, e2]; rfl, fun d hd => (List.mem_cons.mp hd).elim (fun z => z ▸ hc) (h2 d)⟩
    subst hM
    have e : (M.map fun c => [c.1, c.2]).map tupI = M.map pt2 := by rw [List.map_map]; rfl
    rw [e]
    have inj : ∀ c d : Int × Int, [c.1, c.2] = [d.1, d.2] → c = d := fun c d h => by
      simp only [List.cons.injEq, and_true] at h
      exact Prod.ext h.1 h.2
    have hnM : M.Nodup := List.Pairwise.of_map (f := fun c : Int × Int => [c.1, c.2]) (fun _ _ hne e => hne (by rw [e])) hn
    refine h M ?_ fun a => ?_
    · have hp' := List.pairwise_map.mp hp
      refine List.Pairwise.imp₂ (R := fun c d => TS.code 64 [c.1, c.2] ≤ TS.code 64 [d.1, d.2] ∧ c ∈ ss ∧ d ∈ ss) (fun c d h1 h2 => ?_) ?_ hnM
      · obtain ⟨h1, hc, hd⟩ := h1
        rw [code2, code2] at h1
        obtain ⟨⟨b1, b2⟩, b3, b4⟩ := hb c hc
        obtain ⟨⟨d1, d2⟩, d3, d4⟩ := hb d hd
        obtain ⟨c1, c2⟩ := c
        obtain ⟨e1, e2⟩ := d
        simp only [ltP2, lx2] at *
        by_cases x1 : c1 = e1
        · subst x1
          rw [if_pos rfl, decide_eq_true_eq]
          have : c2 ≠ e2 := fun z => h2 (by rw [z])
          omega
        · rw [if_neg x1, decide_eq_true_eq]
          omega
      · exact List.Pairwise.imp_of_mem (fun {c d} hc hd z => ⟨z, hMs c hc, hMs d hd⟩) hp'
    · constructor
      · exact hMs a
      · intro ha
        obtain ⟨d, hd, e⟩ := List.mem_map.mp ((hm [a.1, a.2]).mpr (List.mem_map_of_mem ha))
        rw [← inj d a e]
        exact hd
theorem set_same {α : Type} {en : α → PyData} {lt : α → α → Bool} (O : OrdE en lt) {ns bs : List α} (hb : bs.Nodup) (hm : ∀ x, x ∈ bs ↔ x ∈ ns) : ns = bs.mergeSort (leO lt) ↔ (ns = ns.mergeSort (leO lt) ∧ ns.Nodup) := by
  constructor
  · intro e
    have r := rise_sort O hb
    rw [← e] at r
    exact ⟨(sort_rise O r).symm, r.nodup O⟩
  · rintro ⟨e, n⟩
    have r := rise_sort O n
    rw [← e] at r
    exact rise_ext O r (rise_sort O hb) fun a => by rw [List.mem_mergeSort]; exact (hm a).symm
theorem set_same2 {α : Type} {en : α → PyData} {lt : α → α → Bool} (O : OrdE en lt) {ps L : List α} (hb : Rise lt L) (hm : ∀ x, x ∈ L ↔ x ∈ ps.mergeSort (leO lt)) : ps.mergeSort (leO lt) = L ↔ ps.Nodup := by
  constructor
  · intro e
    rw [← e] at hb
    exact (List.mergeSort_perm ps _).nodup_iff.mp (hb.nodup O)
  · intro n
    exact rise_ext O (rise_sort O n) hb fun a => (hm a).symm
theorem kindB_iff (e : PyData) : kindB e = (PyData.eqv e (.str "flat") || PyData.eqv e (.str "through")) := by
  cases e <;> simp [kindB, PyData.eqv]
  rfl
theorem ok_law_is_drawing (T : Top K mg) : DefAt P w K mg base "_law_is_drawing" 2 ["_law_thing"] [] [] (sp_law_is_drawing T) := by
  refine def_ok (sp_law_is_drawing T) T.F_law_is_drawing sc_law_is_drawing T.m_law_is_drawing T.b_law_is_drawing (fun cdv A outer s H E hr tk pw => (dss_cons (ds_if (dw_or (dt_not (dt_val (de_callB call_isiY cs_isi (by rfl) T.n_isinstance bb_isinstance (da_cons (dv 0) (da_cons (de_ty T.n_tuple bt_tuple) da_nil))))) (dw_or (dt_cmp (opA_ne hr.units) os_ne (de_callB call_lenA cs_lenD (by rfl) T.n_len bb_len (da_cons (dv 0) da_nil)) de_int (nomark _)) (dw_or1 (dt_not (dt_val (de_callB call_isiY cs_isi (by rfl) T.n_isinstance bb_isinstance (da_cons (de_ix ix_seq os_ix (dv 0) de_int (fun _ _ => rfl)) (da_cons (de_ty T.n_tuple bt_tuple) da_nil)))))))).dt (dss_one (ds_ret de_bl)) dss_nil)
    (dss_cons (ds_asg (de_frz (dv 0)) (dg_tup (n := 4) rfl (dgs_cons (dg_name (i := 1) sc_law_is_drawing.nd rfl (by first | exact Or.inl rfl | exact Or.inr rfl)) (dgs_cons (dg_name (i := 2) sc_law_is_drawing.nd rfl (by first | exact Or.inl rfl | exact Or.inr rfl)) (dgs_cons (dg_name (i := 3) sc_law_is_drawing.nd rfl (by first | exact Or.inl rfl | exact Or.inr rfl)) (dgs_cons (dg_name (i := 4) sc_law_is_drawing.nd rfl (by first | exact Or.inl rfl | exact Or.inr rfl)) dgs_nil))))))
    (dss_cons (ds_if (dw_or (dt_not (dt_val (de_call (ok_law_is_word T) hr (by decide) (by rfl) tk (fun _ _ => .nil) (da_cons (de_stl (dv 1)) da_nil)))) (dw_or (dt_not (dt_val (de_call (ok_law_between T) hr (by decide) (by rfl) tk (fun _ _ => .nil) (da_cons (de_stl (dv 2)) (da_cons de_int (da_cons de_int da_nil)))))) (dw_or1 (dt_not (dt_val (de_call (ok_law_between T) hr (by decide) (by rfl) tk (fun _ _ => .nil) (da_cons (de_stl (dv 3)) (da_cons de_int (da_cons de_int da_nil))))))))).dt (dss_one (ds_ret de_bl)) dss_nil)
    (dss_cons (ds_forF [0, 1, 6, 7] pw rfl (di_seqD (dv 4)) (dg_name (i := 5) sc_law_is_drawing.nd rfl (by first | exact Or.inl rfl | exact Or.inr rfl)) (dss_cons (ds_if (dw_or (dt_not (dt_val (de_callB call_isiY cs_isi (by rfl) T.n_isinstance bb_isinstance (da_cons (dv 5) (da_cons (de_ty T.n_tuple bt_tuple) da_nil))))) (dw_or (dt_cmp (opA_ne hr.units) os_ne (de_callB call_lenA cs_lenD (by rfl) T.n_len bb_len (da_cons (dv 5) da_nil)) de_int (nomark _)) (dw_or1 (dt_not (dt_val (de_call (ok_law_is_word T) hr (by decide) (by rfl) tk (fun _ _ => .nil) (da_cons (de_stl (de_ix ix_seq os_ix (dv 5) de_int (fun _ _ => rfl))) da_nil))))))).dt (dss_one (ds_ret de_bl)) dss_nil)
    (dss_cons (ds_if (dw_or (dt_not (dt_val (de_call (ok_law_between T) hr (by decide) (by rfl) tk (fun _ _ => .nil) (da_cons (de_stl (de_ix ix_seq os_ix (dv 5) de_int (fun _ _ => rfl))) (da_cons de_int (da_cons (de_stl (de_op op_sub os_sub (dv 2) de_int)) da_nil)))))) (dw_or1 (dt_not (dt_val (de_call (ok_law_between T) hr (by decide) (by rfl) tk (fun _ _ => .nil) (da_cons (de_stl (de_ix ix_seq os_ix (dv 5) de_int (fun _ _ => rfl))) (da_cons de_int (da_cons (de_stl (de_op op_sub os_sub (dv 3) de_int)) da_nil)))))))).dt (dss_one (ds_ret de_bl)) dss_nil)
    (dss_one (ds_if (dw_and (dt_cmp (opA_ne hr.units) os_ne (de_ix ix_seq os_ix (dv 5) de_int (fun _ _ => rfl)) de_str (nomark _)) (dw_and1 (dt_cmp (opA_ne hr.units) os_ne (de_ix ix_seq os_ix (dv 5) de_int (fun _ _ => rfl)) de_str (nomark _)))).dt (dss_one (ds_ret de_bl)) dss_nil)))))
    (dss_cons (ds_setLc (i := 6) (k := dFrz) (own := [("_law_one", 5)]) rfl sc_law_is_drawing.nd rfl rfl (sw_true rfl rfl rfl (by decide +kernel)) (.inl rfl) (di_seqD (dv 4)) (blkOk_by (N := ["_law_thing", "_law_name", "_law_wide", "_law_high", "_law_those", "_law_one", "_law_names_here", "_law_spots"]) (sc := (defScope s_law_is_drawing)) (by decide +kernel)) (by decide) (fun _ _ _ _ _ => (dg_name (i := 5) sc_law_is_drawing.nd rfl (by first | exact Or.inl rfl | exact Or.inr rfl))) (fun _ _ _ _ _ => dts_nil) (fun _ _ _ _ _ => (de_ix ix_seq os_ix (dv 5) de_int (fun _ _ => rfl))))
    (dss_cons (ds_set (i := 7) sc_law_is_drawing.nd rfl (by first | exact Or.inl rfl | exact Or.inr rfl) (de_stl (de_callB (call_sortA rfl hr.units) cs_sortA (by rfl) T.n_sorted bb_sorted (da_cons (de_lc (own := [("_law_one", 5)]) rfl sc_law_is_drawing.nd (di_seqD (dv 4)) (blkOk_by (N := ["_law_thing", "_law_name", "_law_wide", "_law_high", "_law_those", "_law_one", "_law_names_here", "_law_spots"]) (sc := (defScope s_law_is_drawing)) (by decide +kernel)) (by decide) (fun _ _ _ _ _ => (dg_name (i := 5) sc_law_is_drawing.nd rfl (by first | exact Or.inl rfl | exact Or.inr rfl))) (fun _ _ _ _ _ => dts_nil) (fun _ _ _ _ _ => (de_tup (da_cons (de_frz (de_ix ix_seq os_ix (dv 5) de_int (fun _ _ => rfl))) (da_cons (de_frz (de_ix ix_seq os_ix (dv 5) de_int (fun _ _ => rfl))) da_nil))))) da_nil))))
    (dss_cons (ds_if (dw_or (dt_cmp (opA_ne hr.units) os_ne (dv 6) (de_sortSetX rfl hr.units (by rfl) T.n_sorted bb_sorted (by rfl) T.n_set bt_set (dv 6)) (nomark _)) (dw_or1 (dt_cmp (opA_ne hr.units) os_ne (dv 7) (de_sortSet rfl hr.units (by rfl) T.n_sorted bb_sorted (by rfl) T.n_set bt_set (dv 7)) (nomark _)))).dt (dss_one (ds_ret de_bl)) dss_nil)
    (dss_one (ds_ret (de_and (de_cmp op_gt os_gt (de_callB call_lenA cs_lenD (by rfl) T.n_len bb_len (da_cons (dv 4) da_nil)) de_int (nomark _)) (de_one (de_cmp op_lt os_lt (de_callB call_lenA cs_lenD (by rfl) T.n_len bb_len (da_cons (dv 4) da_nil)) de_int (nomark _)))))))))))))) ?_
  rintro es μ q x - ⟨d, rfl, F, k⟩
  cases d with
  | tuple xs =>
    obtain ⟨hl, hf⟩ := F.tup
    ((try walk_at "dx15"); repeat (walk_at "one" <;> (try walk_at "dx15")))
    by_cases h4 : xs.length = 4
    · rw [if_neg (by simp [h4])]
      obtain ⟨a, b, c, e, rfl⟩ : ∃ a b c e, xs = [a, b, c, e] := by
        match xs, h4 with
        | [a, b, c, e], _ => exact ⟨a, b, c, e, rfl⟩
      have fa := hf a (by simp)
      have fe := hf e (by simp)
      ((try walk_at "dx15"); repeat (walk_at "one" <;> (try walk_at "dx15")))
      cases e with
      | tuple ls =>
        obtain ⟨ll, lf⟩ := fe.tup
        rw [if_neg (by simp [isTupD])]
        ((try walk_at "dx15"); repeat (walk_at "one" <;> (try walk_at "dx15")))
        refine ⟨fa.txt, ?_⟩
        cases hn : isName a with
        | false =>
          rw [if_pos (by simp)]
          ((try walk_at "dx15"); repeat (walk_at "one" <;> (try walk_at "dx15")))
          exact k false (.no fun ⟨nm, w, h, ks, e1, e2, _⟩ => by cases e1; rw [hn] at e2; cases e2)
        | true =>
          rw [if_neg (by simp)]
          ((try walk_at "dx15"); repeat (walk_at "one" <;> (try walk_at "dx15")))
          cases hb : isNum b 1 5 with
          | false =>
            rw [if_pos (by simp)]
            ((try walk_at "dx15"); repeat (walk_at "one" <;> (try walk_at "dx15")))
            exact k false (.no fun ⟨nm, w, h, ks, e1, _, e2, _⟩ => by cases e1; simp [isNum] at hb; omega)
          | true =>
            obtain ⟨w, rfl, w1, w2⟩ := isNum_ex hb
            rw [if_neg (by simp)]
            ((try walk_at "dx15"); repeat (walk_at "one" <;> (try walk_at "dx15")))
            cases hc : isNum c 1 5 with
            | false =>
              rw [if_pos (by simp)]
              ((try walk_at "dx15"); repeat (walk_at "one" <;> (try walk_at "dx15")))
              exact k false (.no fun ⟨nm, w, h, ks, e1, _, _, e2, _⟩ => by cases e1; simp [isNum] at hc; omega)
            | true =>
              obtain ⟨h, rfl, h1, h2⟩ := isNum_ex hc
              rw [if_neg (by simp)]
              ((try walk_at "dx15"); repeat (walk_at "one" <;> (try walk_at "dx15")))
              have bad : ∀ d ∈ ls, isLeg d w h = false → q (.dat (.bool false)) μ := fun d hd e2 => k false (.no fun ⟨nm, w', h', ks, e1, _, _, _, _, e3, _⟩ => by
                cases e1
                obtain ⟨l, hl, rfl⟩ := List.mem_map.mp hd
                rw [e3 l hl] at e2
                cases e2)
              refine for_st (as := ls) (h := EV.dat) (fun i (st : Option PyData) => ∀ d ∈ ls.take i, isLeg d w h = true) (fun η st => η.set 5 (st.map EV.dat)) (fun μ _ => μ) none rfl rfl (by simp) (fun _ => trivial) ?_ ?_
              · rintro i d st J hi hst hJ
                have hJ : isLeg d w h = true → J _ μ := fun hd => hJ (some d) fun d2 h2 => by
                  rw [List.take_add_one, hi] at h2
                  rcases List.mem_append.mp h2 with h2 | h2
                  · exact hst d2 h2
                  · have : d2 = d := by simpa using h2
                    rw [this]
                    exact hd
                have hm := List.mem_of_getElem? hi
                have fd := lf d hm
                have bd := bad d hm
                cases d with
                | tuple xs =>
                  obtain ⟨gl, gf⟩ := fd.tup
                  ((try walk_at "dx15"); repeat (walk_at "one" <;> (try walk_at "dx15")))
                  by_cases g4 : xs.length = 4
                  · rw [if_neg (by simp [g4])]
                    obtain ⟨a1, b1, c1, e1, rfl⟩ : ∃ a b c e, xs = [a, b, c, e] := by
                      match xs, g4 with
                      | [a, b, c, e], _ => exact ⟨a, b, c, e, rfl⟩
                    have fa1 := gf a1 (by simp)
                    have fe1 := gf e1 (by simp)
                    simp only [isLeg] at bd hJ
                    refine ⟨a1, rfl, fa1.txt, ?_⟩
                    cases g1 : isName a1 with
                    | false =>
                      rw [if_pos (by simp)]
                      ((try walk_at "dx15"); repeat (walk_at "one" <;> (try walk_at "dx15")))
                      exact bd (by rw [g1]; rfl)
                    | true =>
                      rw [if_neg (by simp)]
                      ((try walk_at "dx15"); repeat (walk_at "one" <;> (try walk_at "dx15")))
                      cases g2 : isNum b1 0 (w - 1) with
                      | false =>
                        rw [if_pos (by simp)]
                        ((try walk_at "dx15"); repeat (walk_at "one" <;> (try walk_at "dx15")))
                        exact bd (by rw [g2]; simp)
                      | true =>
                        rw [if_neg (by simp)]
                        ((try walk_at "dx15"); repeat (walk_at "one" <;> (try walk_at "dx15")))
                        cases g3 : isNum c1 0 (h - 1) with
                        | false =>
                          rw [if_pos (by simp)]
                          ((try walk_at "dx15"); repeat (walk_at "one" <;> (try walk_at "dx15")))
                          exact bd (by rw [g3]; simp)
                        | true =>
                          rw [if_neg (by simp)]
                          have nd := fe1.nod
                          have dp := fe1.dep
                          ((try walk_at "dx15"); repeat (walk_at "one" <;> (try walk_at "dx15")))
                          refine ⟨nd, ?_⟩
                          have kb := kindB_iff e1
                          cases v1 : PyData.eqv e1 (.str "flat") with
                          | true =>
                            rw [if_neg (by simp)]
                            (have j := hJ (by rw [g1, g2, g3, kb, v1]; rfl); simp only [List.range_succ, List.map_append, List.map_cons, List.map_nil, fg_cons, fg_nil, List.set_cons_succ, List.set_cons_zero] at j; exact j)
                          | false =>
                            rw [if_pos (by simp)]
                            refine ⟨nd, ?_⟩
                            cases v2 : PyData.eqv e1 (.str "through") with
                            | true =>
                              rw [if_neg (by simp)]
                              (have j := hJ (by rw [g1, g2, g3, kb, v1, v2]; rfl); simp only [List.range_succ, List.map_append, List.map_cons, List.map_nil, fg_cons, fg_nil, List.set_cons_succ, List.set_cons_zero] at j; exact j)
                            | false =>
                              rw [if_pos (by simp)]
                              ((try walk_at "dx15"); repeat (walk_at "one" <;> (try walk_at "dx15")))
                              exact bd (by rw [g1, g2, g3, kb, v1, v2]; rfl)
                  · rw [if_pos (by simp; omega)]
                    ((try walk_at "dx15"); repeat (walk_at "one" <;> (try walk_at "dx15")))
                    refine bd ?_
                    unfold isLeg
                    split
                    · rename_i e
                      cases e
                      simp at g4
                    · rfl
                | none => ((try walk_at "dx15"); repeat (walk_at "one" <;> (try walk_at "dx15"))); exact bd rfl
                | bool b => ((try walk_at "dx15"); repeat (walk_at "one" <;> (try walk_at "dx15"))); exact bd rfl
                | int i => ((try walk_at "dx15"); repeat (walk_at "one" <;> (try walk_at "dx15"))); exact bd rfl
                | list xs => ((try walk_at "dx15"); repeat (walk_at "one" <;> (try walk_at "dx15"))); exact bd rfl
                | str z => ((try walk_at "dx15"); repeat (walk_at "one" <;> (try walk_at "dx15"))); exact bd rfl
                | dict kv => ((try walk_at "dx15"); repeat (walk_at "one" <;> (try walk_at "dx15"))); exact bd rfl
              · intro st hall
                rw [List.take_length] at hall
                obtain ⟨ks, rfl⟩ := legs_ex (List.all_eq_true.mpr hall)
                rw [List.length_map] at ll
                rcases st with _ | st
                all_goals
                ((try walk_at "dx15"); repeat (walk_at "one" <;> (try walk_at "dx15")))
                refine lc_mapD (f := ?f) (by omega) trivial (fun a K ha hK => ?e) ?_
                case e => (try walk_at "dx15"); exact hK
                ((try walk_at "dx15"); repeat (walk_at "one" <;> (try walk_at "dx15")))
                refine lc_mapD (f := ?f2) (by omega) trivial (fun a K ha hK => ?e2) ?_
                case e2 => (try walk_at "dx15"); exact hK
                (try walk_at "dx15")
                rw [show (ks.map fun a => PyData.tuple [.int a.2.1, .int a.2.2.1]) = (ks.map fun l => (l.2.1, l.2.2.1)).map pt2 from by rw [List.map_map]; rfl, show (ks.map fun a => PyData.str a.1) = (ks.map (·.1)).map .str from by rw [List.map_map]; rfl]
                refine ⟨⟨noDs_map enc_pt2.nod _, enc_pt2.deps (by decide) _⟩, ord_pt2.alikeD (.inl fun l => ⟨_, _, rfl⟩) _, ?_⟩
                rw [ord_pt2.sort]
                have nml : (ks.map (·.1)).length < 64 := by rw [List.length_map]; omega
                have ptl : (ks.map fun l => (l.2.1, l.2.2.1)).length < 64 := by rw [List.length_map]; omega
                have good : ∀ b, b = (decide (1 ≤ ks.length ∧ ks.length ≤ 6) && legsOk ks) → q (.dat (.bool b)) μ := by
                  intro b hb
                  cases b with
                  | true =>
                    have hb := hb.symm
                    rw [Bool.and_eq_true, decide_eq_true_eq] at hb
                    exact k true (.yes rfl hn ⟨w1, w2⟩ ⟨h1, h2⟩ hb.1 (fun l hl => hall _ (List.mem_map_of_mem hl)) hb.2)
                  | false =>
                    have hb := hb.symm
                    refine k false (.no fun ⟨nm, w', h', ks', e1, _, _, _, e3, _, e2⟩ => ?_)
                    obtain ⟨rfl, rfl, rfl, rfl⟩ := tup_inj e1
                    rw [e2, decide_eq_true e3] at hb
                    cases hb
                rw [legsOk_eq] at good
                have ptb : ∀ p ∈ ks.map (fun l => (l.2.1, l.2.2.1)), (0 ≤ p.1 ∧ p.1 < 64) ∧ (0 ≤ p.2 ∧ p.2 < 64) := by
                  intro p hp
                  obtain ⟨l, hl, rfl⟩ := List.mem_map.mp hp
                  have h3 := hall _ (List.mem_map_of_mem hl)
                  simp only [isLeg, lgD, isNum, Bool.and_eq_true, decide_eq_true_eq] at h3
                  dsimp only
                  omega
                generalize ks.map (fun l => (l.2.1, l.2.2.1)) = ps at *
                generalize ks.map (fun l => l.1) = ns at *
                have fin : ∀ (b : Bool), b = (decide (ns = ns.mergeSort (leO strLt) ∧ ns.Nodup) && decide ps.Nodup) → b = false → q (.dat (.bool false)) μ := fun b hb e => good false (by rw [← hb, e, Bool.and_false])
                ((try walk_at "dx15"); repeat (walk_at "one" <;> (try walk_at "dx15")))
                refine sortSetX_d nml fun bs nb mb => ?_
                rw [ord_str.sort]
                ((try walk_at "dx15"); repeat (walk_at "one" <;> (try walk_at "dx15")))
                have s1 := set_same ord_str nb mb
                generalize bs.mergeSort (leO fun a b : Str => decide (a.cps.toList < b.cps.toList)) = ns' at *
                have dp1 := depA_map PyData.str (n := 0) enc_str.dep ns
                refine ⟨by omega, ?_⟩
                by_cases z1 : ns = ns'
                · rw [if_neg (by rw [(enc_str.all _ _).mpr z1]; decide)]
                  refine sortSet_pt2 rfl (by rw [List.length_mergeSort]; exact ptl) (fun c hc => ptb c (List.mem_mergeSort.mp hc)) fun L hL1 hL2 => ?_
                  ((try walk_at "dx15"); repeat (walk_at "one" <;> (try walk_at "dx15")))
                  have s2 := set_same2 ord_pt2 hL1 hL2
                  have dp2 := depA_map pt2 (n := 1) enc_pt2.dep (ps.mergeSort (leO (lx2 (fun a b : Int => decide (a < b)) fun a b : Int => decide (a < b))))
                  refine ⟨⟨noDs_map enc_pt2.nod _, noDs_map enc_pt2.nod _⟩, by omega, ?_⟩
                  by_cases z2 : ps.mergeSort (leO ltP2) = L
                  · rw [if_neg (by rw [(enc_pt2.all _ _).mpr z2]; decide)]
                    rw [decide_eq_true (s1.mp z1), decide_eq_true (s2.mp z2)] at good
                    ((try walk_at "dx15"); repeat (walk_at "one" <;> (try walk_at "dx15")))
                    split
                    · rename_i g1
                      refine good _ ?_
                      rw [Bool.eq_iff_iff]
                      simp only [Bool.and_true, decide_eq_true_eq]
                      omega
                    · rename_i g1
                      refine good _ ?_
                      rw [eq_comm, Bool.and_true, Bool.and_true, decide_eq_false_iff_not]
                      omega
                  · rw [if_pos (by rw [show PyData.eqvAll _ _ = false from Bool.eq_false_iff.mpr fun z => z2 ((enc_pt2.all _ _).mp z)]; decide)]
                    ((try walk_at "dx15"); repeat (walk_at "one" <;> (try walk_at "dx15")))
                    exact fin _ rfl (by rw [decide_eq_false fun z => z2 (s2.mpr z), Bool.and_false])
                · rw [if_pos (by rw [show PyData.eqvAll _ _ = false from Bool.eq_false_iff.mpr fun z => z1 ((enc_str.all _ _).mp z)]; decide)]
                  ((try walk_at "dx15"); repeat (walk_at "one" <;> (try walk_at "dx15")))
                  exact fin _ rfl (by rw [decide_eq_false fun z => z1 (s1.mpr z), Bool.false_and])
      | none => ((try walk_at "dx15"); repeat (walk_at "one" <;> (try walk_at "dx15"))); exact k false (.no fun ⟨_, _, _, _, e, _⟩ => by cases e)
      | bool b => ((try walk_at "dx15"); repeat (walk_at "one" <;> (try walk_at "dx15"))); exact k false (.no fun ⟨_, _, _, _, e, _⟩ => by cases e)
      | int i => ((try walk_at "dx15"); repeat (walk_at "one" <;> (try walk_at "dx15"))); exact k false (.no fun ⟨_, _, _, _, e, _⟩ => by cases e)
      | list xs => ((try walk_at "dx15"); repeat (walk_at "one" <;> (try walk_at "dx15"))); exact k false (.no fun ⟨_, _, _, _, e, _⟩ => by cases e)
      | str z => ((try walk_at "dx15"); repeat (walk_at "one" <;> (try walk_at "dx15"))); exact k false (.no fun ⟨_, _, _, _, e, _⟩ => by cases e)
      | dict kv => ((try walk_at "dx15"); repeat (walk_at "one" <;> (try walk_at "dx15"))); exact k false (.no fun ⟨_, _, _, _, e, _⟩ => by cases e)
    · rw [if_pos (by simp; omega)]
      ((try walk_at "dx15"); repeat (walk_at "one" <;> (try walk_at "dx15")))
      exact k false (.no fun ⟨nm, w, h, ks, e1, _⟩ => by cases e1; simp at h4)
  | none => ((try walk_at "dx15"); repeat (walk_at "one" <;> (try walk_at "dx15"))); exact k false (.no fun ⟨_, _, _, _, e, _⟩ => by cases e)
  | bool b => ((try walk_at "dx15"); repeat (walk_at "one" <;> (try walk_at "dx15"))); exact k false (.no fun ⟨_, _, _, _, e, _⟩ => by cases e)
  | int i => ((try walk_at "dx15"); repeat (walk_at "one" <;> (try walk_at "dx15"))); exact k false (.no fun ⟨_, _, _, _, e, _⟩ => by cases e)
  | list xs => ((try walk_at "dx15"); repeat (walk_at "one" <;> (try walk_at "dx15"))); exact k false (.no fun ⟨_, _, _, _, e, _⟩ => by cases e)
  | str z => ((try walk_at "dx15"); repeat (walk_at "one" <;> (try walk_at "dx15"))); exact k false (.no fun ⟨_, _, _, _, e, _⟩ => by cases e)
  | dict kv => ((try walk_at "dx15"); repeat (walk_at "one" <;> (try walk_at "dx15"))); exact k false (.no fun ⟨_, _, _, _, e, _⟩ => by cases e)
local macro_rules | `(tactic| walk_at "dx16") => `(tactic| simp (disch := first | assumption | omega) only [List.length_cons, List.length_nil, Nat.zero_add, Nat.reduceAdd, oSub, List.map_cons, List.map_nil, oGt, oLt, ↓exitQ_dat, startD, Nat.reduceSub, List.replicate.eq_2, List.replicate, List.cons_append, List.nil_append, ↓x_tOrD, ↓x_tNotD, ↓x_tVal, ↓x_dCB, ↓x_aCons, ↓dVar_0, ↓old_dat, ↓x_dRaw, ↓x_aNil, ↓isi_tuple, ↓wB_b, ↓isTupD_tuple, Bool.not_true, Bool.false_eq_true, if_true, ↓x_dOp, ↓lnD_tup, ↓x_dC, ↓ne_dd, ↓noD_i, and_true, dep_int, nle_h, eqv_int, ↓ix_tupD, at_nn, Int.reduceToNat, true_and, if_false, List.getElem?_cons_succ, List.getElem?_cons_zero, Option.some.injEq, exists_eq_left', ↓x_dFrz, ↓wD_dat, ↓x_gTp, ↓x_gCn, ↓x_gNm, ↓nN_dat, ↓x_gNl0, List.set_cons_succ, List.set_cons_zero, ↓x_dCall, ↓x_dStl, ↓dVar_1, ↓stl_dat, ↓aO_cons, ↓aO_nil, Bool.and_true, List.append_nil, ↓dVar_2, ↓dVar_3, ↓e_law_between, ↓e_law_is_word, ↓tk_0, ↓x_iSeqD, ↓dVar_4, ↓seqDK_t, ↓fg_cons, ↓fg_nil, ↓dVar_5, ↓oI0_ii, ↓x_tAndD, ↓noD_s, dep_str, cl_none, ↓cl_dat, ↓cl_nil, ↓isTupD_none, Bool.not_false, ↓isTupD_bool, ↓isTupD_int, ↓isTupD_list, ↓lnD_lst, ↓ix_lstD, ↓isTupD_str, ↓lnD_str, ↓ix_s, ↓isTupD_dict, ↓lnD_d, Option.map_none, ↓x_lc, wipeD, dVar_5, ↓wD_new, ↓x_dTup, ↓wDs_cons, ↓wDs_nil, ↓srt_n, ↓stl_new, ↓dVar_6, ↓x_dSortSetX, ↓dVar_7, ↓x_dSortSet, ↓ne_dn, ↓noD_l, ↓noDs_s, dep_lst, eqv_lst, ↓x_dAndV, List.length_map, decide_eq_true_eq, Option.map_some])
local macro_rules | `(tactic| walk_at "dx17") => `(tactic| simp (disch := first | assumption | omega) only [List.length_cons, List.length_nil, Nat.zero_add, Nat.reduceAdd, oMod, ↓exitQ_dat, startD, List.map_cons, List.map_nil, Nat.reduceSub, List.replicate.eq_2, List.replicate, List.cons_append, List.nil_append, ↓x_dC, ↓nN_dat, List.set_cons_succ, List.set_cons_zero, true_and, ↓x_dStl, ↓x_dCall, ↓x_aCons, ↓x_dCell, ↓dVar_0, ↓old_loc, ↓cel_loc, ↓x_aNil, ↓aO_cons, ↓nN_loc, ↓aO_nil, Bool.and_true, List.append_nil, nextA_eq, isR_h, ilt_h, ↓stl_dat, ↓x_dLst, ↓wDs_nil, nle_h, ↓cel_new, ↓x_iRange1, ↓dVar_1, ↓old_dat, ↓rng1_i, ile_h, and_true, ↓x_gNm, List.length_append, ↓fg_cons, ↓fg_nil, ↓x_dOp, ↓dVar_2, ↓dVar_3, ↓dVar_5, ↓add_int, ↓oI_ii, ↓ix_s, at_nn, ↓x_dFrz, ↓wDs_cons, ↓ix_new, isR_app, ↓wD_dat, ↓dVar_6, cl_loc, ↓cl_none, ↓cl_dat, ↓add_strD, ↓cl_nil, ↓tk_a1, ↓x_tVal, ↓dVar_4, ↓c_memA, ↓get_a0, memC_l, ↓c_mem, ↓noD_s, ↓noD_l, dep_str, ↓wB_b, Bool.false_eq_true, if_false, lcR_l, ↓noDs_s, ↓x_dBM, ↓c_isL, ↓c_app, ↓set_a0, tk_a1, lcK_l, List.length_map, nlt_h, ↓eq_dd, ↓noD_i, dep_int, eqv_int, decide_eq_true_eq, ↓stl_new, ↓dVar_8, ↓ix_lstD, exitQ_ge, exC_l, ↓tk_a0])
theorem letter (i : Int) (h0 : 0 ≤ i) (h1 : i < 26) : ∃ c, (("abcdefghijklmnopqrstuvwxyz" : Str)).cps.toList[i.toNat]? = some c := by
  obtain ⟨c, h, _⟩ := pick (xs := ("abcdefghijklmnopqrstuvwxyz" : Str).cps.toList) h0 (by show i < ((26 : Nat) : Int); exact h1)
  exact ⟨c, h⟩
theorem len_alpha : (("abcdefghijklmnopqrstuvwxyz" : Str).length ≤ 100000) = True := eq_true (by decide)
theorem emod26 (a : Int) : 0 ≤ a % 26 ∧ a % 26 < 26 := ⟨Int.emod_nonneg _ (by decide), Int.emod_lt_of_pos _ (by decide)⟩
theorem len_cons (c : Nat) (z : Str) : (({ cps := #[c] } : Str) ++ z).length = 1 + z.length := Array.size_append
theorem len_one (c : Nat) : ({ cps := #[c] } : Str).length = 1 := rfl
theorem mem6 {ss : List Str} {z : Str} (h : ∀ z ∈ ss, z.length ≤ 6) (hz : z.length ≤ 6) : ∀ y ∈ ss ++ [z], y.length ≤ 6 := fun y hy => by
  rcases List.mem_append.mp hy with hy | hy
  · exact h y hy
  · have : y = z := by simpa using hy
    rw [this]
    exact hz
local macro_rules | `(tactic| walk_at "dx18") => `(tactic| simp (disch := first | assumption | omega) only [List.length_cons, List.length_nil, Nat.zero_add, Nat.reduceAdd, oMod, ↓exitQ_dat, startD, List.map_cons, List.map_nil, Nat.reduceSub, List.replicate.eq_2, List.replicate, List.cons_append, List.nil_append, ↓x_dC, ↓nN_dat, List.set_cons_succ, List.set_cons_zero, true_and, ↓x_dStl, ↓x_dCall, ↓x_aCons, ↓x_dCell, ↓dVar_0, ↓old_loc, ↓cel_loc, ↓x_aNil, ↓aO_cons, ↓nN_loc, ↓aO_nil, Bool.and_true, List.append_nil, nextA_eq, isR_h, ilt_h, ↓stl_dat, ↓x_dLst, ↓wDs_nil, nle_h, ↓cel_new, ↓x_iRange1, ↓dVar_1, ↓old_dat, ↓rng1_i, ile_h, and_true, ↓x_gNm, List.length_append, ↓fg_cons, ↓fg_nil, ↓x_dOp, ↓dVar_2, ↓dVar_3, ↓dVar_5, ↓add_int, ↓oI_ii, ↓ix_s, ↓len_alpha, at_nn, ↓x_dFrz, ↓wDs_cons, ↓ix_new, isR_app, ↓wD_dat, ↓dVar_6, cl_loc, ↓cl_none, ↓cl_dat, ↓add_strD, ↓cl_nil, ↓tk_a1, ↓x_tVal, ↓dVar_4, ↓c_memA, ↓get_a0, memC_l, ↓c_mem, ↓noD_s, ↓noD_l, dep_str, ↓wB_b, Bool.false_eq_true, if_false, lcR_l, ↓noDs_s, ↓x_dBM, ↓c_isL, ↓c_app, ↓set_a0, tk_a1, lcK_l, List.length_map, nlt_h, ↓eq_dd, ↓noD_i, dep_int, eqv_int, decide_eq_true_eq, ↓stl_new, ↓dVar_8, ↓ix_lstD, exitQ_ge, exC_l, ↓tk_a0])
def sp_law_names : SpD := fun es μ q x => ∃ (n : Nat) (k : Int), es = [.loc n, .dat (.int k)] ∧ (isR μ n ∧ 0 ≤ k ∧ k ≤ 6 ∧ ∀ ss : List Str, ss.length = k.toNat → (∀ z ∈ ss, z.length ≤ 6) → q (.new (ss.map .str)) μ)
theorem e_law_names {n : Nat} {k : Int} {μ : Mu} {q : PQ} {x : XQ} : sp_law_names [.loc n, .dat (.int k)] μ q x = (isR μ n ∧ 0 ≤ k ∧ k ≤ 6 ∧ ∀ ss : List Str, ss.length = k.toNat → (∀ z ∈ ss, z.length ≤ 6) → q (.new (ss.map .str)) μ) := by
  refine propext ⟨fun hyp0 => ?_, fun hyp0 => ⟨n, k, rfl, hyp0⟩⟩
  obtain ⟨n', k', eq0, hyp0⟩ := hyp0
  simp only [List.cons.injEq, Exn.mk.injEq, EV.at.injEq, eq_self, EV.dat.injEq, EV.loc.injEq, EV.new.injEq, EV.ro.injEq, EV.exc.injEq, EV.per.injEq, PyData.int.injEq, PyData.str.injEq, PyData.bool.injEq, PyData.list.injEq, PyData.tuple.injEq, and_true, true_and, and_assoc, map_int_inj, ] at eq0
  obtain ⟨rfl, rfl⟩ := eq0
  exact hyp0
theorem ok_law_names (T : Top K mg) : DefAt P w K mg base "_law_names" 2 ["_law_state_here", "_law_amount"] [] [] sp_law_names := by
  refine def_ok sp_law_names T.F_law_names sc_law_names T.m_law_names T.b_law_names (fun cdv A outer s H E hr tk pw => (dss_cons (ds_set (i := 2) sc_law_names.nd rfl (by first | exact Or.inl rfl | exact Or.inr rfl) de_str)
    (dss_cons (ds_set (i := 3) sc_law_names.nd rfl (by first | exact Or.inl rfl | exact Or.inr rfl) (de_stl (de_call (ok_law_next T) hr (by decide) (by rfl) tk (fun _ _ => .nil) (da_cons (de_cell (dv 0)) (da_cons de_int da_nil)))))
    (dss_cons (ds_set (i := 4) sc_law_names.nd rfl (by first | exact Or.inl rfl | exact Or.inr rfl) (de_cell (de_lst da_nil)))
    (dss_cons (ds_forF [1, 5, 6, 7, 8] pw rfl (di_range1 (by rfl) T.n_range (da_cons (dv 1) da_nil)) (dg_name (i := 5) sc_law_names.nd rfl (by first | exact Or.inl rfl | exact Or.inr rfl)) (dss_cons (ds_set (i := 6) sc_law_names.nd rfl (by first | exact Or.inl rfl | exact Or.inr rfl) (de_stl (de_ix ix_seq os_ix (dv 2) (de_op op_mod os_mod (de_op opA_add os_add (dv 3) (dv 5)) de_int) (fun _ _ => rfl))))
    (dss_cons (ds_forF [1, 7, 8] pw rfl (di_range1 (by rfl) T.n_range (da_cons (de_ix ix_seq os_ix (de_lst (da_cons de_int (da_cons de_int (da_cons de_int (da_cons de_int (da_cons (de_frz (de_stl (de_call (ok_law_next T) hr (by decide) (by rfl) tk (fun _ _ => .nil) (da_cons (de_cell (dv 0)) (da_cons de_int da_nil))))) da_nil)))))) (de_call (ok_law_next T) hr (by decide) (by rfl) tk (fun _ _ => .nil) (da_cons (de_cell (dv 0)) (da_cons de_int da_nil))) (fun _ _ => rfl)) da_nil)) (dg_name (i := 7) sc_law_names.nd rfl (by first | exact Or.inl rfl | exact Or.inr rfl)) (dss_one (ds_set (i := 6) sc_law_names.nd rfl (by first | exact Or.inl rfl | exact Or.inr rfl) (de_stl (de_op opA_add os_add (de_ix ix_seq os_ix (dv 2) (de_call (ok_law_next T) hr (by decide) (by rfl) tk (fun _ _ => .nil) (da_cons (de_cell (dv 0)) (da_cons de_int da_nil))) (fun _ _ => rfl)) (dv 6))))))
    (dss_cons (ds_wipe [8] (ds_if (dt_cmp (opA_eq hr.units) os_eq (de_call (ok_law_next T) hr (by decide) (by rfl) tk (fun _ _ => .nil) (da_cons (de_cell (dv 0)) (da_cons de_int da_nil))) de_int (nomark _)) (dss_cons (ds_set (i := 8) sc_law_names.nd rfl (by first | exact Or.inl rfl | exact Or.inr rfl) (de_stl (de_lst (da_cons de_str (da_cons de_str (da_cons de_str (da_cons de_str (da_cons de_str (da_cons de_str (da_cons de_str (da_cons de_str (da_cons de_str (da_cons de_str (da_cons de_str da_nil))))))))))))))
    (dss_one (ds_set (i := 6) sc_law_names.nd rfl (by first | exact Or.inl rfl | exact Or.inr rfl) (de_stl (de_ix ix_seq os_ix (dv 8) (de_call (ok_law_next T) hr (by decide) (by rfl) tk (fun _ _ => .nil) (da_cons (de_cell (dv 0)) (da_cons de_int da_nil))) (fun _ _ => rfl)))))) dss_nil))
    (dss_cons (ds_if (dt_cmp (opA_in hr.units) os_memA (dv 6) (dv 4) (by rfl)) (dss_one (ds_set (i := 6) sc_law_names.nd rfl (by first | exact Or.inl rfl | exact Or.inr rfl) (de_stl (de_ix ix_seq os_ix (dv 2) (de_op op_mod os_mod (de_op opA_add os_add (dv 3) (dv 5)) de_int) (fun _ _ => rfl))))) dss_nil)
    (dss_one (ds_expr (de_bm PySem.F.plainAttrs_list PySem.F.slot_list_append PySem.F.type_list_append mt_append rc_lst ms_append (dv 4) (da_cons (de_frz (dv 6)) da_nil)))))))))
    (dss_one (ds_ret (dv 4)))))))) ?_
  rintro es μ q x - ⟨n, k, rfl, hs, h0, hk, h⟩
  have hn := hs.lt
  ((try walk_at "dx18"); repeat (walk_at "one" <;> (try walk_at "dx18")))
  (try walk_at "ok")
  intro sh s0 s1
  ((try walk_at "dx18"); repeat (walk_at "one" <;> (try walk_at "dx18")))
  (try walk_at "ok")
  refine for_stR (fun i (ss : List Str) => ss.length = i ∧ ∀ z ∈ ss, z.length ≤ 6) (fun η _ => η) (fun _ ss => μ ++ [.lst (ss.map .str)]) [] rfl rfl ⟨rfl, by simp⟩ (fun _ => trivial) ?_ ?_
  · rintro i ss J hi ⟨hl, hz6⟩ hJ
    ((try walk_at "dx18"); repeat (walk_at "one" <;> (try walk_at "dx18")))
    obtain ⟨c, hc⟩ := letter ((sh + (0 + (i : Int))) % 26) (emod26 _).1 (emod26 _).2
    refine ⟨c, hc, ?_⟩
    ((try walk_at "dx18"); repeat (walk_at "one" <;> (try walk_at "dx18")))
    intro r2 p0 p1 r3 q0 q1
    (try walk_at "dx18")
    refine pick_at q0 (by simpa using q1) ?_
    intro d hd
    obtain ⟨m, rfl, m0, m5⟩ : ∃ m : Int, d = .int m ∧ 0 ≤ m ∧ m ≤ 5 := by
      simp only [List.mem_cons, List.not_mem_nil, or_false] at hd
      rcases hd with rfl | rfl | rfl | rfl | rfl
      all_goals exact ⟨_, rfl, by omega, by omega⟩
    (try walk_at "dx18")
    (try walk_at "ok")
    refine for_stR (fun i (z : Str) => z.length = 1 + i) (fun η z => η.set 6 (some (.dat (.str z)))) (fun μ _ => μ) _ rfl rfl (len_one c) (fun _ => trivial) ?_ ?_
    · rintro i2 z J2 hi2 hz hJ2
      ((try walk_at "dx18"); repeat (walk_at "one" <;> (try walk_at "dx18")))
      (try walk_at "ok")
      intro r5 h5 h5'
      (try walk_at "dx18")
      obtain ⟨c5, hc5⟩ := letter r5 h5 h5'
      refine ⟨c5, hc5, ?_⟩
      refine ⟨by rw [len_one]; omega, ?_⟩
      exact hJ2 _ (by rw [len_cons]; omega)
    · rintro z hz
      (try walk_at "dx18")
      refine q_wipeR (fun η' μ' => μ' = μ ++ [.lst (ss.map .str)] ∧ ∃ z : Str, η' = [some (.loc n), none, some (.dat (.str "abcdefghijklmnopqrstuvwxyz")), some (.dat (.int sh)), some (.loc μ.length), some (.dat (.int (0 + (i : Int)))), some (.dat (.str z)), none, none] ∧ z.length ≤ 6) ?_ (fun R => ?_)
      · rintro η' μ' ⟨rfl, z, rfl, hz'⟩
        ((try walk_at "dx18"); repeat (walk_at "one" <;> (try walk_at "dx18")))
        split
        · ((try walk_at "dx18"); repeat (walk_at "one" <;> (try walk_at "dx18")))
          refine ⟨c, hc, ?_⟩
          ((try walk_at "dx18"); repeat (walk_at "one" <;> (try walk_at "dx18")))
          (try walk_at "ok")
          (have j := hJ (ss ++ [⟨#[c]⟩]) ⟨by simp [hl], mem6 hz6 (by rw [len_one]; decide)⟩; simp only [List.range_succ, List.map_append, List.map_cons, List.map_nil, fg_cons, fg_nil, List.set_cons_succ, List.set_cons_zero] at j; exact j)
        · ((try walk_at "dx18"); repeat (walk_at "one" <;> (try walk_at "dx18")))
          (try walk_at "ok")
          (have j := hJ (ss ++ [z]) ⟨by simp [hl], mem6 hz6 hz'⟩; simp only [List.range_succ, List.map_append, List.map_cons, List.map_nil, fg_cons, fg_nil, List.set_cons_succ, List.set_cons_zero] at j; exact j)
      · ((try walk_at "dx18"); repeat (walk_at "one" <;> (try walk_at "dx18")))
        intro r5 h5 h5'
        split
        · ((try walk_at "dx18"); repeat (walk_at "one" <;> (try walk_at "dx18")))
          intro r6 h6 h6'
          (try walk_at "dx18")
          refine pick_at h6 (by simpa using h6') ?_
          intro d hd
          obtain ⟨z2, rfl, hz2⟩ : ∃ z2 : Str, d = .str z2 ∧ z2.length ≤ 6 := by
            simp only [List.mem_cons, List.not_mem_nil, or_false] at hd
            rcases hd with rfl | rfl | rfl | rfl | rfl | rfl | rfl | rfl | rfl | rfl | rfl
            all_goals exact ⟨_, rfl, by decide⟩
          (try walk_at "dx18")
          exact R _ _ ⟨rfl, z2, rfl, hz2⟩
        · exact R _ _ ⟨rfl, z, rfl, by omega⟩
  · rintro ss ⟨hl, hz6⟩
    ((try walk_at "dx18"); repeat (walk_at "one" <;> (try walk_at "dx18")))
    exact h ss (by simpa using hl) hz6
local macro_rules | `(tactic| walk_at "dx19") => `(tactic| simp (disch := first | assumption | omega) only [List.length_cons, List.length_nil, Nat.zero_add, Nat.reduceAdd, oMod, ↓exitQ_dat, startD, List.map_cons, List.map_nil, Nat.reduceSub, List.replicate.eq_2, List.replicate, List.cons_append, List.nil_append, ↓x_dC, ↓nN_dat, List.set_cons_succ, List.set_cons_zero, true_and, ↓x_dStl, ↓x_dCall, ↓x_aCons, ↓x_dCell, ↓dVar_0, ↓old_loc, ↓cel_loc, ↓x_aNil, ↓aO_cons, ↓nN_loc, ↓aO_nil, Bool.and_true, List.append_nil, nextA_eq, isR_h, ilt_h, ↓stl_dat, ↓x_dLst, ↓wDs_nil, nle_h, ↓cel_new, ↓x_iRange1, ↓dVar_1, ↓old_dat, ↓rng1_i, ile_h, and_true, ↓x_gNm, List.length_append, ↓fg_cons, ↓fg_nil, ↓x_dOp, ↓dVar_2, ↓dVar_3, ↓dVar_5, ↓add_int, ↓oI_ii, ↓ix_s, ↓len_alpha, at_nn, ↓x_dFrz, ↓wDs_cons, ↓ix_new, isR_app, ↓wD_dat, ↓dVar_6, cl_loc, ↓cl_none, ↓cl_dat, ↓add_strD, ↓cl_nil, ↓tk_a1, ↓x_tVal, ↓dVar_4, ↓c_memA, ↓get_a0, memC_l, ↓c_mem, ↓noD_s, ↓noD_l, dep_str, ↓wB_b, Bool.false_eq_true, if_false, lcR_l, ↓noDs_s, ↓x_dBM, ↓c_isL, ↓c_app, ↓set_a0, tk_a1, lcK_l, List.length_map, nlt_h, ↓eq_dd, ↓noD_i, dep_int, eqv_int, decide_eq_true_eq, ↓stl_new, ↓dVar_8, ↓ix_lstD, exitQ_ge, exC_l, ↓tk_a0])
local macro_rules | `(tactic| walk_at "dx20") => `(tactic| simp (disch := first | assumption | omega) only [List.length_cons, List.length_nil, Nat.zero_add, Nat.reduceAdd, List.map_cons, List.map_nil, ↓exitQ_dat, startD, Nat.reduceSub, List.replicate.eq_2, List.replicate, List.cons_append, List.nil_append, ↓x_aCons, ↓x_dStl, ↓x_dOp, ↓x_dC, ↓x_dCall, ↓x_dCell, ↓dVar_0, ↓old_loc, ↓cel_loc, ↓x_aNil, ↓aO_cons, ↓nN_loc, ↓nN_dat, ↓aO_nil, Bool.and_true, List.append_nil, List.set_cons_succ, List.set_cons_zero, nextA_eq, ilt_h, ↓add_int, ↓stl_dat, true_and, isR_h, ↓x_dLst, ↓wDs_nil, nle_h, ↓cel_new, ↓x_iSeqD, ↓x_dCB, Bool.true_and, isR_app, ↓e_law_names, ↓stl_new, ↓srt_l, ↓noDs_s, ↓seqDK_n, ile_h, ↓x_gNm, List.length_append, ↓fg_cons, ↓fg_nil, ↓x_dTup, ↓x_dFrz, ↓dVar_2, ↓old_dat, ↓dVar_3, ↓wDs_cons, ↓wD_dat, ↓x_tVal, ↓dVar_6, ↓x_lc, ↓dVar_4, ↓seqDK_c, cl_loc, ↓cl_dat, ↓cl_none, ↓cl_nil, ↓get_a0, seqC_l, ↓x_dSl, wipeD, ↓x_oSome, ↓intK_i, dVar_7, ↓sl_tupD, ↓tk_a1, ↓memA_n, ↓mem_n, ↓noD_t, ↓noDs_cons, ↓noD_i, ↓noDs_nil, ↓noD_l, dep_tup, depA_cons, dep_int, depA_nil, Nat.max_zero, ↓wB_b, if_true, ↓x_dBM, ↓c_isL, lcR_l, ↓dVar_5, ↓ix_tupD, at_nn, Int.reduceToNat, List.getElem?_cons_zero, Option.some.injEq, List.getElem?_cons_succ, ↓c_app, ↓ix_new, ↓set_a0, tk_a1, lcK_l, List.length_map, nlt_h, exists_eq_left', ↓dVar_1, ↓x_oTuple, ↓c_sqK, ↓tk_a0, oPow, ↓x_dUn, ↓neg_i, ↓wD_new, ↓oI_ii, cpow_h, ↓ix_lstD, ↓tk_0])
abbrev Dr := Str × Int × Int × List Lg
def drD (d : Dr) : PyData := .tuple [.str d.1, .int d.2.1, .int d.2.2.1, .tuple (d.2.2.2.map lgD)]
theorem enc_dr : Enc drD 3 := Enc.t4 enc_str enc_int enc_int enc_lg.tup
theorem drD_inj {a b : Dr} : (drD a = drD b) = (a = b) := enc_dr.eq
theorem drD_eq {d : Dr} : (EV.dat (drD d)) = .dat (.tuple [.str d.1, .int d.2.1, .int d.2.2.1, .tuple (d.2.2.2.map lgD)]) := rfl
/-- a drawing of the law: few legs, short names -/
structure Few (d : Dr) : Prop where
  nm : d.1.length ≤ 6
  one : 1 ≤ d.2.2.2.length
  six : d.2.2.2.length ≤ 6
  lg : ∀ l ∈ d.2.2.2, l.1.length ≤ 6 ∧ l.2.2.2.length ≤ 7
theorem lg_one {ls : List Lg} {y z : Str} {px py : Int} (hlg : ∀ l ∈ ls, l.1.length ≤ 6 ∧ l.2.2.2.length ≤ 7) (hy : y.length ≤ 6) (hz : z.length ≤ 7) : ∀ l ∈ ls ++ [(y, px, py, z)], l.1.length ≤ 6 ∧ l.2.2.2.length ≤ 7 := fun l hl => by
  rcases List.mem_append.mp hl with hl | hl
  · exact hlg l hl
  · have e : l = (y, px, py, z) := List.mem_singleton.mp hl
    rw [e]
    exact ⟨hy, hz⟩
def sp_law_plain_drawing : SpD := fun es μ q x => ∃ (n : Nat) (nm : Str), es = [.loc n, .dat (.str nm)] ∧ (isR μ n ∧ nm.length ≤ 6 ∧ ∀ d : Dr, Few d → q (.dat (drD d)) μ)
theorem e_law_plain_drawing {n : Nat} {nm : Str} {μ : Mu} {q : PQ} {x : XQ} : sp_law_plain_drawing [.loc n, .dat (.str nm)] μ q x = (isR μ n ∧ nm.length ≤ 6 ∧ ∀ d : Dr, Few d → q (.dat (drD d)) μ) := by
  refine propext ⟨fun hyp0 => ?_, fun hyp0 => ⟨n, nm, rfl, hyp0⟩⟩
  obtain ⟨n', nm', eq0, hyp0⟩ := hyp0
  simp only [List.cons.injEq, Exn.mk.injEq, EV.at.injEq, eq_self, EV.dat.injEq, EV.loc.injEq, EV.new.injEq, EV.ro.injEq, EV.exc.injEq, EV.per.injEq, PyData.int.injEq, PyData.str.injEq, PyData.bool.injEq, PyData.list.injEq, PyData.tuple.injEq, and_true, true_and, and_assoc, map_int_inj, ] at eq0
  obtain ⟨rfl, rfl⟩ := eq0
  exact hyp0
theorem ok_law_plain_drawing (T : Top K mg) : DefAt P w K mg base "_law_plain_drawing" 3 ["_law_state_here", "_law_name"] [] [] sp_law_plain_drawing := by
  refine def_ok sp_law_plain_drawing T.F_law_plain_drawing sc_law_plain_drawing T.m_law_plain_drawing T.b_law_plain_drawing (fun cdv A outer s H E hr tk pw => (dss_cons (ds_par (i := 2) (j := 3) rfl sc_law_plain_drawing.nd rfl rfl (by decide) rfl rfl (da_cons (de_stl (de_op opA_add os_add de_int (de_call (ok_law_next T) hr (by decide) (by rfl) tk (fun _ _ => .nil) (da_cons (de_cell (dv 0)) (da_cons de_int da_nil))))) (da_cons (de_stl (de_op opA_add os_add de_int (de_call (ok_law_next T) hr (by decide) (by rfl) tk (fun _ _ => .nil) (da_cons (de_cell (dv 0)) (da_cons de_int da_nil))))) da_nil)) (by rfl))
    (dss_cons (ds_set (i := 4) sc_law_plain_drawing.nd rfl (by first | exact Or.inl rfl | exact Or.inr rfl) (de_cell (de_lst da_nil)))
    (dss_cons (ds_forF [5, 6] pw rfl (di_seqD (de_callB (call_sortA rfl hr.units) cs_sortA (by rfl) T.n_sorted bb_sorted (da_cons (de_stl (de_call (ok_law_names T) hr (by decide) (by rfl) tk (fun _ _ => .nil) (da_cons (de_cell (dv 0)) (da_cons (de_stl (de_op opA_add os_add de_int (de_call (ok_law_next T) hr (by decide) (by rfl) tk (fun _ _ => .nil) (da_cons (de_cell (dv 0)) (da_cons de_int da_nil))))) da_nil)))) da_nil))) (dg_name (i := 5) sc_law_plain_drawing.nd rfl (by first | exact Or.inl rfl | exact Or.inr rfl)) (dss_cons (ds_set (i := 6) sc_law_plain_drawing.nd rfl (by first | exact Or.inl rfl | exact Or.inr rfl) (de_stl (de_tup (da_cons (de_frz (de_stl (de_call (ok_law_next T) hr (by decide) (by rfl) tk (fun _ _ => .nil) (da_cons (de_cell (dv 0)) (da_cons (de_stl (dv 2)) da_nil))))) (da_cons (de_frz (de_stl (de_call (ok_law_next T) hr (by decide) (by rfl) tk (fun _ _ => .nil) (da_cons (de_cell (dv 0)) (da_cons (de_stl (dv 3)) da_nil))))) da_nil)))))
    (dss_one (ds_if (dt_cmp (opA_notIn hr.units) os_memA (dv 6) (de_lc (own := [("_law_one", 7)]) rfl sc_law_plain_drawing.nd (di_seqD (dv 4)) (blkOk_by (N := ["_law_state_here", "_law_name", "_law_wide", "_law_high", "_law_those", "_law_leg", "_law_place", "_law_one"]) (sc := (defScope s_law_plain_drawing)) (by decide +kernel)) (by decide) (fun _ _ _ _ _ => (dg_name (i := 7) sc_law_plain_drawing.nd rfl (by first | exact Or.inl rfl | exact Or.inr rfl))) (fun _ _ _ _ _ => dts_nil) (fun _ _ _ _ _ => (de_slice slA os_sl (dv 7) (do_some de_int) (do_some de_int)))) (by rfl)) (dss_one (ds_expr (de_bm PySem.F.plainAttrs_list PySem.F.slot_list_append PySem.F.type_list_append mt_append rc_lst ms_append (dv 4) (da_cons (de_frz (de_tup (da_cons (de_frz (dv 5)) (da_cons (de_frz (de_ix ix_seq os_ix (dv 6) de_int (fun _ _ => rfl))) (da_cons (de_frz (de_ix ix_seq os_ix (dv 6) de_int (fun _ _ => rfl))) (da_cons (de_frz (de_ix ix_seq os_ix (de_lst (da_cons de_str (da_cons de_str da_nil))) (de_call (ok_law_next T) hr (by decide) (by rfl) tk (fun _ _ => .nil) (da_cons (de_cell (dv 0)) (da_cons de_int da_nil))) (fun _ _ => rfl))) da_nil)))))) da_nil)))) dss_nil))))
    (dss_one (ds_ret (de_tup (da_cons (de_frz (dv 1)) (da_cons (de_frz (dv 2)) (da_cons (de_frz (dv 3)) (da_cons (de_frz (de_callTy call_tuple_of cs_tuple (by rfl) T.n_tuple bt_tuple (da_cons (dv 4) da_nil))) da_nil))))))))))) ?_
  rintro es μ q x - ⟨n, nm, rfl, hs, hnm, h⟩
  have hn := hs.lt
  ((try walk_at "dx20"); repeat (walk_at "one" <;> (try walk_at "dx20")))
  (try walk_at "ok")
  intro r1 a0 a1 r2 b0 b1
  ((try walk_at "dx20"); repeat (walk_at "one" <;> (try walk_at "dx20")))
  (try walk_at "ok")
  intro r3 c0 c1
  (try walk_at "dx20")
  intro ss hss hz6
  (try walk_at "dx20")
  (try walk_at "ok")
  refine ⟨enc_str.deps (by decide) _, ord_str.alikeD (.inr fun z => ⟨by simp, by simp⟩) _, ?_⟩
  rw [ord_str.sort]
  have hp := List.mergeSort_perm ss (leO fun a b : Str => decide (a.cps.toList < b.cps.toList))
  generalize ss.mergeSort (leO fun a b : Str => decide (a.cps.toList < b.cps.toList)) = ys at *
  have hys := hp.length_eq
  have hy6 : ∀ z ∈ ys, z.length ≤ 6 := fun z hz => hz6 z (hp.mem_iff.mp hz)
  (try walk_at "dx20")
  refine for_stD (fun i (ls : List Lg) => (ls.length ≤ i ∧ (1 ≤ i → 1 ≤ ls.length)) ∧ ∀ l ∈ ls, l.1.length ≤ 6 ∧ l.2.2.2.length ≤ 7) (fun η _ => η) (fun _ ls => μ ++ [.lst (ls.map lgD)]) [] rfl rfl ⟨⟨Nat.le_refl _, fun h => absurd h (by decide)⟩, fun l hl => by simp at hl⟩ (fun _ => trivial) ?_ ?_
  · rintro i y ls J hi ⟨⟨hl, hl1⟩, hlg⟩ hJ
    have hi' := get_lt hi
    have hy := hy6 y (List.mem_of_getElem? hi)
    ((try walk_at "dx20"); repeat (walk_at "one" <;> (try walk_at "dx20")))
    intro px p0 p1 py p2 p3
    ((try walk_at "dx20"); repeat (walk_at "one" <;> (try walk_at "dx20")))
    refine lc_mapD (f := ?f) (by omega) (.inl get_a0) (fun a K ha hK => ?e) ?_
    case e => (try walk_at "dx20"); rw [cut13]; exact hK
    (try walk_at "dx20")
    (try walk_at "ok")
    have nd : noDs (ls.map fun a : Lg => PyData.tuple [.int a.2.1, .int a.2.2.1]) = true := noDs_map (fun _ => rfl) _
    split
    · ((try walk_at "dx20"); repeat (walk_at "one" <;> (try walk_at "dx20")))
      refine ⟨nd, ?_⟩
      ((try walk_at "dx20"); repeat (walk_at "one" <;> (try walk_at "dx20")))
      intro r8 h8 h8'
      (try walk_at "dx20")
      refine pick_at h8 (by simpa using h8') ?_
      intro d hd
      obtain ⟨z2, rfl, hz2⟩ : ∃ z2 : Str, d = .str z2 ∧ z2.length ≤ 7 := by
        simp only [List.mem_cons, List.not_mem_nil, or_false] at hd
        rcases hd with rfl | rfl
        all_goals exact ⟨_, rfl, by decide⟩
      (try walk_at "dx20")
      (try walk_at "ok")
      (have j := hJ (ls ++ [(y, px, py, z2)]) ⟨⟨by simp only [List.length_append, List.length_singleton]; omega, fun _ => by simp⟩, lg_one hlg hy hz2⟩; simp only [List.range_succ, List.map_append, List.map_cons, List.map_nil, fg_cons, fg_nil, List.set_cons_succ, List.set_cons_zero] at j; exact j)
    · rename_i hno
      ((try walk_at "dx20"); repeat (walk_at "one" <;> (try walk_at "dx20")))
      have hone : 1 ≤ i + 1 → 1 ≤ ls.length := fun _ => by
        cases ls with
        | nil => exact absurd (by simp [has]) hno
        | cons l ls => simp
      refine ⟨nd, ?_⟩
      (have j := hJ ls ⟨⟨by omega, hone⟩, hlg⟩; simp only [List.range_succ, List.map_append, List.map_cons, List.map_nil, fg_cons, fg_nil, List.set_cons_succ, List.set_cons_zero] at j; exact j)
  · rintro ls ⟨⟨hl, hl1⟩, hlg⟩
    ((try walk_at "dx20"); repeat (walk_at "one" <;> (try walk_at "dx20")))
    exact h (nm, 1 + r1, 1 + r2, ls) ⟨hnm, hl1 (by omega), by show ls.length ≤ 6; omega, hlg⟩
local macro_rules | `(tactic| walk_at "dx21") => `(tactic| simp (disch := first | assumption | omega) only [List.length_cons, List.length_nil, Nat.zero_add, Nat.reduceAdd, List.map_cons, List.map_nil, ↓exitQ_dat, startD, Nat.reduceSub, List.replicate.eq_2, List.replicate, List.cons_append, List.nil_append, ↓x_aCons, ↓x_dStl, ↓x_dOp, ↓x_dC, ↓x_dCall, ↓x_dCell, ↓dVar_0, ↓old_loc, ↓cel_loc, ↓x_aNil, ↓aO_cons, ↓nN_loc, ↓nN_dat, ↓aO_nil, Bool.and_true, List.append_nil, List.set_cons_succ, List.set_cons_zero, nextA_eq, ilt_h, ↓add_int, ↓stl_dat, true_and, isR_h, ↓x_dLst, ↓wDs_nil, nle_h, ↓cel_new, ↓x_iSeqD, ↓x_dCB, Bool.true_and, isR_app, ↓e_law_names, ↓stl_new, ↓srt_l, ↓noDs_s, ↓seqDK_n, ile_h, ↓x_gNm, List.length_append, ↓fg_cons, ↓fg_nil, ↓x_dTup, ↓x_dFrz, ↓dVar_2, ↓old_dat, ↓dVar_3, ↓wDs_cons, ↓wD_dat, ↓x_tVal, ↓dVar_6, ↓x_lc, ↓dVar_4, ↓seqDK_c, cl_loc, ↓cl_dat, ↓cl_none, ↓cl_nil, ↓get_a0, seqC_l, ↓x_dSl, wipeD, ↓x_oSome, ↓intK_i, dVar_7, ↓sl_tupD, ↓tk_a1, ↓memA_n, ↓mem_n, ↓noD_t, ↓noDs_cons, ↓noD_i, ↓noDs_nil, ↓noD_l, dep_tup, depA_cons, dep_int, depA_nil, Nat.max_zero, ↓wB_b, if_true, ↓x_dBM, ↓c_isL, lcR_l, ↓dVar_5, ↓ix_tupD, at_nn, Int.reduceToNat, List.getElem?_cons_zero, Option.some.injEq, List.getElem?_cons_succ, ↓c_app, ↓ix_new, ↓set_a0, tk_a1, lcK_l, List.length_map, nlt_h, exists_eq_left', ↓dVar_1, ↓x_oTuple, ↓c_sqK, ↓tk_a0, oPow, ↓x_dUn, ↓neg_i, ↓wD_new, ↓oI_ii, cpow_h, ↓ix_lstD, ↓tk_0])
/-- data without dicts, not deep, not long -/
def FN (k : Nat) (d : PyData) : Prop := noD d = true ∧ d.depth ≤ k ∧ szOk d = true
theorem FN.mono {k m : Nat} {d : PyData} (h : FN k d) (hk : k ≤ m) : FN m d := ⟨h.1, Nat.le_trans h.2.1 hk, h.2.2⟩
theorem FN.fit {k : Nat} {d : PyData} (h : FN k d) (hk : k ≤ 40) : Fit d := ⟨h.1, Nat.le_trans h.2.1 hk, h.2.2⟩
theorem fn_none {k : Nat} : FN k .none := ⟨rfl, Nat.zero_le _, rfl⟩
theorem fn_bool {k : Nat} {b : Bool} : FN k (.bool b) := ⟨rfl, Nat.zero_le _, rfl⟩
theorem fn_int {k : Nat} {i : Int} : FN k (.int i) := ⟨rfl, Nat.zero_le _, rfl⟩
theorem fn_str {k : Nat} {z : Str} (h : z.length ≤ 1000) : FN k (.str z) := ⟨rfl, Nat.zero_le _, by rw [szOk, decide_eq_true_eq]; exact h⟩
theorem fn_all {k : Nat} : ∀ {xs : List PyData}, (∀ d ∈ xs, FN k d) → noDs xs = true ∧ PyData.depthAll xs ≤ k ∧ szAll xs = true
  | [], _ => ⟨noDs_nil, by rw [PyData.depthAll]; omega, by rw [szAll]⟩
  | x :: xs, h => by
    obtain ⟨a1, a2, a3⟩ := h x (by simp)
    obtain ⟨b1, b2, b3⟩ := fn_all (xs := xs) fun d hd => h d (by simp [hd])
    refine ⟨?_, ?_, ?_⟩
    · rw [noDs_cons, a1, b1]; rfl
    · rw [PyData.depthAll]; omega
    · rw [szAll, a3, b3]; rfl
theorem fn_tup {k : Nat} {xs : List PyData} (hl : xs.length ≤ 60) (h : ∀ d ∈ xs, FN k d) : FN (k + 1) (.tuple xs) := by
  obtain ⟨b1, b2, b3⟩ := fn_all h
  refine ⟨by rw [noD_t]; exact b1, by rw [dep_tup]; omega, ?_⟩
  rw [szOk, Bool.and_eq_true, decide_eq_true_eq]
  exact ⟨hl, b3⟩
theorem fn_lst {k : Nat} {xs : List PyData} (hl : xs.length ≤ 60) (h : ∀ d ∈ xs, FN k d) : FN (k + 1) (.list xs) := by
  obtain ⟨b1, b2, b3⟩ := fn_all h
  refine ⟨by rw [noD_l]; exact b1, by rw [PyData.depth]; omega, ?_⟩
  rw [szOk, Bool.and_eq_true, decide_eq_true_eq]
  exact ⟨hl, b3⟩
theorem fn_nil {k : Nat} : ∀ d ∈ ([] : List PyData), FN k d := fun d hd => absurd hd List.not_mem_nil
theorem fn_a1 {k : Nat} : ∀ d ∈ [PyData.str "a"], FN k d := fun d hd => by
  have e : d = .str "a" := List.mem_singleton.mp hd
  rw [e]
  exact fn_str (by decide)
def sp_law_odd : SpD := fun es μ q x => ∃ (n : Nat), es = [.loc n] ∧ (isR μ n ∧ ∀ d : PyData, FN 1 d → q (.dat d) μ)
theorem e_law_odd {n : Nat} {μ : Mu} {q : PQ} {x : XQ} : sp_law_odd [.loc n] μ q x = (isR μ n ∧ ∀ d : PyData, FN 1 d → q (.dat d) μ) := by
  refine propext ⟨fun hyp0 => ?_, fun hyp0 => ⟨n, rfl, hyp0⟩⟩
  obtain ⟨n', eq0, hyp0⟩ := hyp0
  simp only [List.cons.injEq, Exn.mk.injEq, EV.at.injEq, eq_self, EV.dat.injEq, EV.loc.injEq, EV.new.injEq, EV.ro.injEq, EV.exc.injEq, EV.per.injEq, PyData.int.injEq, PyData.str.injEq, PyData.bool.injEq, PyData.list.injEq, PyData.tuple.injEq, and_true, true_and, and_assoc, map_int_inj, ] at eq0
  subst eq0
  exact hyp0
theorem ok_law_odd (T : Top K mg) : DefAt P w K mg base "_law_odd" 2 ["_law_state_here"] [] [] sp_law_odd := by
  refine def_ok sp_law_odd T.F_law_odd sc_law_odd T.m_law_odd T.b_law_odd (fun cdv A outer s H E hr tk pw => (dss_cons (ds_set (i := 1) sc_law_odd.nd rfl (by first | exact Or.inl rfl | exact Or.inr rfl) (de_stl (de_lst (da_cons de_non (da_cons de_bl (da_cons de_int (da_cons (de_frz (de_un un_neg us_neg de_int)) (da_cons de_int (da_cons de_str (da_cons de_str (da_cons de_str (da_cons de_str (da_cons de_str (da_cons (de_frz (de_tup da_nil)) (da_cons (de_frz (de_lst da_nil)) (da_cons de_str (da_cons de_str (da_cons (de_frz (de_op op_pow os_pow de_int de_int)) (da_cons (de_frz (de_tup (da_cons de_str da_nil))) da_nil)))))))))))))))))))
    (dss_one (ds_ret (de_ix ix_seq os_ix (dv 1) (de_call (ok_law_next T) hr (by decide) (by rfl) tk (fun _ _ => .nil) (da_cons (de_cell (dv 0)) (da_cons de_int da_nil))) (fun _ _ => rfl)))))) ?_
  rintro es μ q x - ⟨n, rfl, hs, h⟩
  have hn := hs.lt
  ((try walk_at "dx21"); repeat (walk_at "one" <;> (try walk_at "dx21")))
  (try walk_at "ok")
  intro r h0 h1
  (try walk_at "dx21")
  refine pick_at h0 (by simpa using h1) ?_
  intro d hd
  have hf : FN 1 d := by
    simp only [List.mem_cons, List.not_mem_nil, or_false] at hd
    rcases hd with rfl | rfl | rfl | rfl | rfl | rfl | rfl | rfl | rfl | rfl | rfl | rfl | rfl | rfl | rfl | rfl
    all_goals first
      | exact fn_none
      | exact fn_bool
      | exact fn_int
      | exact fn_str (by decide)
      | exact fn_tup (by decide) fn_nil
      | exact fn_lst (by decide) fn_nil
      | exact fn_tup (by decide) fn_a1
  (try walk_at "dx21")
  exact h d hf
local macro_rules | `(tactic| walk_at "dx22") => `(tactic| simp (disch := first | assumption | omega) only [List.length_cons, List.length_nil, Nat.zero_add, Nat.reduceAdd, List.map_cons, List.map_nil, ↓exitQ_dat, startD, Nat.reduceSub, List.replicate.eq_2, List.replicate, List.cons_append, List.nil_append, ↓x_aCons, ↓x_dStl, ↓x_dOp, ↓x_dC, ↓x_dCall, ↓x_dCell, ↓dVar_0, ↓old_loc, ↓cel_loc, ↓x_aNil, ↓aO_cons, ↓nN_loc, ↓nN_dat, ↓aO_nil, Bool.and_true, List.append_nil, List.set_cons_succ, List.set_cons_zero, nextA_eq, ilt_h, ↓add_int, ↓stl_dat, true_and, isR_h, ↓x_dLst, ↓wDs_nil, nle_h, ↓cel_new, ↓x_iSeqD, ↓x_dCB, Bool.true_and, isR_app, ↓e_law_names, ↓stl_new, ↓srt_l, ↓noDs_s, ↓seqDK_n, ile_h, ↓x_gNm, List.length_append, ↓fg_cons, ↓fg_nil, ↓x_dTup, ↓x_dFrz, ↓dVar_2, ↓old_dat, ↓dVar_3, ↓wDs_cons, ↓wD_dat, ↓x_tVal, ↓dVar_6, ↓x_lc, ↓dVar_4, ↓seqDK_c, cl_loc, ↓cl_dat, ↓cl_none, ↓cl_nil, ↓get_a0, seqC_l, ↓x_dSl, wipeD, ↓x_oSome, ↓intK_i, dVar_7, ↓sl_tupD, ↓tk_a1, ↓memA_n, ↓mem_n, ↓noD_t, ↓noDs_cons, ↓noD_i, ↓noDs_nil, ↓noD_l, dep_tup, depA_cons, dep_int, depA_nil, Nat.max_zero, ↓wB_b, if_true, ↓x_dBM, ↓c_isL, lcR_l, ↓dVar_5, ↓ix_tupD, at_nn, Int.reduceToNat, List.getElem?_cons_zero, Option.some.injEq, List.getElem?_cons_succ, ↓c_app, ↓ix_new, ↓set_a0, tk_a1, lcK_l, List.length_map, nlt_h, exists_eq_left', ↓dVar_1, ↓x_oTuple, ↓c_sqK, ↓tk_a0, oPow, ↓x_dUn, ↓neg_i, ↓wD_new, ↓oI_ii, cpow_h, ↓ix_lstD, ↓tk_0])
local macro_rules | `(tactic| walk_at "dx23") => `(tactic| simp (disch := first | assumption | omega) only [List.length_cons, List.length_nil, Nat.zero_add, Nat.reduceAdd, oLt, ↓exitQ_dat, startD, List.map_cons, List.map_nil, Nat.reduceSub, List.replicate.eq_2, List.replicate, List.cons_append, List.nil_append, ↓x_dStl, ↓x_dCall, ↓x_aCons, ↓x_dCell, ↓dVar_0, ↓old_loc, ↓cel_loc, ↓x_dC, ↓x_aNil, ↓aO_cons, ↓nN_loc, ↓nN_dat, ↓aO_nil, Bool.and_true, List.append_nil, List.set_cons_succ, List.set_cons_zero, nextA_eq, isR_h, ilt_h, ↓stl_dat, true_and, ↓x_tVal, ↓x_dOp, ↓dVar_2, ↓old_dat, ↓eq_dd, ↓noD_i, and_true, dep_int, nle_h, ↓wB_b, eqv_int, decide_eq_true_eq, ↓x_dLst, ↓x_dFrz, ↓x_dCB, ↓dVar_1, ↓lsA_t, ↓wD_new, ↓x_dTup, ↓wDs_cons, ↓wDs_nil, ↓add_tup, ↓wD_dat, ↓x_dSl, ↓x_oNo, ↓x_oSome, ↓intK_i, ↓sl_tupD, ↓x_dRevL, ↓revK_t, ↓ix_new, ↓tk_0, at_nn, ↓oI0_ii, ↓dVar_3, Nat.reduceLeDiff, ↓add_int, List.length_append, List.append_assoc, ↓e_law_odd, ↓ix_tupD, Int.reduceToNat, List.getElem?_cons_succ, List.getElem?_cons_zero, Option.some.injEq, exists_eq_left', ↓cel_new, ↓dVar_4, ↓c_lenD, Bool.true_and, ↓get_a0, lnC_l, ↓c_len, ↓nextA_eq, isR_app, lcR_l, ↓x_tAndD, Bool.false_eq_true, if_false, ↓c_wD, wdC_l, ↓set_a0, tk_a0, ↓fg_cons, ↓fg_nil, ↓c_ix, ↓x_dBM, ↓c_isL, ↓dVar_5, ↓c_app, lcK_l, nlt_h, ↓x_oTuple, ↓c_sqK, ↓tk_a0, ↓dVar_6, ↓x_gSb, ↓c_set, ↓revK_c, ↓c_mul, ile_h, ↓c_sl, ↓cel_dat, lcR_f, ↓sqK_lst, ↓dVar_7, List.length_set])
/-! ### a drawing spoilt -/
theorem fn_lg {l : Lg} (h1 : l.1.length ≤ 1000) (h2 : l.2.2.2.length ≤ 1000) : FN 1 (lgD l) := fn_tup (by simp) fun d hd => by
  simp only [List.mem_cons, List.not_mem_nil, or_false] at hd
  rcases hd with rfl | rfl | rfl | rfl
  · exact fn_str h1
  · exact fn_int
  · exact fn_int
  · exact fn_str h2
theorem Few.legs {d : Dr} (h : Few d) : ∀ e ∈ d.2.2.2.map lgD, FN 1 e := fun e he => by
  obtain ⟨l, hl, rfl⟩ := List.mem_map.mp he
  have := h.lg l hl
  exact fn_lg (by omega) (by omega)
theorem fn_legs {d : Dr} (h : Few d) : FN 2 (.tuple (d.2.2.2.map lgD)) := fn_tup (by rw [List.length_map]; have := h.six; omega) h.legs
def items (d : Dr) : List PyData := [.str d.1, .int d.2.1, .int d.2.2.1, .tuple (d.2.2.2.map lgD)]
theorem Few.items {d : Dr} (h : Few d) : ∀ e ∈ items d, FN 3 e := fun e he => by
  simp only [B.items, List.mem_cons, List.not_mem_nil, or_false] at he
  rcases he with rfl | rfl | rfl | rfl
  · exact fn_str (by have := h.nm; omega)
  · exact fn_int
  · exact fn_int
  · exact (fn_legs h).mono (by omega)
theorem cut_mem {ds : List PyData} {lo hi : Option Int} {e : PyData} (h : e ∈ cutD ds lo hi) : e ∈ ds := List.mem_of_mem_drop (List.mem_of_mem_take h)
theorem cut_len (ds : List PyData) (lo hi : Option Int) : (cutD ds lo hi).length ≤ ds.length := by
  unfold cutD
  rw [List.length_take, List.length_drop]
  omega
theorem fn_mem {k : Nat} {xs : List PyData} (h : FN (k + 1) (.tuple xs)) : ∀ d ∈ xs, FN k d := fun d hd => by
  obtain ⟨h1, h2, h3⟩ := h
  rw [szOk, Bool.and_eq_true, decide_eq_true_eq] at h3
  rw [noD_t] at h1
  rw [dep_tup] at h2
  exact ⟨noDs_mem h1 d hd, by have := depAll_mem hd; omega, szAll_mem h3.2 d hd⟩
/-- the tuple of a cut, an odd thing and another cut -/
theorem fn_odd {k : Nat} {ds : List PyData} {d : PyData} {a b c e : Option Int} (hl : ds.length ≤ 20) (h : ∀ x ∈ ds, FN k x) (hd : FN k d) : FN (k + 1) (.tuple (cutD ds a b ++ [d] ++ cutD ds c e)) := by
  have l1 := cut_len ds a b
  have l2 := cut_len ds c e
  refine fn_tup (by simp; omega) fun x hx => ?_
  simp only [List.mem_append, List.mem_cons, List.not_mem_nil, or_false] at hx
  rcases hx with (hx | rfl) | hx
  · exact h x (cut_mem hx)
  · exact hd
  · exact h x (cut_mem hx)
def sp_law_spoilt : SpD := fun es μ q x => ∃ (n : Nat) (d : Dr), es = [.loc n, .dat (drD d)] ∧ (isR μ n ∧ Few d ∧ ∀ t : PyData, Fit t → q (.dat t) μ)
theorem e_law_spoilt {n : Nat} {d : Dr} {μ : Mu} {q : PQ} {x : XQ} : sp_law_spoilt [.loc n, .dat (drD d)] μ q x = (isR μ n ∧ Few d ∧ ∀ t : PyData, Fit t → q (.dat t) μ) := by
  refine propext ⟨fun hyp0 => ?_, fun hyp0 => ⟨n, d, rfl, hyp0⟩⟩
  obtain ⟨n', d', eq0, hyp0⟩ := hyp0
  simp only [List.cons.injEq, Exn.mk.injEq, EV.at.injEq, eq_self, EV.dat.injEq, EV.loc.injEq, EV.new.injEq, EV.ro.injEq, EV.exc.injEq, EV.per.injEq, PyData.int.injEq, PyData.str.injEq, PyData.bool.injEq, PyData.list.injEq, PyData.tuple.injEq, and_true, true_and, and_assoc, map_int_inj, drD_inj] at eq0
  obtain ⟨rfl, rfl⟩ := eq0
  exact hyp0
theorem ok_law_spoilt (T : Top K mg) : DefAt P w K mg base "_law_spoilt" 3 ["_law_state_here", "_law_thing"] [] [] sp_law_spoilt := by
  refine def_ok sp_law_spoilt T.F_law_spoilt sc_law_spoilt T.m_law_spoilt T.b_law_spoilt (fun cdv A outer s H E hr tk pw => (dss_cons (ds_set (i := 2) sc_law_spoilt.nd rfl (by first | exact Or.inl rfl | exact Or.inr rfl) (de_stl (de_call (ok_law_next T) hr (by decide) (by rfl) tk (fun _ _ => .nil) (da_cons (de_cell (dv 0)) (da_cons de_int da_nil)))))
    (dss_cons (ds_if (dt_cmp (opA_eq hr.units) os_eq (dv 2) de_int (nomark _)) (dss_one (ds_ret (de_ix ix_seq os_ix (de_lst (da_cons (de_frz (de_callTy (call_listA rfl) cs_listA (by rfl) T.n_list bt_list (da_cons (dv 1) da_nil))) (da_cons (de_frz (de_op opA_add os_add (dv 1) (de_tup (da_cons de_int da_nil)))) (da_cons (de_frz (de_slice slA os_sl (dv 1) do_none (do_some de_int))) (da_cons de_non (da_cons de_str (da_cons (de_frz (de_revL (dv 1))) da_nil))))))) (de_call (ok_law_next T) hr (by decide) (by rfl) tk (fun _ _ => .nil) (da_cons (de_cell (dv 0)) (da_cons de_int da_nil))) (fun _ _ => rfl)))) dss_nil)
    (dss_cons (ds_if (dt_cmp op_lt os_lt (dv 2) de_int (nomark _)) (dss_cons (ds_set (i := 3) sc_law_spoilt.nd rfl (by first | exact Or.inl rfl | exact Or.inr rfl) (de_stl (de_call (ok_law_next T) hr (by decide) (by rfl) tk (fun _ _ => .nil) (da_cons (de_cell (dv 0)) (da_cons de_int da_nil)))))
    (dss_one (ds_ret (de_op opA_add os_add (de_op opA_add os_add (de_slice slA os_sl (dv 1) do_none (do_some (dv 3))) (de_tup (da_cons (de_frz (de_stl (de_call (ok_law_odd T) hr (by decide) (by rfl) tk (fun _ _ => .nil) (da_cons (de_cell (dv 0)) da_nil)))) da_nil))) (de_slice slA os_sl (dv 1) (do_some (de_op opA_add os_add (dv 3) de_int)) do_none))))) dss_nil)
    (dss_cons (ds_set (i := 4) sc_law_spoilt.nd rfl (by first | exact Or.inl rfl | exact Or.inr rfl) (de_cell (de_callTy (call_listA rfl) cs_listA (by rfl) T.n_list bt_list (da_cons (de_ix ix_seq os_ix (dv 1) de_int (fun _ _ => rfl)) da_nil))))
    (dss_cons (ds_set (i := 5) sc_law_spoilt.nd rfl (by first | exact Or.inl rfl | exact Or.inr rfl) (de_stl (de_call (ok_law_next T) hr (by decide) (by rfl) tk (fun _ _ => .nil) (da_cons (de_cell (dv 0)) (da_cons (de_stl (de_callB call_lenA cs_lenD (by rfl) T.n_len bb_len (da_cons (dv 4) da_nil))) da_nil)))))
    (dss_cons (ds_if (dw_and (dt_cmp (opA_eq hr.units) os_eq (dv 2) de_int (nomark _)) (dw_and1 (dt_cmp (opA_eq hr.units) os_eq (de_call (ok_law_next T) hr (by decide) (by rfl) tk (fun _ _ => .nil) (da_cons (de_cell (dv 0)) (da_cons de_int da_nil))) de_int (nomark _)))).dt (dss_one (ds_ret (de_op opA_add os_add (de_slice slA os_sl (dv 1) do_none (do_some de_int)) (de_tup (da_cons (de_frz (dv 4)) da_nil))))) dss_nil)
    (dss_cons (ds_wipe [3, 6, 7] (ds_if (dt_cmp (opA_eq hr.units) os_eq (dv 2) de_int (nomark _)) (dss_cons (ds_set (i := 6) sc_law_spoilt.nd rfl (by first | exact Or.inl rfl | exact Or.inr rfl) (de_stl (de_ix ix_seq os_ix (dv 4) (de_call (ok_law_next T) hr (by decide) (by rfl) tk (fun _ _ => .nil) (da_cons (de_cell (dv 0)) (da_cons (de_stl (de_callB call_lenA cs_lenD (by rfl) T.n_len bb_len (da_cons (dv 4) da_nil))) da_nil))) (fun _ _ => rfl))))
    (dss_one (ds_if (dt_cmp (opA_eq hr.units) os_eq (de_call (ok_law_next T) hr (by decide) (by rfl) tk (fun _ _ => .nil) (da_cons (de_cell (dv 0)) (da_cons de_int da_nil))) de_int (nomark _)) (dss_one (ds_expr (de_bm PySem.F.plainAttrs_list PySem.F.slot_list_append PySem.F.type_list_append mt_append rc_lst ms_append (dv 4) (da_cons (de_frz (de_ix ix_seq os_ix (dv 4) (dv 5) (fun _ _ => rfl))) da_nil)))) (dss_one (ds_asg (de_frz (de_op opA_add os_add (de_slice slA os_sl (dv 6) do_none (do_some de_int)) (de_slice slA os_sl (de_ix ix_seq os_ix (dv 4) (dv 5) (fun _ _ => rfl)) (do_some de_int) do_none))) (dg_sub (W := WF) (dv 4) (dv 5) set_list ss_list)))))) (dss_one (ds_wipe [3, 7] (ds_if (dt_cmp (opA_eq hr.units) os_eq (dv 2) de_int (nomark _)) (dss_one (ds_set (i := 4) sc_law_spoilt.nd rfl (by first | exact Or.inl rfl | exact Or.inr rfl) (de_cell (de_ix ix_seq os_ix (de_lst (da_cons (de_frz (dv 4)) (da_cons (de_frz (de_revL (dv 4))) (da_cons (de_frz (de_lst da_nil)) (da_cons (de_frz (de_op opA_mul os_mul (dv 4) de_int)) (da_cons (de_frz (de_slice slA os_sl (dv 4) do_none (do_some (dv 5)))) da_nil)))))) (de_call (ok_law_next T) hr (by decide) (by rfl) tk (fun _ _ => .nil) (da_cons (de_cell (dv 0)) (da_cons de_int da_nil))) (fun _ _ => rfl))))) (dss_cons (ds_set (i := 3) sc_law_spoilt.nd rfl (by first | exact Or.inl rfl | exact Or.inr rfl) (de_stl (de_call (ok_law_next T) hr (by decide) (by rfl) tk (fun _ _ => .nil) (da_cons (de_cell (dv 0)) (da_cons de_int da_nil)))))
    (dss_cons (ds_set (i := 7) sc_law_spoilt.nd rfl (by first | exact Or.inl rfl | exact Or.inr rfl) (de_stl (de_ix ix_seq os_ix (de_lst (da_cons (de_frz (de_stl (de_call (ok_law_odd T) hr (by decide) (by rfl) tk (fun _ _ => .nil) (da_cons (de_cell (dv 0)) da_nil)))) (da_cons (de_frz (de_ix ix_seq os_ix (dv 1) de_int (fun _ _ => rfl))) (da_cons (de_frz (de_ix ix_seq os_ix (dv 1) de_int (fun _ _ => rfl))) da_nil)))) (de_call (ok_law_next T) hr (by decide) (by rfl) tk (fun _ _ => .nil) (da_cons (de_cell (dv 0)) (da_cons de_int da_nil))) (fun _ _ => rfl))))
    (dss_cons (ds_asg (de_frz (de_op opA_add os_add (de_op opA_add os_add (de_slice slA os_sl (de_ix ix_seq os_ix (dv 4) (dv 5) (fun _ _ => rfl)) do_none (do_some (dv 3))) (de_tup (da_cons (de_frz (dv 7)) da_nil))) (de_slice slA os_sl (de_ix ix_seq os_ix (dv 4) (dv 5) (fun _ _ => rfl)) (do_some (de_op opA_add os_add (dv 3) de_int)) do_none))) (dg_sub (W := WF) (dv 4) (dv 5) set_list ss_list))
    (dss_one (ds_if (dw_and (dt_cmp (opA_eq hr.units) os_eq (dv 2) de_int (nomark _)) (dw_and1 (dt_cmp (opA_eq hr.units) os_eq (de_call (ok_law_next T) hr (by decide) (by rfl) tk (fun _ _ => .nil) (da_cons (de_cell (dv 0)) (da_cons de_int da_nil))) de_int (nomark _)))).dt (dss_one (ds_asg (de_frz (de_callTy (call_listA rfl) cs_listA (by rfl) T.n_list bt_list (da_cons (de_ix ix_seq os_ix (dv 4) (dv 5) (fun _ _ => rfl)) da_nil))) (dg_sub (W := WF) (dv 4) (dv 5) set_list ss_list))) dss_nil))))))))))
    (dss_one (ds_ret (de_op opA_add os_add (de_slice slA os_sl (dv 1) do_none (do_some de_int)) (de_tup (da_cons (de_frz (de_callTy call_tuple_of cs_tuple (by rfl) T.n_tuple bt_tuple (da_cons (dv 4) da_nil))) da_nil))))))))))))) ?_
  rintro es μ q x - ⟨n, d, rfl, hs, F, h⟩
  have hn := hs.lt
  have hI := F.items
  have hL : ∀ e ∈ d.2.2.2.map lgD, ∃ as, e = .tuple as ∧ as.length = 4 ∧ ∀ x ∈ as, FN 0 x := fun e he => by
    obtain ⟨l, hl, rfl⟩ := List.mem_map.mp he
    have := F.lg l hl
    refine ⟨_, rfl, rfl, fun x hx => ?_⟩
    simp only [List.mem_cons, List.not_mem_nil, or_false] at hx
    rcases hx with rfl | rfl | rfl | rfl
    · exact fn_str (by omega)
    · exact fn_int
    · exact fn_int
    · exact fn_str (by omega)
  have h6 := F.six
  have h1 := F.one
  rw [drD_eq]
  unfold B.items at hI
  generalize hls : d.2.2.2.map lgD = ls at *
  have hlen : ls.length = d.2.2.2.length := by rw [← hls, List.length_map]
  ((try walk_at "dx23"); repeat (walk_at "one" <;> (try walk_at "dx23")))
  (try walk_at "ok")
  intro r r0 r1
  ((try walk_at "dx23"); repeat (walk_at "one" <;> (try walk_at "dx23")))
  split
  · ((try walk_at "dx23"); repeat (walk_at "one" <;> (try walk_at "dx23")))
    (try walk_at "ok")
    intro s s0 s1
    (try walk_at "dx23")
    refine pick_at s0 (by simpa using s1) ?_
    intro e he
    have hf : FN 4 e := by
      simp only [List.mem_cons, List.not_mem_nil, or_false] at he
      rcases he with rfl | rfl | rfl | rfl | rfl | rfl
      · exact fn_lst (by simp) hI
      · refine fn_tup (by simp) fun x hx => ?_
        rcases List.mem_append.mp (show x ∈ [PyData.str d.1, .int d.2.1, .int d.2.2.1, .tuple ls] ++ [PyData.int 1] from hx) with hx | hx
        · exact hI x hx
        · rw [List.mem_singleton.mp hx]
          exact fn_int
      · exact fn_tup (Nat.le_trans (cut_len _ _ _) (by simp)) fun x hx => hI x (cut_mem hx)
      · exact fn_none
      · exact fn_str (by decide)
      · exact fn_tup (by simp) fun x hx => hI x (List.mem_reverse.mp hx)
    exact h e (hf.fit (by omega))
  · ((try walk_at "dx23"); repeat (walk_at "one" <;> (try walk_at "dx23")))
    split
    · ((try walk_at "dx23"); repeat (walk_at "one" <;> (try walk_at "dx23")))
      (try walk_at "ok")
      intro s s0 s1
      ((try walk_at "dx23"); repeat (walk_at "one" <;> (try walk_at "dx23")))
      intro e he
      have l1 := cut_len [PyData.str d.1, .int d.2.1, .int d.2.2.1, .tuple ls] none (some s)
      have l2 := cut_len [PyData.str d.1, .int d.2.1, .int d.2.2.1, .tuple ls] (some (s + 1)) none
      have l0 : [PyData.str d.1, .int d.2.1, .int d.2.2.1, .tuple ls].length = 4 := rfl
      have := fn_odd (a := none) (b := some s) (c := some (s + 1)) (e := none) (by omega) hI (he.mono (by omega : 1 ≤ 3))
      rw [List.append_assoc] at this
      refine ⟨by omega, by omega, h _ (this.fit (by omega))⟩
    · ((try walk_at "dx23"); repeat (walk_at "one" <;> (try walk_at "dx23")))
      (try walk_at "ok")
      have fin : ∀ e : PyData, FN 4 e → (cutD [PyData.str d.1, .int d.2.1, .int d.2.2.1, .tuple ls] none (some 3)).length ≤ 99999 ∧ q (.dat (.tuple (cutD [PyData.str d.1, .int d.2.1, .int d.2.2.1, .tuple ls] none (some 3) ++ [e]))) μ := fun e he => ⟨Nat.le_trans (cut_len _ _ _) (by simp), h _ (FN.fit (k := 5) (fn_tup (by have := cut_len [PyData.str d.1, .int d.2.1, .int d.2.2.1, .tuple ls] none (some 3); simp at this ⊢; omega) fun x hx => by
        rcases List.mem_append.mp hx with hx | hx
        · exact (hI x (cut_mem hx)).mono (by omega)
        · rw [List.mem_singleton.mp hx]
          exact he) (by omega))⟩
      have hL1 : ∀ e ∈ ls, FN 1 e := fun e he => by
        obtain ⟨as, rfl, al, ag⟩ := hL e he
        exact fn_tup (by omega) ag
      intro at0 t0 t1
      obtain ⟨ea, hea, ema⟩ := pick t0 t1
      obtain ⟨as, rfl, al, ag⟩ := hL _ ema
      ((try walk_at "dx23"); repeat (walk_at "one" <;> (try walk_at "dx23")))
      split
      · ((try walk_at "dx23"); repeat (walk_at "one" <;> (try walk_at "dx23")))
        intro s s0 s1
        ((try walk_at "dx23"); repeat (walk_at "one" <;> (try walk_at "dx23")))
        split
        · ((try walk_at "dx23"); repeat (walk_at "one" <;> (try walk_at "dx23")))
          exact fin _ (fn_lst (k := 3) (by omega) fun e he => (hL1 e he).mono (by omega))
        · ((try walk_at "dx23"); repeat (walk_at "one" <;> (try walk_at "dx23")))
          rename_i g3 gs
          rw [if_pos g3]
          ((try walk_at "dx23"); repeat (walk_at "one" <;> (try walk_at "dx23")))
          intro j j0 j1
          (try walk_at "dx23")
          obtain ⟨eb, heb, emb⟩ := pick j0 j1
          obtain ⟨bs, rfl, bl, bg⟩ := hL _ emb
          refine ⟨_, heb, ?_⟩
          ((try walk_at "dx23"); repeat (walk_at "one" <;> (try walk_at "dx23")))
          intro s2 s20 s21
          ((try walk_at "dx23"); repeat (walk_at "one" <;> (try walk_at "dx23")))
          split
          · ((try walk_at "dx23"); repeat (walk_at "one" <;> (try walk_at "dx23")))
            refine ⟨_, hea, ?_⟩
            ((try walk_at "dx23"); repeat (walk_at "one" <;> (try walk_at "dx23")))
            refine fin _ (fn_tup (k := 3) (by simp; omega) fun e he => ?_)
            rcases List.mem_append.mp he with he | he
            · exact (hL1 e he).mono (by omega)
            · rw [List.mem_singleton.mp he]
              exact (hL1 _ ema).mono (by omega)
          · ((try walk_at "dx23"); repeat (walk_at "one" <;> (try walk_at "dx23")))
            refine ⟨_, hea, ?_⟩
            ((try walk_at "dx23"); repeat (walk_at "one" <;> (try walk_at "dx23")))
            have l1 := cut_len bs none (some 1)
            have l2 := cut_len as (some 1) none
            refine ⟨by omega, _, ixN_nn t0 t1, ?_⟩
            ((try walk_at "dx23"); repeat (walk_at "one" <;> (try walk_at "dx23")))
            refine fin _ (fn_tup (k := 3) (by simp; omega) fun e he => ?_)
            rcases List.mem_or_eq_of_mem_set he with he | rfl
            · exact (hL1 e he).mono (by omega)
            · refine (fn_tup (k := 0) (by simp; omega) fun x hx => ?_).mono (by omega)
              rcases List.mem_append.mp hx with hx | hx
              · exact bg x (cut_mem hx)
              · exact ag x (cut_mem hx)
      · ((try walk_at "dx23"); repeat (walk_at "one" <;> (try walk_at "dx23")))
        rename_i g3
        rw [if_neg g3]
        ((try walk_at "dx23"); repeat (walk_at "one" <;> (try walk_at "dx23")))
        split
        · ((try walk_at "dx23"); repeat (walk_at "one" <;> (try walk_at "dx23")))
          intro s s0 s1
          (try walk_at "dx23")
          refine pick_at s0 (by simpa using s1) ?_
          have l1 := cut_len ls none (some at0)
          have go : ∀ xs : List PyData, xs.length ≤ 60 → (∀ e ∈ xs, e ∈ ls) → FN 4 (.tuple xs) := fun xs h3 h4 => fn_tup h3 fun e he => (hL1 e (h4 e he)).mono (by omega)
          intro e he
          obtain ⟨xs, rfl, hx⟩ : ∃ xs, e = .list xs ∧ FN 4 (.tuple xs) := by
            simp only [List.mem_cons, List.not_mem_nil, or_false] at he
            rcases he with rfl | rfl | rfl | rfl | rfl
            · exact ⟨_, rfl, go _ (by omega) fun e he => he⟩
            · exact ⟨_, rfl, go _ (by simp; omega) fun e he => List.mem_reverse.mp he⟩
            · exact ⟨_, rfl, go _ (by simp) fun e he => absurd he List.not_mem_nil⟩
            · exact ⟨_, rfl, go _ (by simp; omega) fun e he => by simpa using he⟩
            · exact ⟨_, rfl, go _ (by omega) fun e he => cut_mem he⟩
          ((try walk_at "dx23"); repeat (walk_at "one" <;> (try walk_at "dx23")))
          exact fin _ hx
        · ((try walk_at "dx23"); repeat (walk_at "one" <;> (try walk_at "dx23")))
          intro s s0 s1
          ((try walk_at "dx23"); repeat (walk_at "one" <;> (try walk_at "dx23")))
          intro e1 he1
          (try walk_at "dx23")
          intro s2 s20 s21
          (try walk_at "dx23")
          refine pick_at s20 (by simpa using s21) ?_
          intro e he
          have hf : FN 1 e := by
            simp only [List.mem_cons, List.not_mem_nil, or_false] at he
            rcases he with rfl | rfl | rfl
            · exact he1
            · exact fn_int
            · exact fn_int
          ((try walk_at "dx23"); repeat (walk_at "one" <;> (try walk_at "dx23")))
          refine ⟨_, hea, ?_⟩
          ((try walk_at "dx23"); repeat (walk_at "one" <;> (try walk_at "dx23")))
          have l1 := cut_len as none (some s)
          have l2 := cut_len as (some (s + 1)) none
          refine ⟨by omega, _, hea, ?_⟩
          ((try walk_at "dx23"); repeat (walk_at "one" <;> (try walk_at "dx23")))
          have fx : FN 2 (.tuple (cutD as none (some s) ++ [e] ++ cutD as (some (s + 1)) none)) := fn_odd (k := 1) (by omega) (fun x hx => (ag x hx).mono (by omega)) hf
          rw [List.append_assoc] at fx
          refine ⟨_, ixN_nn t0 t1, ?_⟩
          replace fx : FN 2 (.tuple (cutD as none (some s) ++ e :: cutD as (some (s + 1)) none)) := fx
          have lx : (cutD as none (some s) ++ e :: cutD as (some (s + 1)) none).length ≤ 60 := by simp; omega
          generalize cutD as none (some s) ++ e :: cutD as (some (s + 1)) none = xs at *
          have hat : (ls.set at0.toNat (.tuple xs))[at0.toNat]? = some (.tuple xs) := List.getElem?_set_self (by omega)
          have hset : ∀ x ∈ ls.set at0.toNat (.tuple xs), FN 2 x := fun x hx => by
            rcases List.mem_or_eq_of_mem_set hx with hx | rfl
            · exact (hL1 x hx).mono (by omega)
            · exact fx
          ((try walk_at "dx23"); repeat (walk_at "one" <;> (try walk_at "dx23")))
          have f0 := fin _ (fn_tup (k := 3) (by rw [List.length_set]; omega) fun x hx => (hset x hx).mono (by omega))
          split
          · intro s3 s30 s31
            split
            · ((try walk_at "dx23"); repeat (walk_at "one" <;> (try walk_at "dx23")))
              refine ⟨_, hat, ?_⟩
              ((try walk_at "dx23"); repeat (walk_at "one" <;> (try walk_at "dx23")))
              refine ⟨_, ixN_nn t0 t1, ?_⟩
              ((try walk_at "dx23"); repeat (walk_at "one" <;> (try walk_at "dx23")))
              refine (fin _ (fn_tup (k := 3) (by simp; omega) fun x hx => ?_)).2
              rcases List.mem_or_eq_of_mem_set hx with hx | rfl
              · exact (hset x hx).mono (by omega)
              · exact fn_lst (k := 2) lx fun y hy => (fn_mem fx y hy).mono (by omega)
            · ((try walk_at "dx23"); repeat (walk_at "one" <;> (try walk_at "dx23")))
              exact f0.2
          · ((try walk_at "dx23"); repeat (walk_at "one" <;> (try walk_at "dx23")))
            exact f0.2
local macro_rules | `(tactic| walk_at "dx24") => `(tactic| simp (disch := first | assumption | omega) only [List.length_cons, List.length_nil, Nat.zero_add, Nat.reduceAdd, oLt, ↓exitQ_dat, startD, List.map_cons, List.map_nil, Nat.reduceSub, List.replicate.eq_2, List.replicate, List.cons_append, List.nil_append, ↓x_dStl, ↓x_dCall, ↓x_aCons, ↓x_dCell, ↓dVar_0, ↓old_loc, ↓cel_loc, ↓x_dC, ↓x_aNil, ↓aO_cons, ↓nN_loc, ↓nN_dat, ↓aO_nil, Bool.and_true, List.append_nil, List.set_cons_succ, List.set_cons_zero, nextA_eq, isR_h, ilt_h, ↓stl_dat, true_and, ↓x_tVal, ↓x_dOp, ↓dVar_2, ↓old_dat, ↓eq_dd, ↓noD_i, and_true, dep_int, nle_h, ↓wB_b, eqv_int, decide_eq_true_eq, ↓x_dLst, ↓x_dFrz, ↓x_dCB, ↓dVar_1, ↓lsA_t, ↓wD_new, ↓x_dTup, ↓wDs_cons, ↓wDs_nil, ↓add_tup, ↓wD_dat, ↓x_dSl, ↓x_oNo, ↓x_oSome, ↓intK_i, ↓sl_tupD, ↓x_dRevL, ↓revK_t, ↓ix_new, ↓tk_0, at_nn, ↓oI0_ii, ↓dVar_3, Nat.reduceLeDiff, ↓add_int, List.length_append, List.append_assoc, ↓e_law_odd, ↓ix_tupD, Int.reduceToNat, List.getElem?_cons_succ, List.getElem?_cons_zero, Option.some.injEq, exists_eq_left', ↓cel_new, ↓dVar_4, ↓c_lenD, Bool.true_and, ↓get_a0, lnC_l, ↓c_len, ↓nextA_eq, isR_app, lcR_l, ↓x_tAndD, Bool.false_eq_true, if_false, ↓c_wD, wdC_l, ↓set_a0, tk_a0, ↓fg_cons, ↓fg_nil, ↓c_ix, ↓x_dBM, ↓c_isL, ↓dVar_5, ↓c_app, lcK_l, nlt_h, ↓x_oTuple, ↓c_sqK, ↓tk_a0, ↓dVar_6, ↓x_gSb, ↓c_set, ↓revK_c, ↓c_mul, ile_h, ↓c_sl, ↓cel_dat, lcR_f, ↓sqK_lst, ↓dVar_7, List.length_set])
local macro_rules | `(tactic| walk_at "dx25") => `(tactic| simp (disch := first | assumption | omega) only [List.map_cons, List.map_nil, ↓exitQ_dat, startD, List.length_cons, List.length_nil, Nat.zero_add, Nat.reduceAdd, Nat.reduceSub, List.replicate.eq_2, List.replicate, List.cons_append, List.nil_append, ↓x_dStl, ↓x_dLst, ↓x_aCons, ↓x_dFrz, ↓x_dCB, ↓dVar_0, ↓old_exc, ↓x_dRaw, ↓x_aNil, ↓wDs_cons, ↓wDs_nil, nle_h, ↓stl_new, ↓nN_dat, List.set_cons_succ, List.set_cons_zero, true_and, kd_NoDrawing_NoSize, ↓wD_dat, kd_NoDrawing_NoTurn, kd_NoDrawing_NoTie, kd_NoDrawing_NoDrawing, ↓x_dOp, ↓dVar_1, ↓old_dat, ↓add_ln, kd_NoDrawing_NoOrder, kd_NoDrawing_NoWeight, kd_NoDrawing_NoPart, kd_NoDrawing_NoSpot, ↓kd_NoDrawing_NoBytes, kd_NoDrawing_NoWord, kd_NoDrawing_TooMany, kd_NoDrawing_NoDeed, kd_NoDrawing_OnShut, kd_NoDrawing_Overlap, kd_NoDrawing_OffFloor, kd_NoDrawing_NoText, kd_NoDrawing_NoWay, kd_NoDrawing_TooNear, ↓x_lc, ↓x_iRange1, ↓lnD_lst, ↓rng1_i, ile_h, and_true, ↓x_dC, ↓x_dNotV, ↓int_b, ↓mul_ni, kd_NoDrawing_ValueError, ↓wB_b, Bool.not_true, Bool.false_eq_true, if_false, Int.reduceToNat, List.replicate.eq_1, List.flatten_nil, Int.toNat_natCast, ↓x_gNm, ↓x_tVal, wipeD, dVar_2, dVar_1, ↓ix_lstD, at_nn, ↓tk_0, ↓add_nn, ↓exitQ_new, List.append_nil])
section
variable {K : PySem.W.Frag} {mg : Str → Option Value} {D : Addr → Prop} {μ : Mu} {q : PQ}
theorem ki_NoDrawing_NoBytes (T : Top K mg) : PySem.W.kitOne K (.ref T.c_NoDrawing) (.ref T.c_NoBytes) = some false := kit_ref T.ne_NoDrawing_NoBytes T.hd_NoBytes T.xt_NoBytes T.sb_NoDrawing_NoBytes
theorem ki_NoDrawing_NoDeed (T : Top K mg) : PySem.W.kitOne K (.ref T.c_NoDrawing) (.ref T.c_NoDeed) = some false := kit_ref T.ne_NoDrawing_NoDeed T.hd_NoDeed T.xt_NoDeed T.sb_NoDrawing_NoDeed
theorem ki_NoDrawing_NoDrawing (T : Top K mg) : PySem.W.kitOne K (.ref T.c_NoDrawing) (.ref T.c_NoDrawing) = some true := kit_self
theorem ki_NoDrawing_NoOrder (T : Top K mg) : PySem.W.kitOne K (.ref T.c_NoDrawing) (.ref T.c_NoOrder) = some false := kit_ref T.ne_NoDrawing_NoOrder T.hd_NoOrder T.xt_NoOrder T.sb_NoDrawing_NoOrder
theorem ki_NoDrawing_NoPart (T : Top K mg) : PySem.W.kitOne K (.ref T.c_NoDrawing) (.ref T.c_NoPart) = some false := kit_ref T.ne_NoDrawing_NoPart T.hd_NoPart T.xt_NoPart T.sb_NoDrawing_NoPart
theorem ki_NoDrawing_NoSize (T : Top K mg) : PySem.W.kitOne K (.ref T.c_NoDrawing) (.ref T.c_NoSize) = some false := kit_ref T.ne_NoDrawing_NoSize T.hd_NoSize T.xt_NoSize T.sb_NoDrawing_NoSize
theorem ki_NoDrawing_NoSpot (T : Top K mg) : PySem.W.kitOne K (.ref T.c_NoDrawing) (.ref T.c_NoSpot) = some false := kit_ref T.ne_NoDrawing_NoSpot T.hd_NoSpot T.xt_NoSpot T.sb_NoDrawing_NoSpot
theorem ki_NoDrawing_NoText (T : Top K mg) : PySem.W.kitOne K (.ref T.c_NoDrawing) (.ref T.c_NoText) = some false := kit_ref T.ne_NoDrawing_NoText T.hd_NoText T.xt_NoText T.sb_NoDrawing_NoText
theorem ki_NoDrawing_NoTie (T : Top K mg) : PySem.W.kitOne K (.ref T.c_NoDrawing) (.ref T.c_NoTie) = some false := kit_ref T.ne_NoDrawing_NoTie T.hd_NoTie T.xt_NoTie T.sb_NoDrawing_NoTie
theorem ki_NoDrawing_NoTurn (T : Top K mg) : PySem.W.kitOne K (.ref T.c_NoDrawing) (.ref T.c_NoTurn) = some false := kit_ref T.ne_NoDrawing_NoTurn T.hd_NoTurn T.xt_NoTurn T.sb_NoDrawing_NoTurn
theorem ki_NoDrawing_NoWay (T : Top K mg) : PySem.W.kitOne K (.ref T.c_NoDrawing) (.ref T.c_NoWay) = some false := kit_ref T.ne_NoDrawing_NoWay T.hd_NoWay T.xt_NoWay T.sb_NoDrawing_NoWay
theorem ki_NoDrawing_NoWeight (T : Top K mg) : PySem.W.kitOne K (.ref T.c_NoDrawing) (.ref T.c_NoWeight) = some false := kit_ref T.ne_NoDrawing_NoWeight T.hd_NoWeight T.xt_NoWeight T.sb_NoDrawing_NoWeight
theorem ki_NoDrawing_NoWord (T : Top K mg) : PySem.W.kitOne K (.ref T.c_NoDrawing) (.ref T.c_NoWord) = some false := kit_ref T.ne_NoDrawing_NoWord T.hd_NoWord T.xt_NoWord T.sb_NoDrawing_NoWord
theorem ki_NoDrawing_OffFloor (T : Top K mg) : PySem.W.kitOne K (.ref T.c_NoDrawing) (.ref T.c_OffFloor) = some false := kit_ref T.ne_NoDrawing_OffFloor T.hd_OffFloor T.xt_OffFloor T.sb_NoDrawing_OffFloor
theorem ki_NoDrawing_OnShut (T : Top K mg) : PySem.W.kitOne K (.ref T.c_NoDrawing) (.ref T.c_OnShut) = some false := kit_ref T.ne_NoDrawing_OnShut T.hd_OnShut T.xt_OnShut T.sb_NoDrawing_OnShut
theorem ki_NoDrawing_Overlap (T : Top K mg) : PySem.W.kitOne K (.ref T.c_NoDrawing) (.ref T.c_Overlap) = some false := kit_ref T.ne_NoDrawing_Overlap T.hd_Overlap T.xt_Overlap T.sb_NoDrawing_Overlap
theorem ki_NoDrawing_TooMany (T : Top K mg) : PySem.W.kitOne K (.ref T.c_NoDrawing) (.ref T.c_TooMany) = some false := kit_ref T.ne_NoDrawing_TooMany T.hd_TooMany T.xt_TooMany T.sb_NoDrawing_TooMany
theorem ki_NoDrawing_TooNear (T : Top K mg) : PySem.W.kitOne K (.ref T.c_NoDrawing) (.ref T.c_TooNear) = some false := kit_ref T.ne_NoDrawing_TooNear T.hd_TooNear T.xt_TooNear T.sb_NoDrawing_TooNear
theorem ki_NoDrawing_ValueError (T : Top K mg) : PySem.W.kitOne K (.ref T.c_NoDrawing) (.type "ValueError") = some true := kit_typ (by decide +kernel) (by intro h; cases h) T.sb_NoDrawing_ValueError
theorem em_NoDrawing_BoardError (T : Top K mg) : PySem.W.exmOne K (.ref T.c_NoDrawing) (.ref T.c_BoardError) = some true := PySem.W.exm_ref T.xb_BoardError T.hd_BoardError T.xt_BoardError T.sb_NoDrawing_BoardError
theorem kd_NoDrawing_NoBytes (T : Top K mg) {fs : Option (List (Str × PyData))} : oIsK K D [.exc ⟨T.c_NoDrawing, fs⟩, .raw (.ref T.c_NoBytes)] μ q = q (.dat (.bool false)) μ := isK_mk T.xe_NoDrawing rel_ref rfl (ki_NoDrawing_NoBytes T)
theorem kd_NoDrawing_NoDeed (T : Top K mg) {fs : Option (List (Str × PyData))} : oIsK K D [.exc ⟨T.c_NoDrawing, fs⟩, .raw (.ref T.c_NoDeed)] μ q = q (.dat (.bool false)) μ := isK_mk T.xe_NoDrawing rel_ref rfl (ki_NoDrawing_NoDeed T)
theorem kd_NoDrawing_NoDrawing (T : Top K mg) {fs : Option (List (Str × PyData))} : oIsK K D [.exc ⟨T.c_NoDrawing, fs⟩, .raw (.ref T.c_NoDrawing)] μ q = q (.dat (.bool true)) μ := isK_mk T.xe_NoDrawing rel_ref rfl (ki_NoDrawing_NoDrawing T)
theorem kd_NoDrawing_NoOrder (T : Top K mg) {fs : Option (List (Str × PyData))} : oIsK K D [.exc ⟨T.c_NoDrawing, fs⟩, .raw (.ref T.c_NoOrder)] μ q = q (.dat (.bool false)) μ := isK_mk T.xe_NoDrawing rel_ref rfl (ki_NoDrawing_NoOrder T)
theorem kd_NoDrawing_NoPart (T : Top K mg) {fs : Option (List (Str × PyData))} : oIsK K D [.exc ⟨T.c_NoDrawing, fs⟩, .raw (.ref T.c_NoPart)] μ q = q (.dat (.bool false)) μ := isK_mk T.xe_NoDrawing rel_ref rfl (ki_NoDrawing_NoPart T)
theorem kd_NoDrawing_NoSize (T : Top K mg) {fs : Option (List (Str × PyData))} : oIsK K D [.exc ⟨T.c_NoDrawing, fs⟩, .raw (.ref T.c_NoSize)] μ q = q (.dat (.bool false)) μ := isK_mk T.xe_NoDrawing rel_ref rfl (ki_NoDrawing_NoSize T)
theorem kd_NoDrawing_NoSpot (T : Top K mg) {fs : Option (List (Str × PyData))} : oIsK K D [.exc ⟨T.c_NoDrawing, fs⟩, .raw (.ref T.c_NoSpot)] μ q = q (.dat (.bool false)) μ := isK_mk T.xe_NoDrawing rel_ref rfl (ki_NoDrawing_NoSpot T)
theorem kd_NoDrawing_NoText (T : Top K mg) {fs : Option (List (Str × PyData))} : oIsK K D [.exc ⟨T.c_NoDrawing, fs⟩, .raw (.ref T.c_NoText)] μ q = q (.dat (.bool false)) μ := isK_mk T.xe_NoDrawing rel_ref rfl (ki_NoDrawing_NoText T)
theorem kd_NoDrawing_NoTie (T : Top K mg) {fs : Option (List (Str × PyData))} : oIsK K D [.exc ⟨T.c_NoDrawing, fs⟩, .raw (.ref T.c_NoTie)] μ q = q (.dat (.bool false)) μ := isK_mk T.xe_NoDrawing rel_ref rfl (ki_NoDrawing_NoTie T)
theorem kd_NoDrawing_NoTurn (T : Top K mg) {fs : Option (List (Str × PyData))} : oIsK K D [.exc ⟨T.c_NoDrawing, fs⟩, .raw (.ref T.c_NoTurn)] μ q = q (.dat (.bool false)) μ := isK_mk T.xe_NoDrawing rel_ref rfl (ki_NoDrawing_NoTurn T)
theorem kd_NoDrawing_NoWay (T : Top K mg) {fs : Option (List (Str × PyData))} : oIsK K D [.exc ⟨T.c_NoDrawing, fs⟩, .raw (.ref T.c_NoWay)] μ q = q (.dat (.bool false)) μ := isK_mk T.xe_NoDrawing rel_ref rfl (ki_NoDrawing_NoWay T)
theorem kd_NoDrawing_NoWeight (T : Top K mg) {fs : Option (List (Str × PyData))} : oIsK K D [.exc ⟨T.c_NoDrawing, fs⟩, .raw (.ref T.c_NoWeight)] μ q = q (.dat (.bool false)) μ := isK_mk T.xe_NoDrawing rel_ref rfl (ki_NoDrawing_NoWeight T)
theorem kd_NoDrawing_NoWord (T : Top K mg) {fs : Option (List (Str × PyData))} : oIsK K D [.exc ⟨T.c_NoDrawing, fs⟩, .raw (.ref T.c_NoWord)] μ q = q (.dat (.bool false)) μ := isK_mk T.xe_NoDrawing rel_ref rfl (ki_NoDrawing_NoWord T)
theorem kd_NoDrawing_OffFloor (T : Top K mg) {fs : Option (List (Str × PyData))} : oIsK K D [.exc ⟨T.c_NoDrawing, fs⟩, .raw (.ref T.c_OffFloor)] μ q = q (.dat (.bool false)) μ := isK_mk T.xe_NoDrawing rel_ref rfl (ki_NoDrawing_OffFloor T)
theorem kd_NoDrawing_OnShut (T : Top K mg) {fs : Option (List (Str × PyData))} : oIsK K D [.exc ⟨T.c_NoDrawing, fs⟩, .raw (.ref T.c_OnShut)] μ q = q (.dat (.bool false)) μ := isK_mk T.xe_NoDrawing rel_ref rfl (ki_NoDrawing_OnShut T)
theorem kd_NoDrawing_Overlap (T : Top K mg) {fs : Option (List (Str × PyData))} : oIsK K D [.exc ⟨T.c_NoDrawing, fs⟩, .raw (.ref T.c_Overlap)] μ q = q (.dat (.bool false)) μ := isK_mk T.xe_NoDrawing rel_ref rfl (ki_NoDrawing_Overlap T)
theorem kd_NoDrawing_TooMany (T : Top K mg) {fs : Option (List (Str × PyData))} : oIsK K D [.exc ⟨T.c_NoDrawing, fs⟩, .raw (.ref T.c_TooMany)] μ q = q (.dat (.bool false)) μ := isK_mk T.xe_NoDrawing rel_ref rfl (ki_NoDrawing_TooMany T)
theorem kd_NoDrawing_TooNear (T : Top K mg) {fs : Option (List (Str × PyData))} : oIsK K D [.exc ⟨T.c_NoDrawing, fs⟩, .raw (.ref T.c_TooNear)] μ q = q (.dat (.bool false)) μ := isK_mk T.xe_NoDrawing rel_ref rfl (ki_NoDrawing_TooNear T)
theorem kd_NoDrawing_ValueError (T : Top K mg) {fs : Option (List (Str × PyData))} : oIsK K D [.exc ⟨T.c_NoDrawing, fs⟩, .raw (.ty "ValueError")] μ q = q (.dat (.bool true)) μ := isK_mk T.xe_NoDrawing rel_ty rfl (ki_NoDrawing_ValueError T)
end
local macro_rules | `(tactic| walk_at "dx26") => `(tactic| simp (disch := first | assumption | omega) only [List.map_cons, List.map_nil, ↓exitQ_dat, startD, List.length_cons, List.length_nil, Nat.zero_add, Nat.reduceAdd, Nat.reduceSub, List.replicate.eq_2, List.replicate, List.cons_append, List.nil_append, ↓x_dStl, ↓x_dLst, ↓x_aCons, ↓x_dFrz, ↓x_dCB, ↓dVar_0, ↓old_exc, ↓x_dRaw, ↓x_aNil, ↓wDs_cons, ↓wDs_nil, nle_h, ↓stl_new, ↓nN_dat, List.set_cons_succ, List.set_cons_zero, true_and, kd_NoDrawing_NoSize, ↓wD_dat, kd_NoDrawing_NoTurn, kd_NoDrawing_NoTie, kd_NoDrawing_NoDrawing, ↓x_dOp, ↓dVar_1, ↓old_dat, ↓add_ln, kd_NoDrawing_NoOrder, kd_NoDrawing_NoWeight, kd_NoDrawing_NoPart, kd_NoDrawing_NoSpot, ↓kd_NoDrawing_NoBytes, kd_NoDrawing_NoWord, kd_NoDrawing_TooMany, kd_NoDrawing_NoDeed, kd_NoDrawing_OnShut, kd_NoDrawing_Overlap, kd_NoDrawing_OffFloor, kd_NoDrawing_NoText, kd_NoDrawing_NoWay, kd_NoDrawing_TooNear, ↓x_lc, ↓x_iRange1, ↓lnD_lst, ↓rng1_i, ile_h, and_true, ↓x_dC, ↓x_dNotV, ↓int_b, ↓mul_ni, kd_NoDrawing_ValueError, ↓wB_b, Bool.not_true, Bool.false_eq_true, if_false, Int.reduceToNat, List.replicate.eq_1, List.flatten_nil, Int.toNat_natCast, ↓x_gNm, ↓x_tVal, wipeD, dVar_2, dVar_1, ↓ix_lstD, at_nn, ↓tk_0, ↓add_nn, ↓exitQ_new, List.append_nil])
theorem kl_at (bs : List Bool) (a : Nat) (h : a < bs.length) : (bs.map PyData.bool)[(0 + (a : Int)).toNat]? = some (.bool ((bs[a]?).getD false)) := by
  rw [show (0 + (a : Int)).toNat = a by omega, List.getElem?_map, List.getElem?_eq_getElem h]
  rfl
def sp_law_kinds (T : Top K mg) : SpD := fun es μ q x => es = [.exc ⟨T.c_NoDrawing, none⟩] ∧ (q (.new [.int 0]) μ)
theorem e_law_kinds (T : Top K mg)  {μ : Mu} {q : PQ} {x : XQ} : sp_law_kinds T [.exc ⟨T.c_NoDrawing, none⟩] μ q x = (q (.new [.int 0]) μ) := by
  refine propext ⟨fun hyp0 => ?_, fun hyp0 => ⟨rfl, hyp0⟩⟩
  exact hyp0.2
theorem ok_law_kinds (T : Top K mg) : DefAt P w K mg base "_law_kinds" 1 ["_law_e"] [] [] (sp_law_kinds T) := by
  refine def_ok (sp_law_kinds T) T.F_law_kinds sc_law_kinds T.m_law_kinds T.b_law_kinds (fun cdv A outer s H E hr tk pw => (dss_cons (ds_set (i := 1) sc_law_kinds.nd rfl (by first | exact Or.inl rfl | exact Or.inr rfl) (de_stl (de_lst (da_cons (de_frz (de_callB call_isK (cs_isK (K := K) (D := fun _ => True)) (by rfl) T.n_isinstance bb_isinstance (da_cons (dv 0) (da_cons (de_gcls T.gx_NoDrawing) da_nil)))) (da_cons (de_frz (de_callB call_isK (cs_isK (K := K) (D := fun _ => True)) (by rfl) T.n_isinstance bb_isinstance (da_cons (dv 0) (da_cons (de_gcls T.gx_NoTie) da_nil)))) (da_cons (de_frz (de_callB call_isK (cs_isK (K := K) (D := fun _ => True)) (by rfl) T.n_isinstance bb_isinstance (da_cons (dv 0) (da_cons (de_gcls T.gx_NoTurn) da_nil)))) (da_cons (de_frz (de_callB call_isK (cs_isK (K := K) (D := fun _ => True)) (by rfl) T.n_isinstance bb_isinstance (da_cons (dv 0) (da_cons (de_gcls T.gx_NoSize) da_nil)))) da_nil)))))))
    (dss_cons (ds_set (i := 1) sc_law_kinds.nd rfl (by first | exact Or.inl rfl | exact Or.inr rfl) (de_stl (de_op opA_add os_add (dv 1) (de_lst (da_cons (de_frz (de_callB call_isK (cs_isK (K := K) (D := fun _ => True)) (by rfl) T.n_isinstance bb_isinstance (da_cons (dv 0) (da_cons (de_gcls T.gx_NoSpot) da_nil)))) (da_cons (de_frz (de_callB call_isK (cs_isK (K := K) (D := fun _ => True)) (by rfl) T.n_isinstance bb_isinstance (da_cons (dv 0) (da_cons (de_gcls T.gx_NoPart) da_nil)))) (da_cons (de_frz (de_callB call_isK (cs_isK (K := K) (D := fun _ => True)) (by rfl) T.n_isinstance bb_isinstance (da_cons (dv 0) (da_cons (de_gcls T.gx_NoWeight) da_nil)))) (da_cons (de_frz (de_callB call_isK (cs_isK (K := K) (D := fun _ => True)) (by rfl) T.n_isinstance bb_isinstance (da_cons (dv 0) (da_cons (de_gcls T.gx_NoOrder) da_nil)))) da_nil))))))))
    (dss_cons (ds_set (i := 1) sc_law_kinds.nd rfl (by first | exact Or.inl rfl | exact Or.inr rfl) (de_stl (de_op opA_add os_add (dv 1) (de_lst (da_cons (de_frz (de_callB call_isK (cs_isK (K := K) (D := fun _ => True)) (by rfl) T.n_isinstance bb_isinstance (da_cons (dv 0) (da_cons (de_gcls T.gx_NoDeed) da_nil)))) (da_cons (de_frz (de_callB call_isK (cs_isK (K := K) (D := fun _ => True)) (by rfl) T.n_isinstance bb_isinstance (da_cons (dv 0) (da_cons (de_gcls T.gx_NoBytes) da_nil)))) (da_cons (de_frz (de_callB call_isK (cs_isK (K := K) (D := fun _ => True)) (by rfl) T.n_isinstance bb_isinstance (da_cons (dv 0) (da_cons (de_gcls T.gx_TooMany) da_nil)))) (da_cons (de_frz (de_callB call_isK (cs_isK (K := K) (D := fun _ => True)) (by rfl) T.n_isinstance bb_isinstance (da_cons (dv 0) (da_cons (de_gcls T.gx_NoWord) da_nil)))) da_nil))))))))
    (dss_cons (ds_set (i := 1) sc_law_kinds.nd rfl (by first | exact Or.inl rfl | exact Or.inr rfl) (de_stl (de_op opA_add os_add (dv 1) (de_lst (da_cons (de_frz (de_callB call_isK (cs_isK (K := K) (D := fun _ => True)) (by rfl) T.n_isinstance bb_isinstance (da_cons (dv 0) (da_cons (de_gcls T.gx_NoText) da_nil)))) (da_cons (de_frz (de_callB call_isK (cs_isK (K := K) (D := fun _ => True)) (by rfl) T.n_isinstance bb_isinstance (da_cons (dv 0) (da_cons (de_gcls T.gx_OffFloor) da_nil)))) (da_cons (de_frz (de_callB call_isK (cs_isK (K := K) (D := fun _ => True)) (by rfl) T.n_isinstance bb_isinstance (da_cons (dv 0) (da_cons (de_gcls T.gx_Overlap) da_nil)))) (da_cons (de_frz (de_callB call_isK (cs_isK (K := K) (D := fun _ => True)) (by rfl) T.n_isinstance bb_isinstance (da_cons (dv 0) (da_cons (de_gcls T.gx_OnShut) da_nil)))) da_nil))))))))
    (dss_cons (ds_set (i := 1) sc_law_kinds.nd rfl (by first | exact Or.inl rfl | exact Or.inr rfl) (de_stl (de_op opA_add os_add (dv 1) (de_lst (da_cons (de_frz (de_callB call_isK (cs_isK (K := K) (D := fun _ => True)) (by rfl) T.n_isinstance bb_isinstance (da_cons (dv 0) (da_cons (de_gcls T.gx_TooNear) da_nil)))) (da_cons (de_frz (de_callB call_isK (cs_isK (K := K) (D := fun _ => True)) (by rfl) T.n_isinstance bb_isinstance (da_cons (dv 0) (da_cons (de_gcls T.gx_NoWay) da_nil)))) da_nil))))))
    (dss_one (ds_ret (de_op opA_add os_add (de_lc (own := [("_law_k", 2)]) rfl sc_law_kinds.nd (di_range1 (by rfl) T.n_range (da_cons (de_callB call_lenA cs_lenD (by rfl) T.n_len bb_len (da_cons (dv 1) da_nil)) da_nil)) (blkOk_by (N := ["_law_e", "_law_some", "_law_k"]) (sc := (defScope s_law_kinds)) (by decide +kernel)) (by decide) (fun _ _ _ _ _ => (dg_name (i := 2) sc_law_kinds.nd rfl (by first | exact Or.inl rfl | exact Or.inr rfl))) (fun _ _ _ _ _ => (dts_one (dt_val (de_ix ix_seq os_ix (dv 1) (dv 2) (fun _ _ => rfl))))) (fun _ _ _ _ _ => (dv 2))) (de_op opA_mul os_mul (de_lst (da_cons de_int da_nil)) (de_callTy call_int1 cs_int (by rfl) T.n_int bt_int (da_cons (de_not (de_callB call_isK (cs_isK (K := K) (D := fun _ => True)) (by rfl) T.n_isinstance bb_isinstance (da_cons (dv 0) (da_cons (de_ty T.n_ValueError bt_ValueError) da_nil)))) da_nil)))))))))))) ?_
  rintro es μ q x - ⟨rfl, h⟩
  ((try walk_at "dx26"); repeat (walk_at "one" <;> (try walk_at "dx26")))
  (try walk_at "ok")
  (try walk_at "dx26")
  refine lc_rngF (p := fun a => ([true, false, false, false, false, false, false, false, false, false, false, false, false, false, false, false, false, false][a]?).getD false) (f := ?f) (by decide) trivial (fun a K K' ha hK => ?e) ?_
  case e =>
    (try walk_at "dx26")
    refine ⟨_, (kl_at [true, false, false, false, false, false, false, false, false, false, false, false, false, false, false, false, false, false] a ha), ?_⟩
    (try walk_at "dx26")
    exact hK
  rw [show (List.range 18).filter (fun a => ([true, false, false, false, false, false, false, false, false, false, false, false, false, false, false, false, false, false][a]?).getD false) = [0] from by decide]
  (try walk_at "dx26")
  exact h
local macro_rules | `(tactic| walk_at "dx27") => `(tactic| simp (disch := first | assumption | omega) only [List.map_cons, List.map_nil, ↓exitQ_dat, startD, List.length_cons, List.length_nil, Nat.zero_add, Nat.reduceAdd, Nat.reduceSub, List.replicate.eq_2, List.replicate, List.cons_append, List.nil_append, ↓x_dStl, ↓x_dLst, ↓x_aCons, ↓x_dFrz, ↓x_dCB, ↓dVar_0, ↓old_exc, ↓x_dRaw, ↓x_aNil, ↓wDs_cons, ↓wDs_nil, nle_h, ↓stl_new, ↓nN_dat, List.set_cons_succ, List.set_cons_zero, true_and, kd_NoDrawing_NoSize, ↓wD_dat, kd_NoDrawing_NoTurn, kd_NoDrawing_NoTie, kd_NoDrawing_NoDrawing, ↓x_dOp, ↓dVar_1, ↓old_dat, ↓add_ln, kd_NoDrawing_NoOrder, kd_NoDrawing_NoWeight, kd_NoDrawing_NoPart, kd_NoDrawing_NoSpot, ↓kd_NoDrawing_NoBytes, kd_NoDrawing_NoWord, kd_NoDrawing_TooMany, kd_NoDrawing_NoDeed, kd_NoDrawing_OnShut, kd_NoDrawing_Overlap, kd_NoDrawing_OffFloor, kd_NoDrawing_NoText, kd_NoDrawing_NoWay, kd_NoDrawing_TooNear, ↓x_lc, ↓x_iRange1, ↓lnD_lst, ↓rng1_i, ile_h, and_true, ↓x_dC, ↓x_dNotV, ↓int_b, ↓mul_ni, kd_NoDrawing_ValueError, ↓wB_b, Bool.not_true, Bool.false_eq_true, if_false, Int.reduceToNat, List.replicate.eq_1, List.flatten_nil, Int.toNat_natCast, ↓x_gNm, ↓x_tVal, wipeD, dVar_2, dVar_1, ↓ix_lstD, at_nn, ↓tk_0, ↓add_nn, ↓exitQ_new, List.append_nil])
local macro_rules | `(tactic| walk_at "dx28") => `(tactic| simp (disch := first | assumption | omega) only [List.map_cons, List.map_nil, ↓exitQ_dat, startD, List.length_cons, List.length_nil, Nat.zero_add, Nat.reduceAdd, Nat.reduceSub, List.replicate.eq_2, List.replicate, List.cons_append, List.nil_append, ↓x_dStl, ↓x_dLst, ↓x_aCons, ↓x_dFrz, ↓x_dCB, ↓dVar_0, ↓old_exc, ↓x_dRaw, ↓x_aNil, ↓wDs_cons, ↓wDs_nil, nle_h, ↓stl_new, ↓nN_dat, List.set_cons_succ, List.set_cons_zero, true_and, kd_NoDrawing_NoSize, ↓wD_dat, kd_NoDrawing_NoTurn, kd_NoDrawing_NoTie, kd_NoDrawing_NoDrawing, ↓x_dOp, ↓dVar_1, ↓old_dat, ↓add_ln, kd_NoDrawing_NoOrder, kd_NoDrawing_NoWeight, kd_NoDrawing_NoPart, kd_NoDrawing_NoSpot, ↓kd_NoDrawing_NoBytes, kd_NoDrawing_NoWord, kd_NoDrawing_TooMany, kd_NoDrawing_NoDeed, kd_NoDrawing_OnShut, kd_NoDrawing_Overlap, kd_NoDrawing_OffFloor, kd_NoDrawing_NoText, kd_NoDrawing_NoWay, kd_NoDrawing_TooNear, ↓x_lc, ↓x_iRange1, ↓lnD_lst, ↓rng1_i, ile_h, and_true, ↓x_dC, ↓x_dNotV, ↓int_b, ↓mul_ni, kd_NoDrawing_ValueError, ↓wB_b, Bool.not_true, Bool.false_eq_true, if_false, Int.reduceToNat, List.replicate.eq_1, List.flatten_nil, Int.toNat_natCast, ↓x_gNm, ↓x_tVal, wipeD, dVar_2, dVar_1, ↓ix_lstD, at_nn, ↓tk_0, ↓add_nn, ↓exitQ_new, List.append_nil])
local macro_rules | `(tactic| walk_at "dx29") => `(tactic| simp (disch := first | assumption | omega) only [List.length_cons, List.length_nil, Nat.zero_add, ↓exitQ_dat, startD, List.map_cons, List.map_nil, Nat.reduceAdd, Nat.reduceSub, List.replicate.eq_2, List.replicate, List.cons_append, List.nil_append, ↓x_dC, ↓nN_dat, List.set_cons_succ, List.set_cons_zero, true_and, ↓x_dStl, ↓x_dCall, ↓x_aCons, ↓dVar_0, ↓old_dat, ↓stl_dat, ↓x_aNil, ↓aO_cons, ↓aO_nil, Bool.and_true, List.append_nil, ↓e_drawing_of, ↓tk_0, ↓x_dLst, ↓wDs_nil, nle_h, ↓stl_new, ↓x_tVal, ↓x_dOp, ↓dVar_2, ↓x_oNotN, isRaw, DL.isNon, ↓wB_b, Bool.not_true, Bool.false_eq_true, if_false, ↓x_dFrz, ↓dVar_1, ↓wD_dat, ↓dVar_4, ↓wDs_cons, ↓exitQ_new, ↓dVar_3, ↓old_exc, ↓stl_exc, ↓nN_exc, Bool.not_false, if_true, ↓e_law_kinds])
theorem IsDr.uniq {d : PyData} {a b : Bool} (h : IsDr d a) (k : IsDr d b) : a = b := by
  cases h with
  | no h => cases k with
    | no _ => rfl
    | yes e h1 h2 h3 h4 h5 h6 => exact absurd ⟨_, _, _, _, e, h1, h2, h3, h4, h5, h6⟩ h
  | yes e h1 h2 h3 h4 h5 h6 => cases k with
    | no k => exact absurd ⟨_, _, _, _, e, h1, h2, h3, h4, h5, h6⟩ k
    | yes _ _ _ _ _ _ _ => rfl
def dueD (b : Bool) (d : PyData) : List PyData := if b = true then [d, .list []] else [.none, .list [.int 0]]
theorem dueD_t {d : PyData} : dueD true d = [d, .list []] := rfl
theorem dueD_f {d : PyData} : dueD false d = [.none, .list [.int 0]] := rfl
def sp_law_tried (T : Top K mg) : SpD := fun es μ q x => ∃ (d : PyData), es = [.dat d] ∧ (Fit d ∧ ∀ b, IsDr d b → q (.new (dueD b d)) μ)
theorem e_law_tried (T : Top K mg) {d : PyData} {μ : Mu} {q : PQ} {x : XQ} : sp_law_tried T [.dat d] μ q x = (Fit d ∧ ∀ b, IsDr d b → q (.new (dueD b d)) μ) := by
  refine propext ⟨fun hyp0 => ?_, fun hyp0 => ⟨d, rfl, hyp0⟩⟩
  obtain ⟨d', eq0, hyp0⟩ := hyp0
  simp only [List.cons.injEq, Exn.mk.injEq, EV.at.injEq, eq_self, EV.dat.injEq, EV.loc.injEq, EV.new.injEq, EV.ro.injEq, EV.exc.injEq, EV.per.injEq, PyData.int.injEq, PyData.str.injEq, PyData.bool.injEq, PyData.list.injEq, PyData.tuple.injEq, and_true, true_and, and_assoc, map_int_inj, ] at eq0
  subst eq0
  exact hyp0
theorem ok_law_tried (T : Top K mg) : DefAt P w K mg base "_law_tried" 5 ["_law_thing"] [] [] (sp_law_tried T) := by
  refine def_ok (sp_law_tried T) T.F_law_tried sc_law_tried T.m_law_tried T.b_law_tried (fun cdv A outer s H E hr tk pw => (dss_cons (ds_set (i := 1) sc_law_tried.nd rfl (by first | exact Or.inl rfl | exact Or.inr rfl) de_non)
    (dss_cons (ds_set (i := 2) sc_law_tried.nd rfl (by first | exact Or.inl rfl | exact Or.inr rfl) de_non)
    (dss_cons (ds_tryK (K := K) rfl (i := 3) rfl rfl sc_law_tried.nd rfl rfl ⟨by rfl, by decide, .inl T.gx_BoardError⟩ tk (fun W pn xe tk po => (dsx_set (i := 1) sc_law_tried.nd rfl (by first | exact Or.inl rfl | exact Or.inr rfl) (de_stl (de_call (ok_drawing_of T) hr (by decide) (by rfl) tk (fun _ _ => .nil) (da_cons (de_stl (dv 0)) da_nil))))) (fun a pn => (dss_one (ds_set (i := 2) sc_law_tried.nd rfl (by first | exact Or.inl rfl | exact Or.inr rfl) (de_stl (dv 3))))))
    (dss_cons (ds_set (i := 4) sc_law_tried.nd rfl (by first | exact Or.inl rfl | exact Or.inr rfl) (de_stl (de_lst da_nil)))
    (dss_cons (ds_if (dt_cmp op_notN os_notN (dv 2) de_non (nomark _)) (dss_one (ds_set (i := 4) sc_law_tried.nd rfl (by first | exact Or.inl rfl | exact Or.inr rfl) (de_stl (de_call (ok_law_kinds T) hr (by decide) (by rfl) tk (fun _ _ => .nil) (da_cons (de_stl (dv 2)) da_nil))))) dss_nil)
    (dss_one (ds_ret (de_lst (da_cons (de_frz (dv 1)) (da_cons (de_frz (dv 4)) da_nil))))))))))) ?_
  rintro es μ q x - ⟨d, rfl, F, h⟩
  ((try walk_at "dx29"); repeat (walk_at "one" <;> (try walk_at "dx29")))
  refine ⟨F, fun b hb => ?_⟩
  have h' := h b hb
  cases b with
  | true =>
    rw [if_pos rfl]
    ((try walk_at "dx29"); repeat (walk_at "one" <;> (try walk_at "dx29")))
    exact h'
  | false =>
    rw [if_neg (by simp)]
    refine ⟨true, em_NoDrawing_BoardError T, fun _ => ?_, fun z => by cases z⟩
    ((try walk_at "dx29"); repeat (walk_at "one" <;> (try walk_at "dx29")))
    exact h'
local macro_rules | `(tactic| walk_at "dx30") => `(tactic| simp (disch := first | assumption | omega) only [List.length_cons, List.length_nil, Nat.zero_add, ↓exitQ_dat, startD, List.map_cons, List.map_nil, Nat.reduceAdd, Nat.reduceSub, List.replicate.eq_2, List.replicate, List.cons_append, List.nil_append, ↓x_dC, ↓nN_dat, List.set_cons_succ, List.set_cons_zero, true_and, ↓x_dStl, ↓x_dCall, ↓x_aCons, ↓dVar_0, ↓old_dat, ↓stl_dat, ↓x_aNil, ↓aO_cons, ↓aO_nil, Bool.and_true, List.append_nil, ↓e_drawing_of, ↓tk_0, ↓x_dLst, ↓wDs_nil, nle_h, ↓stl_new, ↓x_tVal, ↓x_dOp, ↓dVar_2, ↓x_oNotN, isRaw, DL.isNon, ↓wB_b, Bool.not_true, Bool.false_eq_true, if_false, ↓x_dFrz, ↓dVar_1, ↓wD_dat, ↓dVar_4, ↓wDs_cons, ↓exitQ_new, ↓dVar_3, ↓old_exc, ↓stl_exc, ↓nN_exc, Bool.not_false, if_true, ↓e_law_kinds])
local macro_rules | `(tactic| walk_at "dx31") => `(tactic| simp (disch := first | assumption | omega) only [List.length_cons, List.length_nil, Nat.zero_add, Nat.reduceAdd, ↓exitQ_dat, startD, List.map_cons, List.map_nil, Nat.reduceSub, List.replicate.eq_2, List.replicate, List.cons_append, List.nil_append, ↓x_iRange1, ↓x_aCons, ↓x_dCB, ↓x_dC, ↓dVar_0, ↓old_ro, ↓x_aNil, ↓lnD_ro, ↓min_ii, ↓max_ii, ↓rng1_i, List.length_map, ile_h, and_true, true_and, ↓x_gNm, ↓nN_dat, ↓fg_cons, ↓fg_nil, List.set_cons_succ, List.set_cons_zero, ↓x_dCellA, ↓x_dCall, ↓x_dStl, ↓stl_ro, ↓dVar_1, ↓old_dat, ↓stl_dat, ↓aO_cons, ↓nN_ro, ↓aO_nil, Bool.and_true, List.append_nil, cellA_eq, nle_h, ↓stateA_eq, ↓cellA_new, ↓nN_loc, rng_c, forall_const, ↓x_dCell, ↓dVar_2, ↓old_loc, ↓cel_loc, ↓x_dOp, Bool.true_and, ↓e_law_names, isR_last, Int.reduceToNat, ↓ix_new, at_nn, List.getElem?_cons_zero, Option.some.injEq, exists_eq_left', ↓e_law_plain_drawing, ↓x_iSeqD, ↓x_dTup, ↓x_dFrz, ↓dVar_3, ↓wD_dat, ↓wDs_cons, ↓wDs_nil, ↓seqDK_t, ↓e_law_spoilt, List.length_append, ↓x_dLst, ↓wD_new, ↓stl_new, ↓x_tVal, ↓dVar_4, ↓e_law_is_drawing, ↓wB_b, ↓e_law_tried, ↓x_tOrD, ↓dVar_6, ↓dVar_5, ↓ne_dd, ↓noD_l, ↓noDs_cons, ↓noDs_nil, dep_lst, depA_cons, depA_nil, Nat.max_zero, eqv_lst, eqvA_cc, eqvA_nn, cl_ro, ↓cl_none, ↓cl_nil, ↓tk_a1, if_true, ↓ix_lstD, ↓x_dRaw, ↓isi_tuple, ↓noD_b, dep_bool, eqv_bool, ↓noD_n, ↓noD_i, dep_none, dep_int, Nat.zero_max, eqv_int, decide_true, ↓isTupD_none, ↓tk_a0, ↓tk_0])
theorem dr_few {d : Dr} (F : Few d) : Fit (drD d) := FN.fit (k := 4) (fn_tup (by simp) F.items) (by omega)
theorem ok_law (T : Top K mg) : FnOk P w K mg base (L2.CX P w) 6 T.a_law T.fd_law ["_law_script"] (spOf K 1 spLawD) := by
  refine fd_of T.F_law sc_law (fun cdv A outer s H E hr => ((fun tk pw => (dss_cons (ds_forF [1, 2, 3, 4, 5, 6] pw rfl (di_range1 (by rfl) T.n_range (da_cons (de_callB (call_max2 rfl) cs_max2 (by rfl) T.n_max bb_max (da_cons de_int (da_cons (de_callB (call_min2 rfl) cs_min2 (by rfl) T.n_min bb_min (da_cons (de_callB call_lenA cs_lenD (by rfl) T.n_len bb_len (da_cons (dv 0) da_nil)) (da_cons de_int da_nil))) da_nil))) da_nil)) (dg_name (i := 1) sc_law.nd rfl (by first | exact Or.inl rfl | exact Or.inr rfl)) (dss_cons (ds_set (i := 2) sc_law.nd rfl (by first | exact Or.inl rfl | exact Or.inr rfl) (de_cellA rngP (de_call (ok_law_state T) hr (by decide) (by rfl) tk (fun _ _ => .nil) (da_cons (de_stl (de_call (ok_law_cell_at T) hr (by decide) (by rfl) tk (fun _ _ => .nil) (da_cons (de_stl (dv 0)) (da_cons (de_stl (dv 1)) da_nil)))) (da_cons (de_stl (dv 1)) da_nil)))))
    (dss_cons (ds_set (i := 3) sc_law.nd rfl (by first | exact Or.inl rfl | exact Or.inr rfl) (de_stl (de_call (ok_law_plain_drawing T) hr (by decide) (by rfl) tk (fun _ _ => .nil) (da_cons (de_cell (dv 2)) (da_cons (de_stl (de_ix ix_seq os_ix (de_call (ok_law_names T) hr (by decide) (by rfl) tk (fun _ _ => .nil) (da_cons (de_cell (dv 2)) (da_cons de_int da_nil))) de_int (fun _ _ => rfl))) da_nil)))))
    (dss_one (ds_forF [1, 2, 3, 4, 5, 6] pw rfl (di_seqD (de_tup (da_cons (de_frz (dv 3)) (da_cons (de_frz (de_stl (de_call (ok_law_spoilt T) hr (by decide) (by rfl) tk (fun _ _ => .nil) (da_cons (de_cell (dv 2)) (da_cons (de_stl (dv 3)) da_nil))))) (da_cons (de_frz (dv 3)) da_nil))))) (dg_name (i := 4) sc_law.nd rfl (by first | exact Or.inl rfl | exact Or.inr rfl)) (dss_cons (ds_set (i := 5) sc_law.nd rfl (by first | exact Or.inl rfl | exact Or.inr rfl) (de_stl (de_lst (da_cons de_non (da_cons (de_frz (de_lst (da_cons de_int da_nil))) da_nil)))))
    (dss_cons (ds_if (dt_val (de_call (ok_law_is_drawing T) hr (by decide) (by rfl) tk (fun _ _ => .nil) (da_cons (de_stl (dv 4)) da_nil))) (dss_one (ds_set (i := 5) sc_law.nd rfl (by first | exact Or.inl rfl | exact Or.inr rfl) (de_stl (de_lst (da_cons (de_frz (dv 4)) (da_cons (de_frz (de_lst da_nil)) da_nil)))))) dss_nil)
    (dss_cons (ds_set (i := 6) sc_law.nd rfl (by first | exact Or.inl rfl | exact Or.inr rfl) (de_stl (de_call (ok_law_tried T) hr (by decide) (by rfl) tk (fun _ _ => .nil) (da_cons (de_stl (dv 4)) da_nil))))
    (dss_one (ds_if (dw_or (dt_cmp (opA_ne hr.units) os_ne (dv 6) (dv 5) (nomark _)) (dw_or1 (dt_cmp (opA_ne hr.units) os_ne (de_callB call_isiY cs_isi (by rfl) T.n_isinstance bb_isinstance (da_cons (de_ix ix_seq os_ix (dv 6) de_int (fun _ _ => rfl)) (da_cons (de_ty T.n_tuple bt_tuple) da_nil))) (de_callB call_isiY cs_isi (by rfl) T.n_isinstance bb_isinstance (da_cons (de_ix ix_seq os_ix (dv 5) de_int (fun _ _ => rfl)) (da_cons (de_ty T.n_tuple bt_tuple) da_nil))) (nomark _)))).dt (dss_one (ds_ret de_bl)) dss_nil))))))))))
    (dss_one (ds_ret de_bl)))) : Takes _ _ → PassesOwn _ _ _ _ → _) (takes_of rfl rfl rfl rfl) (passes_of rfl)) ?_
  rintro es μ q x - ⟨ns, rfl, hl, -, h⟩
  ((try walk_at "dx31"); repeat (walk_at "one" <;> (try walk_at "dx31")))
  (try walk_at "ok")
  refine for_stR (fun _ (_ : Unit) => True) (fun η _ => η) (fun μ _ => μ) () rfl rfl trivial (fun _ => trivial) ?_ ?_
  · rintro i s J hi - hJ
    have hi' : i < 64 := by
      repeat' split at hi
      all_goals omega
    ((try walk_at "dx31"); repeat (walk_at "one" <;> (try walk_at "dx31")))
    intro ss hss hz
    have hss1 : ss.length = 1 := by simpa using hss
    match ss, hss1, hz with
    | [z], _, hz =>
      have hz6 := hz z (by simp)
      (try walk_at "dx31")
      intro d F
      ((try walk_at "dx31"); repeat (walk_at "one" <;> (try walk_at "dx31")))
      refine ⟨F, ?_⟩
      intro t ft
      ((try walk_at "dx31"); repeat (walk_at "one" <;> (try walk_at "dx31")))
      rw [show [EV.dat (drD d), EV.dat t, EV.dat (drD d)] = ([drD d, t, drD d] : List PyData).map EV.dat from rfl]
      refine for_st (h := EV.dat) (fun _ (_ : Unit) => True) (fun η _ => η) (fun μ _ => μ) () rfl rfl trivial (fun _ => trivial) ?_ ?_
      · rintro j e s2 J2 hj - hJ2
        have fe : Fit e := by
          have := List.mem_of_getElem? hj
          simp only [List.mem_cons, List.not_mem_nil, or_false] at this
          rcases this with rfl | rfl | rfl
          · exact dr_few F
          · exact ft
          · exact dr_few F
        ((try walk_at "dx31"); repeat (walk_at "one" <;> (try walk_at "dx31")))
        refine ⟨fe, fun b hb => ?_⟩
        cases b with
        | true =>
          rw [if_pos rfl]
          ((try walk_at "dx31"); repeat (walk_at "one" <;> (try walk_at "dx31")))
          refine ⟨fe, fun b' hb' => ?_⟩
          obtain rfl : true = b' := hb.uniq hb'
          rw [dueD_t]
          ((try walk_at "dx31"); repeat (walk_at "one" <;> (try walk_at "dx31")))
          have ed := fe.dep
          have ev : e.eqv e = true := PySem.SeqAt.eqv_refl_plain e (plain_of fe.nod)
          have et : ∀ c : Bool, ¬ ((!c == c) = true) := by decide
          refine ⟨⟨fe.nod, fe.nod⟩, by omega, ?_⟩
          rw [if_neg (by rw [ev]; decide), if_neg (et _)]
          (have j := hJ2 () trivial; simp only [List.range_succ, List.map_append, List.map_cons, List.map_nil, fg_cons, fg_nil, List.set_cons_succ, List.set_cons_zero] at j; exact j)
        | false =>
          rw [if_neg (by simp)]
          ((try walk_at "dx31"); repeat (walk_at "one" <;> (try walk_at "dx31")))
          refine ⟨fe, fun b' hb' => ?_⟩
          obtain rfl : false = b' := hb.uniq hb'
          rw [dueD_f]
          ((try walk_at "dx31"); repeat (walk_at "one" <;> (try walk_at "dx31")))
          rw [if_neg (by decide), if_neg (by decide)]
          (have j := hJ2 () trivial; simp only [List.range_succ, List.map_append, List.map_cons, List.map_nil, fg_cons, fg_nil, List.set_cons_succ, List.set_cons_zero] at j; exact j)
      · rintro s2 -
        ((try walk_at "dx31"); repeat (walk_at "one" <;> (try walk_at "dx31")))
        (have j := hJ () trivial; simp only [List.range_succ, List.map_append, List.map_cons, List.map_nil, fg_cons, fg_nil, List.set_cons_succ, List.set_cons_zero] at j; exact j)
  · rintro s -
    ((try walk_at "dx31"); repeat (walk_at "one" <;> (try walk_at "dx31")))
    exact h _
theorem all_mk {K : PySem.W.Frag} {h : Heap} {mg : Str → Option Value} {fa : Addr} (X : K.In h) (G : h.Ns mainGlobals mg) (hfa : mg "law" = some (.ref fa)) {f_0 f_1 f_2 f_3 f_4 f_5 f_6 f_7 f_8 f_9 f_10 f_11 f_12 f_13 f_14 f_15 f_16 f_17 f_18 : Addr}
    {od0 an0 : Option Addr} {sl0 : Array (Option Value)} {oc0 kV0 dc0 pm0 cd0 ct0 : Value}
    (n0 : PySem.W.nsIn K mainGlobals "is_name" = some (some (.ref f_0))) (l0 : K.lookup f_0 = some ⟨oc0, od0, .func (PySem.W.fnOf "is_name" "is_name" (defArgs s_is_name) (defBody s_is_name) (defScope s_is_name) .none kV0 dc0 pm0 an0 cd0 ct0), sl0⟩) (c0 : PySem.W.codeIn K cd0 "is_name" = true) (k0 : PySem.W.keepIn K (.ref f_0) = true)
    {od1 an1 : Option Addr} {sl1 : Array (Option Value)} {oc1 kV1 dc1 pm1 cd1 ct1 : Value}
    (n1 : PySem.W.nsIn K mainGlobals "is_number" = some (some (.ref f_1))) (l1 : K.lookup f_1 = some ⟨oc1, od1, .func (PySem.W.fnOf "is_number" "is_number" (defArgs s_is_number) (defBody s_is_number) (defScope s_is_number) .none kV1 dc1 pm1 an1 cd1 ct1), sl1⟩) (c1 : PySem.W.codeIn K cd1 "is_number" = true) (k1 : PySem.W.keepIn K (.ref f_1) = true)
    {od2 an2 : Option Addr} {sl2 : Array (Option Value)} {oc2 kV2 dc2 pm2 cd2 ct2 : Value}
    (n2 : PySem.W.nsIn K mainGlobals "is_leg" = some (some (.ref f_2))) (l2 : K.lookup f_2 = some ⟨oc2, od2, .func (PySem.W.fnOf "is_leg" "is_leg" (defArgs s_is_leg) (defBody s_is_leg) (defScope s_is_leg) .none kV2 dc2 pm2 an2 cd2 ct2), sl2⟩) (c2 : PySem.W.codeIn K cd2 "is_leg" = true) (k2 : PySem.W.keepIn K (.ref f_2) = true)
    {od3 an3 : Option Addr} {sl3 : Array (Option Value)} {oc3 kV3 dc3 pm3 cd3 ct3 : Value}
    (n3 : PySem.W.nsIn K mainGlobals "all_unlike" = some (some (.ref f_3))) (l3 : K.lookup f_3 = some ⟨oc3, od3, .func (PySem.W.fnOf "all_unlike" "all_unlike" (defArgs s_all_unlike) (defBody s_all_unlike) (defScope s_all_unlike) .none kV3 dc3 pm3 an3 cd3 ct3), sl3⟩) (c3 : PySem.W.codeIn K cd3 "all_unlike" = true) (k3 : PySem.W.keepIn K (.ref f_3) = true)
    {od4 an4 : Option Addr} {sl4 : Array (Option Value)} {oc4 kV4 dc4 pm4 cd4 ct4 : Value}
    (n4 : PySem.W.nsIn K mainGlobals "is_drawing" = some (some (.ref f_4))) (l4 : K.lookup f_4 = some ⟨oc4, od4, .func (PySem.W.fnOf "is_drawing" "is_drawing" (defArgs s_is_drawing) (defBody s_is_drawing) (defScope s_is_drawing) .none kV4 dc4 pm4 an4 cd4 ct4), sl4⟩) (c4 : PySem.W.codeIn K cd4 "is_drawing" = true) (k4 : PySem.W.keepIn K (.ref f_4) = true)
    {od5 an5 : Option Addr} {sl5 : Array (Option Value)} {oc5 kV5 dc5 pm5 cd5 ct5 : Value}
    (n5 : PySem.W.nsIn K mainGlobals "drawing_of" = some (some (.ref f_5))) (l5 : K.lookup f_5 = some ⟨oc5, od5, .func (PySem.W.fnOf "drawing_of" "drawing_of" (defArgs s_drawing_of) (defBody s_drawing_of) (defScope s_drawing_of) .none kV5 dc5 pm5 an5 cd5 ct5), sl5⟩) (c5 : PySem.W.codeIn K cd5 "drawing_of" = true) (k5 : PySem.W.keepIn K (.ref f_5) = true)
    {od6 an6 : Option Addr} {sl6 : Array (Option Value)} {oc6 kV6 dc6 pm6 cd6 ct6 : Value}
    (n6 : PySem.W.nsIn K mainGlobals "_law_cell_at" = some (some (.ref f_6))) (l6 : K.lookup f_6 = some ⟨oc6, od6, .func (PySem.W.fnOf "_law_cell_at" "_law_cell_at" (defArgs s_law_cell_at) (defBody s_law_cell_at) (defScope s_law_cell_at) .none kV6 dc6 pm6 an6 cd6 ct6), sl6⟩) (c6 : PySem.W.codeIn K cd6 "_law_cell_at" = true) (k6 : PySem.W.keepIn K (.ref f_6) = true)
    {od7 an7 : Option Addr} {sl7 : Array (Option Value)} {oc7 kV7 dc7 pm7 cd7 ct7 : Value}
    (n7 : PySem.W.nsIn K mainGlobals "_law_state" = some (some (.ref f_7))) (l7 : K.lookup f_7 = some ⟨oc7, od7, .func (PySem.W.fnOf "_law_state" "_law_state" (defArgs s_law_state) (defBody s_law_state) (defScope s_law_state) .none kV7 dc7 pm7 an7 cd7 ct7), sl7⟩) (c7 : PySem.W.codeIn K cd7 "_law_state" = true) (k7 : PySem.W.keepIn K (.ref f_7) = true)
    {od8 an8 : Option Addr} {sl8 : Array (Option Value)} {oc8 kV8 dc8 pm8 cd8 ct8 : Value}
    (n8 : PySem.W.nsIn K mainGlobals "_law_next" = some (some (.ref f_8))) (l8 : K.lookup f_8 = some ⟨oc8, od8, .func (PySem.W.fnOf "_law_next" "_law_next" (defArgs s_law_next) (defBody s_law_next) (defScope s_law_next) .none kV8 dc8 pm8 an8 cd8 ct8), sl8⟩) (c8 : PySem.W.codeIn K cd8 "_law_next" = true) (k8 : PySem.W.keepIn K (.ref f_8) = true)
    {od9 an9 : Option Addr} {sl9 : Array (Option Value)} {oc9 kV9 dc9 pm9 cd9 ct9 : Value}
    (n9 : PySem.W.nsIn K mainGlobals "_law_names" = some (some (.ref f_9))) (l9 : K.lookup f_9 = some ⟨oc9, od9, .func (PySem.W.fnOf "_law_names" "_law_names" (defArgs s_law_names) (defBody s_law_names) (defScope s_law_names) .none kV9 dc9 pm9 an9 cd9 ct9), sl9⟩) (c9 : PySem.W.codeIn K cd9 "_law_names" = true) (k9 : PySem.W.keepIn K (.ref f_9) = true)
    {od10 an10 : Option Addr} {sl10 : Array (Option Value)} {oc10 kV10 dc10 pm10 cd10 ct10 : Value}
    (n10 : PySem.W.nsIn K mainGlobals "_law_is_word" = some (some (.ref f_10))) (l10 : K.lookup f_10 = some ⟨oc10, od10, .func (PySem.W.fnOf "_law_is_word" "_law_is_word" (defArgs s_law_is_word) (defBody s_law_is_word) (defScope s_law_is_word) .none kV10 dc10 pm10 an10 cd10 ct10), sl10⟩) (c10 : PySem.W.codeIn K cd10 "_law_is_word" = true) (k10 : PySem.W.keepIn K (.ref f_10) = true)
    {od11 an11 : Option Addr} {sl11 : Array (Option Value)} {oc11 kV11 dc11 pm11 cd11 ct11 : Value}
    (n11 : PySem.W.nsIn K mainGlobals "_law_between" = some (some (.ref f_11))) (l11 : K.lookup f_11 = some ⟨oc11, od11, .func (PySem.W.fnOf "_law_between" "_law_between" (defArgs s_law_between) (defBody s_law_between) (defScope s_law_between) .none kV11 dc11 pm11 an11 cd11 ct11), sl11⟩) (c11 : PySem.W.codeIn K cd11 "_law_between" = true) (k11 : PySem.W.keepIn K (.ref f_11) = true)
    {od12 an12 : Option Addr} {sl12 : Array (Option Value)} {oc12 kV12 dc12 pm12 cd12 ct12 : Value}
    (n12 : PySem.W.nsIn K mainGlobals "_law_is_drawing" = some (some (.ref f_12))) (l12 : K.lookup f_12 = some ⟨oc12, od12, .func (PySem.W.fnOf "_law_is_drawing" "_law_is_drawing" (defArgs s_law_is_drawing) (defBody s_law_is_drawing) (defScope s_law_is_drawing) .none kV12 dc12 pm12 an12 cd12 ct12), sl12⟩) (c12 : PySem.W.codeIn K cd12 "_law_is_drawing" = true) (k12 : PySem.W.keepIn K (.ref f_12) = true)
    {od13 an13 : Option Addr} {sl13 : Array (Option Value)} {oc13 kV13 dc13 pm13 cd13 ct13 : Value}
    (n13 : PySem.W.nsIn K mainGlobals "_law_plain_drawing" = some (some (.ref f_13))) (l13 : K.lookup f_13 = some ⟨oc13, od13, .func (PySem.W.fnOf "_law_plain_drawing" "_law_plain_drawing" (defArgs s_law_plain_drawing) (defBody s_law_plain_drawing) (defScope s_law_plain_drawing) .none kV13 dc13 pm13 an13 cd13 ct13), sl13⟩) (c13 : PySem.W.codeIn K cd13 "_law_plain_drawing" = true) (k13 : PySem.W.keepIn K (.ref f_13) = true)
    {od14 an14 : Option Addr} {sl14 : Array (Option Value)} {oc14 kV14 dc14 pm14 cd14 ct14 : Value}
    (n14 : PySem.W.nsIn K mainGlobals "_law_odd" = some (some (.ref f_14))) (l14 : K.lookup f_14 = some ⟨oc14, od14, .func (PySem.W.fnOf "_law_odd" "_law_odd" (defArgs s_law_odd) (defBody s_law_odd) (defScope s_law_odd) .none kV14 dc14 pm14 an14 cd14 ct14), sl14⟩) (c14 : PySem.W.codeIn K cd14 "_law_odd" = true) (k14 : PySem.W.keepIn K (.ref f_14) = true)
    {od15 an15 : Option Addr} {sl15 : Array (Option Value)} {oc15 kV15 dc15 pm15 cd15 ct15 : Value}
    (n15 : PySem.W.nsIn K mainGlobals "_law_spoilt" = some (some (.ref f_15))) (l15 : K.lookup f_15 = some ⟨oc15, od15, .func (PySem.W.fnOf "_law_spoilt" "_law_spoilt" (defArgs s_law_spoilt) (defBody s_law_spoilt) (defScope s_law_spoilt) .none kV15 dc15 pm15 an15 cd15 ct15), sl15⟩) (c15 : PySem.W.codeIn K cd15 "_law_spoilt" = true) (k15 : PySem.W.keepIn K (.ref f_15) = true)
    {od16 an16 : Option Addr} {sl16 : Array (Option Value)} {oc16 kV16 dc16 pm16 cd16 ct16 : Value}
    (n16 : PySem.W.nsIn K mainGlobals "_law_kinds" = some (some (.ref f_16))) (l16 : K.lookup f_16 = some ⟨oc16, od16, .func (PySem.W.fnOf "_law_kinds" "_law_kinds" (defArgs s_law_kinds) (defBody s_law_kinds) (defScope s_law_kinds) .none kV16 dc16 pm16 an16 cd16 ct16), sl16⟩) (c16 : PySem.W.codeIn K cd16 "_law_kinds" = true) (k16 : PySem.W.keepIn K (.ref f_16) = true)
    {od17 an17 : Option Addr} {sl17 : Array (Option Value)} {oc17 kV17 dc17 pm17 cd17 ct17 : Value}
    (n17 : PySem.W.nsIn K mainGlobals "_law_tried" = some (some (.ref f_17))) (l17 : K.lookup f_17 = some ⟨oc17, od17, .func (PySem.W.fnOf "_law_tried" "_law_tried" (defArgs s_law_tried) (defBody s_law_tried) (defScope s_law_tried) .none kV17 dc17 pm17 an17 cd17 ct17), sl17⟩) (c17 : PySem.W.codeIn K cd17 "_law_tried" = true) (k17 : PySem.W.keepIn K (.ref f_17) = true)
    {od18 an18 : Option Addr} {sl18 : Array (Option Value)} {oc18 kV18 dc18 pm18 cd18 ct18 : Value}
    (n18 : PySem.W.nsIn K mainGlobals "law" = some (some (.ref f_18))) (l18 : K.lookup f_18 = some ⟨oc18, od18, .func (PySem.W.fnOf "law" "law" (defArgs s_law) (defBody s_law) (defScope s_law) .none kV18 dc18 pm18 an18 cd18 ct18), sl18⟩) (c18 : PySem.W.codeIn K cd18 "law" = true) (k18 : PySem.W.keepIn K (.ref f_18) = true)
    {c_BoardError : Addr} (gx_BoardError : PySem.W.nsIn K mainGlobals "BoardError" = some (some (.ref c_BoardError)))
    {c_NoBytes : Addr} (gx_NoBytes : PySem.W.nsIn K mainGlobals "NoBytes" = some (some (.ref c_NoBytes)))
    {c_NoDeed : Addr} (gx_NoDeed : PySem.W.nsIn K mainGlobals "NoDeed" = some (some (.ref c_NoDeed)))
    {c_NoDrawing : Addr} (gx_NoDrawing : PySem.W.nsIn K mainGlobals "NoDrawing" = some (some (.ref c_NoDrawing)))
    {c_NoOrder : Addr} (gx_NoOrder : PySem.W.nsIn K mainGlobals "NoOrder" = some (some (.ref c_NoOrder)))
    {c_NoPart : Addr} (gx_NoPart : PySem.W.nsIn K mainGlobals "NoPart" = some (some (.ref c_NoPart)))
    {c_NoSize : Addr} (gx_NoSize : PySem.W.nsIn K mainGlobals "NoSize" = some (some (.ref c_NoSize)))
    {c_NoSpot : Addr} (gx_NoSpot : PySem.W.nsIn K mainGlobals "NoSpot" = some (some (.ref c_NoSpot)))
    {c_NoText : Addr} (gx_NoText : PySem.W.nsIn K mainGlobals "NoText" = some (some (.ref c_NoText)))
    {c_NoTie : Addr} (gx_NoTie : PySem.W.nsIn K mainGlobals "NoTie" = some (some (.ref c_NoTie)))
    {c_NoTurn : Addr} (gx_NoTurn : PySem.W.nsIn K mainGlobals "NoTurn" = some (some (.ref c_NoTurn)))
    {c_NoWay : Addr} (gx_NoWay : PySem.W.nsIn K mainGlobals "NoWay" = some (some (.ref c_NoWay)))
    {c_NoWeight : Addr} (gx_NoWeight : PySem.W.nsIn K mainGlobals "NoWeight" = some (some (.ref c_NoWeight)))
    {c_NoWord : Addr} (gx_NoWord : PySem.W.nsIn K mainGlobals "NoWord" = some (some (.ref c_NoWord)))
    {c_OffFloor : Addr} (gx_OffFloor : PySem.W.nsIn K mainGlobals "OffFloor" = some (some (.ref c_OffFloor)))
    {c_OnShut : Addr} (gx_OnShut : PySem.W.nsIn K mainGlobals "OnShut" = some (some (.ref c_OnShut)))
    {c_Overlap : Addr} (gx_Overlap : PySem.W.nsIn K mainGlobals "Overlap" = some (some (.ref c_Overlap)))
    {c_TooMany : Addr} (gx_TooMany : PySem.W.nsIn K mainGlobals "TooMany" = some (some (.ref c_TooMany)))
    {c_TooNear : Addr} (gx_TooNear : PySem.W.nsIn K mainGlobals "TooNear" = some (some (.ref c_TooNear)))
    (hd_BoardError : PySem.W.hasDictIn K c_BoardError = true)
    (xt_BoardError : PySem.W.typeIn K (.ref c_BoardError) = some (.type "type"))
    (hd_NoBytes : PySem.W.hasDictIn K c_NoBytes = true)
    (xt_NoBytes : PySem.W.typeIn K (.ref c_NoBytes) = some (.type "type"))
    (hd_NoDeed : PySem.W.hasDictIn K c_NoDeed = true)
    (xt_NoDeed : PySem.W.typeIn K (.ref c_NoDeed) = some (.type "type"))
    (hd_NoDrawing : PySem.W.hasDictIn K c_NoDrawing = true)
    (xt_NoDrawing : PySem.W.typeIn K (.ref c_NoDrawing) = some (.type "type"))
    (hd_NoOrder : PySem.W.hasDictIn K c_NoOrder = true)
    (xt_NoOrder : PySem.W.typeIn K (.ref c_NoOrder) = some (.type "type"))
    (hd_NoPart : PySem.W.hasDictIn K c_NoPart = true)
    (xt_NoPart : PySem.W.typeIn K (.ref c_NoPart) = some (.type "type"))
    (hd_NoSize : PySem.W.hasDictIn K c_NoSize = true)
    (xt_NoSize : PySem.W.typeIn K (.ref c_NoSize) = some (.type "type"))
    (hd_NoSpot : PySem.W.hasDictIn K c_NoSpot = true)
    (xt_NoSpot : PySem.W.typeIn K (.ref c_NoSpot) = some (.type "type"))
    (hd_NoText : PySem.W.hasDictIn K c_NoText = true)
    (xt_NoText : PySem.W.typeIn K (.ref c_NoText) = some (.type "type"))
    (hd_NoTie : PySem.W.hasDictIn K c_NoTie = true)
    (xt_NoTie : PySem.W.typeIn K (.ref c_NoTie) = some (.type "type"))
    (hd_NoTurn : PySem.W.hasDictIn K c_NoTurn = true)
    (xt_NoTurn : PySem.W.typeIn K (.ref c_NoTurn) = some (.type "type"))
    (hd_NoWay : PySem.W.hasDictIn K c_NoWay = true)
    (xt_NoWay : PySem.W.typeIn K (.ref c_NoWay) = some (.type "type"))
    (hd_NoWeight : PySem.W.hasDictIn K c_NoWeight = true)
    (xt_NoWeight : PySem.W.typeIn K (.ref c_NoWeight) = some (.type "type"))
    (hd_NoWord : PySem.W.hasDictIn K c_NoWord = true)
    (xt_NoWord : PySem.W.typeIn K (.ref c_NoWord) = some (.type "type"))
    (hd_OffFloor : PySem.W.hasDictIn K c_OffFloor = true)
    (xt_OffFloor : PySem.W.typeIn K (.ref c_OffFloor) = some (.type "type"))
    (hd_OnShut : PySem.W.hasDictIn K c_OnShut = true)
    (xt_OnShut : PySem.W.typeIn K (.ref c_OnShut) = some (.type "type"))
    (hd_Overlap : PySem.W.hasDictIn K c_Overlap = true)
    (xt_Overlap : PySem.W.typeIn K (.ref c_Overlap) = some (.type "type"))
    (hd_TooMany : PySem.W.hasDictIn K c_TooMany = true)
    (xt_TooMany : PySem.W.typeIn K (.ref c_TooMany) = some (.type "type"))
    (hd_TooNear : PySem.W.hasDictIn K c_TooNear = true)
    (xt_TooNear : PySem.W.typeIn K (.ref c_TooNear) = some (.type "type"))
    (xb_BoardError : PySem.W.subIn K (.ref c_BoardError) (.type "BaseException") = some true)
    (xx_NoDrawing : PySem.W.excIn K c_NoDrawing [.type "ValueError", .type "Exception", .type "BaseException", .type "object"] "ValueError.__new__" = true)
    (xk_NoDrawing : PySem.W.keepIn K (.ref c_NoDrawing) = true)
    (xb_NoDrawing : PySem.W.subIn K (.ref c_NoDrawing) (.type "BaseException") = some true)
    (xe_NoDrawing : ExcC K c_NoDrawing)
    (sb_NoDrawing_BoardError : PySem.W.subIn K (.ref c_NoDrawing) (.ref c_BoardError) = some true)
    (ne_NoDrawing_NoBytes : c_NoDrawing ≠ c_NoBytes)
    (sb_NoDrawing_NoBytes : PySem.W.subIn K (.ref c_NoDrawing) (.ref c_NoBytes) = some false)
    (ne_NoDrawing_NoDeed : c_NoDrawing ≠ c_NoDeed)
    (sb_NoDrawing_NoDeed : PySem.W.subIn K (.ref c_NoDrawing) (.ref c_NoDeed) = some false)
    (ne_NoDrawing_NoOrder : c_NoDrawing ≠ c_NoOrder)
    (sb_NoDrawing_NoOrder : PySem.W.subIn K (.ref c_NoDrawing) (.ref c_NoOrder) = some false)
    (ne_NoDrawing_NoPart : c_NoDrawing ≠ c_NoPart)
    (sb_NoDrawing_NoPart : PySem.W.subIn K (.ref c_NoDrawing) (.ref c_NoPart) = some false)
    (ne_NoDrawing_NoSize : c_NoDrawing ≠ c_NoSize)
    (sb_NoDrawing_NoSize : PySem.W.subIn K (.ref c_NoDrawing) (.ref c_NoSize) = some false)
    (ne_NoDrawing_NoSpot : c_NoDrawing ≠ c_NoSpot)
    (sb_NoDrawing_NoSpot : PySem.W.subIn K (.ref c_NoDrawing) (.ref c_NoSpot) = some false)
    (ne_NoDrawing_NoText : c_NoDrawing ≠ c_NoText)
    (sb_NoDrawing_NoText : PySem.W.subIn K (.ref c_NoDrawing) (.ref c_NoText) = some false)
    (ne_NoDrawing_NoTie : c_NoDrawing ≠ c_NoTie)
    (sb_NoDrawing_NoTie : PySem.W.subIn K (.ref c_NoDrawing) (.ref c_NoTie) = some false)
    (ne_NoDrawing_NoTurn : c_NoDrawing ≠ c_NoTurn)
    (sb_NoDrawing_NoTurn : PySem.W.subIn K (.ref c_NoDrawing) (.ref c_NoTurn) = some false)
    (ne_NoDrawing_NoWay : c_NoDrawing ≠ c_NoWay)
    (sb_NoDrawing_NoWay : PySem.W.subIn K (.ref c_NoDrawing) (.ref c_NoWay) = some false)
    (ne_NoDrawing_NoWeight : c_NoDrawing ≠ c_NoWeight)
    (sb_NoDrawing_NoWeight : PySem.W.subIn K (.ref c_NoDrawing) (.ref c_NoWeight) = some false)
    (ne_NoDrawing_NoWord : c_NoDrawing ≠ c_NoWord)
    (sb_NoDrawing_NoWord : PySem.W.subIn K (.ref c_NoDrawing) (.ref c_NoWord) = some false)
    (ne_NoDrawing_OffFloor : c_NoDrawing ≠ c_OffFloor)
    (sb_NoDrawing_OffFloor : PySem.W.subIn K (.ref c_NoDrawing) (.ref c_OffFloor) = some false)
    (ne_NoDrawing_OnShut : c_NoDrawing ≠ c_OnShut)
    (sb_NoDrawing_OnShut : PySem.W.subIn K (.ref c_NoDrawing) (.ref c_OnShut) = some false)
    (ne_NoDrawing_Overlap : c_NoDrawing ≠ c_Overlap)
    (sb_NoDrawing_Overlap : PySem.W.subIn K (.ref c_NoDrawing) (.ref c_Overlap) = some false)
    (ne_NoDrawing_TooMany : c_NoDrawing ≠ c_TooMany)
    (sb_NoDrawing_TooMany : PySem.W.subIn K (.ref c_NoDrawing) (.ref c_TooMany) = some false)
    (ne_NoDrawing_TooNear : c_NoDrawing ≠ c_TooNear)
    (sb_NoDrawing_TooNear : PySem.W.subIn K (.ref c_NoDrawing) (.ref c_TooNear) = some false)
    (sb_NoDrawing_ValueError : PySem.W.subIn K (.ref c_NoDrawing) (.type "ValueError") = some true)
    (z_ValueError : PySem.W.nsIn K mainGlobals "ValueError" = some none)
    (z_all : PySem.W.nsIn K mainGlobals "all" = some none)
    (z_bool : PySem.W.nsIn K mainGlobals "bool" = some none)
    (z_enumerate : PySem.W.nsIn K mainGlobals "enumerate" = some none)
    (z_int : PySem.W.nsIn K mainGlobals "int" = some none)
    (z_isinstance : PySem.W.nsIn K mainGlobals "isinstance" = some none)
    (z_len : PySem.W.nsIn K mainGlobals "len" = some none)
    (z_list : PySem.W.nsIn K mainGlobals "list" = some none)
    (z_max : PySem.W.nsIn K mainGlobals "max" = some none)
    (z_min : PySem.W.nsIn K mainGlobals "min" = some none)
    (z_range : PySem.W.nsIn K mainGlobals "range" = some none)
    (z_set : PySem.W.nsIn K mainGlobals "set" = some none)
    (z_sorted : PySem.W.nsIn K mainGlobals "sorted" = some none)
    (z_str : PySem.W.nsIn K mainGlobals "str" = some none)
    (z_tuple : PySem.W.nsIn K mainGlobals "tuple" = some none)
    {tk_FIGURES : Tok} (w_FIGURES : PySem.W.nsIn K mainGlobals "FIGURES" = some (some (.str "0123456789" tk_FIGURES)))
    {tk_LETTERS : Tok} (w_LETTERS : PySem.W.nsIn K mainGlobals "LETTERS" = some (some (.str "abcdefghijklmnopqrstuvwxyz" tk_LETTERS)))
    {tk_MOST_LEGS : Tok} (w_MOST_LEGS : PySem.W.nsIn K mainGlobals "MOST_LEGS" = some (some (.int 6 tk_MOST_LEGS)))
    {tk_MOST_SIDE : Tok} (w_MOST_SIDE : PySem.W.nsIn K mainGlobals "MOST_SIDE" = some (some (.int 5 tk_MOST_SIDE)))
    {tk_MOST_SIGNS : Tok} (w_MOST_SIGNS : PySem.W.nsIn K mainGlobals "MOST_SIGNS" = some (some (.int 6 tk_MOST_SIGNS)))
    {ga_KINDS : Addr} (gm_KINDS : PySem.W.nsIn K mainGlobals "KINDS" = some (some (.ref ga_KINDS))) {od_KINDS : Option Addr} {mt_KINDS : Nat} {sl_KINDS : Array (Option Value)} {tk_KINDS_0 : Tok} {tk_KINDS_1 : Tok} (gt_KINDS : K.lookup ga_KINDS = some ⟨.type "tuple", od_KINDS, .seq #[.str "flat" tk_KINDS_0, .str "through" tk_KINDS_1] mt_KINDS, sl_KINDS⟩)
    : ∃ T : Top K mg, T.a_law = fa ∧ (∀ (s : Shared) (v : Value), BindsTo s T.fd_law ⟨[v], []⟩ [("_law_script", v)]) := by
  have e := hfa.symm.trans (PySem.W.mg_of X G n18)
  cases e
  exact ⟨{ a_is_name := f_0, fd_is_name := _, F_is_name := fun_mk (st := s_is_name) l0 c0 k0, m_is_name := PySem.W.mg_of X G n0, b_is_name := ((fun_mk (st := s_is_name) l0 c0 k0).binds (ps := ["thing"]) fun _ _ _ _ _ _ us hl => match us, hl with | [_], _ => rfl), a_is_number := f_1, fd_is_number := _, F_is_number := fun_mk (st := s_is_number) l1 c1 k1, m_is_number := PySem.W.mg_of X G n1, b_is_number := ((fun_mk (st := s_is_number) l1 c1 k1).binds (ps := ["thing", "least", "most"]) fun _ _ _ _ _ _ us hl => match us, hl with | [_, _, _], _ => rfl), a_is_leg := f_2, fd_is_leg := _, F_is_leg := fun_mk (st := s_is_leg) l2 c2 k2, m_is_leg := PySem.W.mg_of X G n2, b_is_leg := ((fun_mk (st := s_is_leg) l2 c2 k2).binds (ps := ["thing", "wide", "high"]) fun _ _ _ _ _ _ us hl => match us, hl with | [_, _, _], _ => rfl), a_all_unlike := f_3, fd_all_unlike := _, F_all_unlike := fun_mk (st := s_all_unlike) l3 c3 k3, m_all_unlike := PySem.W.mg_of X G n3, b_all_unlike := ((fun_mk (st := s_all_unlike) l3 c3 k3).binds (ps := ["row"]) fun _ _ _ _ _ _ us hl => match us, hl with | [_], _ => rfl), a_is_drawing := f_4, fd_is_drawing := _, F_is_drawing := fun_mk (st := s_is_drawing) l4 c4 k4, m_is_drawing := PySem.W.mg_of X G n4, b_is_drawing := ((fun_mk (st := s_is_drawing) l4 c4 k4).binds (ps := ["thing"]) fun _ _ _ _ _ _ us hl => match us, hl with | [_], _ => rfl), a_drawing_of := f_5, fd_drawing_of := _, F_drawing_of := fun_mk (st := s_drawing_of) l5 c5 k5, m_drawing_of := PySem.W.mg_of X G n5, b_drawing_of := ((fun_mk (st := s_drawing_of) l5 c5 k5).binds (ps := ["thing"]) fun _ _ _ _ _ _ us hl => match us, hl with | [_], _ => rfl), a_law_cell_at := f_6, fd_law_cell_at := _, F_law_cell_at := fun_mk (st := s_law_cell_at) l6 c6 k6, m_law_cell_at := PySem.W.mg_of X G n6, b_law_cell_at := ((fun_mk (st := s_law_cell_at) l6 c6 k6).binds (ps := ["_law_script", "_law_k"]) fun _ _ _ _ _ _ us hl => match us, hl with | [_, _], _ => rfl), a_law_state := f_7, fd_law_state := _, F_law_state := fun_mk (st := s_law_state) l7 c7 k7, m_law_state := PySem.W.mg_of X G n7, b_law_state := ((fun_mk (st := s_law_state) l7 c7 k7).binds (ps := ["_law_cell", "_law_k"]) fun _ _ _ _ _ _ us hl => match us, hl with | [_, _], _ => rfl), a_law_next := f_8, fd_law_next := _, F_law_next := fun_mk (st := s_law_next) l8 c8 k8, m_law_next := PySem.W.mg_of X G n8, b_law_next := ((fun_mk (st := s_law_next) l8 c8 k8).binds (ps := ["_law_state_here", "_law_size"]) fun _ _ _ _ _ _ us hl => match us, hl with | [_, _], _ => rfl), a_law_names := f_9, fd_law_names := _, F_law_names := fun_mk (st := s_law_names) l9 c9 k9, m_law_names := PySem.W.mg_of X G n9, b_law_names := ((fun_mk (st := s_law_names) l9 c9 k9).binds (ps := ["_law_state_here", "_law_amount"]) fun _ _ _ _ _ _ us hl => match us, hl with | [_, _], _ => rfl), a_law_is_word := f_10, fd_law_is_word := _, F_law_is_word := fun_mk (st := s_law_is_word) l10 c10 k10, m_law_is_word := PySem.W.mg_of X G n10, b_law_is_word := ((fun_mk (st := s_law_is_word) l10 c10 k10).binds (ps := ["_law_thing"]) fun _ _ _ _ _ _ us hl => match us, hl with | [_], _ => rfl), a_law_between := f_11, fd_law_between := _, F_law_between := fun_mk (st := s_law_between) l11 c11 k11, m_law_between := PySem.W.mg_of X G n11, b_law_between := ((fun_mk (st := s_law_between) l11 c11 k11).binds (ps := ["_law_thing", "_law_least", "_law_most"]) fun _ _ _ _ _ _ us hl => match us, hl with | [_, _, _], _ => rfl), a_law_is_drawing := f_12, fd_law_is_drawing := _, F_law_is_drawing := fun_mk (st := s_law_is_drawing) l12 c12 k12, m_law_is_drawing := PySem.W.mg_of X G n12, b_law_is_drawing := ((fun_mk (st := s_law_is_drawing) l12 c12 k12).binds (ps := ["_law_thing"]) fun _ _ _ _ _ _ us hl => match us, hl with | [_], _ => rfl), a_law_plain_drawing := f_13, fd_law_plain_drawing := _, F_law_plain_drawing := fun_mk (st := s_law_plain_drawing) l13 c13 k13, m_law_plain_drawing := PySem.W.mg_of X G n13, b_law_plain_drawing := ((fun_mk (st := s_law_plain_drawing) l13 c13 k13).binds (ps := ["_law_state_here", "_law_name"]) fun _ _ _ _ _ _ us hl => match us, hl with | [_, _], _ => rfl), a_law_odd := f_14, fd_law_odd := _, F_law_odd := fun_mk (st := s_law_odd) l14 c14 k14, m_law_odd := PySem.W.mg_of X G n14, b_law_odd := ((fun_mk (st := s_law_odd) l14 c14 k14).binds (ps := ["_law_state_here"]) fun _ _ _ _ _ _ us hl => match us, hl with | [_], _ => rfl), a_law_spoilt := f_15, fd_law_spoilt := _, F_law_spoilt := fun_mk (st := s_law_spoilt) l15 c15 k15, m_law_spoilt := PySem.W.mg_of X G n15, b_law_spoilt := ((fun_mk (st := s_law_spoilt) l15 c15 k15).binds (ps := ["_law_state_here", "_law_thing"]) fun _ _ _ _ _ _ us hl => match us, hl with | [_, _], _ => rfl), a_law_kinds := f_16, fd_law_kinds := _, F_law_kinds := fun_mk (st := s_law_kinds) l16 c16 k16, m_law_kinds := PySem.W.mg_of X G n16, b_law_kinds := ((fun_mk (st := s_law_kinds) l16 c16 k16).binds (ps := ["_law_e"]) fun _ _ _ _ _ _ us hl => match us, hl with | [_], _ => rfl), a_law_tried := f_17, fd_law_tried := _, F_law_tried := fun_mk (st := s_law_tried) l17 c17 k17, m_law_tried := PySem.W.mg_of X G n17, b_law_tried := ((fun_mk (st := s_law_tried) l17 c17 k17).binds (ps := ["_law_thing"]) fun _ _ _ _ _ _ us hl => match us, hl with | [_], _ => rfl), a_law := fa, fd_law := _, F_law := fun_mk (st := s_law) l18 c18 k18, m_law := PySem.W.mg_of X G n18, b_law := ((fun_mk (st := s_law) l18 c18 k18).binds (ps := ["_law_script"]) fun _ _ _ _ _ _ us hl => match us, hl with | [_], _ => rfl), c_BoardError := c_BoardError, gx_BoardError := PySem.W.mg_of X G gx_BoardError, c_NoBytes := c_NoBytes, gx_NoBytes := PySem.W.mg_of X G gx_NoBytes, c_NoDeed := c_NoDeed, gx_NoDeed := PySem.W.mg_of X G gx_NoDeed, c_NoDrawing := c_NoDrawing, gx_NoDrawing := PySem.W.mg_of X G gx_NoDrawing, c_NoOrder := c_NoOrder, gx_NoOrder := PySem.W.mg_of X G gx_NoOrder, c_NoPart := c_NoPart, gx_NoPart := PySem.W.mg_of X G gx_NoPart, c_NoSize := c_NoSize, gx_NoSize := PySem.W.mg_of X G gx_NoSize, c_NoSpot := c_NoSpot, gx_NoSpot := PySem.W.mg_of X G gx_NoSpot, c_NoText := c_NoText, gx_NoText := PySem.W.mg_of X G gx_NoText, c_NoTie := c_NoTie, gx_NoTie := PySem.W.mg_of X G gx_NoTie, c_NoTurn := c_NoTurn, gx_NoTurn := PySem.W.mg_of X G gx_NoTurn, c_NoWay := c_NoWay, gx_NoWay := PySem.W.mg_of X G gx_NoWay, c_NoWeight := c_NoWeight, gx_NoWeight := PySem.W.mg_of X G gx_NoWeight, c_NoWord := c_NoWord, gx_NoWord := PySem.W.mg_of X G gx_NoWord, c_OffFloor := c_OffFloor, gx_OffFloor := PySem.W.mg_of X G gx_OffFloor, c_OnShut := c_OnShut, gx_OnShut := PySem.W.mg_of X G gx_OnShut, c_Overlap := c_Overlap, gx_Overlap := PySem.W.mg_of X G gx_Overlap, c_TooMany := c_TooMany, gx_TooMany := PySem.W.mg_of X G gx_TooMany, c_TooNear := c_TooNear, gx_TooNear := PySem.W.mg_of X G gx_TooNear, hd_BoardError := hd_BoardError, xt_BoardError := xt_BoardError, hd_NoBytes := hd_NoBytes, xt_NoBytes := xt_NoBytes, hd_NoDeed := hd_NoDeed, xt_NoDeed := xt_NoDeed, hd_NoDrawing := hd_NoDrawing, xt_NoDrawing := xt_NoDrawing, hd_NoOrder := hd_NoOrder, xt_NoOrder := xt_NoOrder, hd_NoPart := hd_NoPart, xt_NoPart := xt_NoPart, hd_NoSize := hd_NoSize, xt_NoSize := xt_NoSize, hd_NoSpot := hd_NoSpot, xt_NoSpot := xt_NoSpot, hd_NoText := hd_NoText, xt_NoText := xt_NoText, hd_NoTie := hd_NoTie, xt_NoTie := xt_NoTie, hd_NoTurn := hd_NoTurn, xt_NoTurn := xt_NoTurn, hd_NoWay := hd_NoWay, xt_NoWay := xt_NoWay, hd_NoWeight := hd_NoWeight, xt_NoWeight := xt_NoWeight, hd_NoWord := hd_NoWord, xt_NoWord := xt_NoWord, hd_OffFloor := hd_OffFloor, xt_OffFloor := xt_OffFloor, hd_OnShut := hd_OnShut, xt_OnShut := xt_OnShut, hd_Overlap := hd_Overlap, xt_Overlap := xt_Overlap, hd_TooMany := hd_TooMany, xt_TooMany := xt_TooMany, hd_TooNear := hd_TooNear, xt_TooNear := xt_TooNear, xb_BoardError := xb_BoardError, xx_NoDrawing := xx_NoDrawing, xk_NoDrawing := xk_NoDrawing, xb_NoDrawing := xb_NoDrawing, xe_NoDrawing := xe_NoDrawing, sb_NoDrawing_BoardError := sb_NoDrawing_BoardError, ne_NoDrawing_NoBytes := ne_NoDrawing_NoBytes, sb_NoDrawing_NoBytes := sb_NoDrawing_NoBytes, ne_NoDrawing_NoDeed := ne_NoDrawing_NoDeed, sb_NoDrawing_NoDeed := sb_NoDrawing_NoDeed, ne_NoDrawing_NoOrder := ne_NoDrawing_NoOrder, sb_NoDrawing_NoOrder := sb_NoDrawing_NoOrder, ne_NoDrawing_NoPart := ne_NoDrawing_NoPart, sb_NoDrawing_NoPart := sb_NoDrawing_NoPart, ne_NoDrawing_NoSize := ne_NoDrawing_NoSize, sb_NoDrawing_NoSize := sb_NoDrawing_NoSize, ne_NoDrawing_NoSpot := ne_NoDrawing_NoSpot, sb_NoDrawing_NoSpot := sb_NoDrawing_NoSpot, ne_NoDrawing_NoText := ne_NoDrawing_NoText, sb_NoDrawing_NoText := sb_NoDrawing_NoText, ne_NoDrawing_NoTie := ne_NoDrawing_NoTie, sb_NoDrawing_NoTie := sb_NoDrawing_NoTie, ne_NoDrawing_NoTurn := ne_NoDrawing_NoTurn, sb_NoDrawing_NoTurn := sb_NoDrawing_NoTurn, ne_NoDrawing_NoWay := ne_NoDrawing_NoWay, sb_NoDrawing_NoWay := sb_NoDrawing_NoWay, ne_NoDrawing_NoWeight := ne_NoDrawing_NoWeight, sb_NoDrawing_NoWeight := sb_NoDrawing_NoWeight, ne_NoDrawing_NoWord := ne_NoDrawing_NoWord, sb_NoDrawing_NoWord := sb_NoDrawing_NoWord, ne_NoDrawing_OffFloor := ne_NoDrawing_OffFloor, sb_NoDrawing_OffFloor := sb_NoDrawing_OffFloor, ne_NoDrawing_OnShut := ne_NoDrawing_OnShut, sb_NoDrawing_OnShut := sb_NoDrawing_OnShut, ne_NoDrawing_Overlap := ne_NoDrawing_Overlap, sb_NoDrawing_Overlap := sb_NoDrawing_Overlap, ne_NoDrawing_TooMany := ne_NoDrawing_TooMany, sb_NoDrawing_TooMany := sb_NoDrawing_TooMany, ne_NoDrawing_TooNear := ne_NoDrawing_TooNear, sb_NoDrawing_TooNear := sb_NoDrawing_TooNear, sb_NoDrawing_ValueError := sb_NoDrawing_ValueError, n_ValueError := PySem.W.mg_none_of X G z_ValueError, n_all := PySem.W.mg_none_of X G z_all, n_bool := PySem.W.mg_none_of X G z_bool, n_enumerate := PySem.W.mg_none_of X G z_enumerate, n_int := PySem.W.mg_none_of X G z_int, n_isinstance := PySem.W.mg_none_of X G z_isinstance, n_len := PySem.W.mg_none_of X G z_len, n_list := PySem.W.mg_none_of X G z_list, n_max := PySem.W.mg_none_of X G z_max, n_min := PySem.W.mg_none_of X G z_min, n_range := PySem.W.mg_none_of X G z_range, n_set := PySem.W.mg_none_of X G z_set, n_sorted := PySem.W.mg_none_of X G z_sorted, n_str := PySem.W.mg_none_of X G z_str, n_tuple := PySem.W.mg_none_of X G z_tuple, a_KINDS := ga_KINDS, m_KINDS := PySem.W.mg_of X G gm_KINDS, t_KINDS := ⟨⟨_, _, _, gt_KINDS, rfl, rfl, (by rw [sizeLine_eq]; show 2 ≤ _; decide), (.cons ⟨_, rfl⟩ (.cons ⟨_, rfl⟩ .nil))⟩, by decide +kernel⟩, g_FIGURES := ⟨_, PySem.W.mg_of X G w_FIGURES⟩, g_LETTERS := ⟨_, PySem.W.mg_of X G w_LETTERS⟩, g_MOST_LEGS := ⟨_, PySem.W.mg_of X G w_MOST_LEGS⟩, g_MOST_SIDE := ⟨_, PySem.W.mg_of X G w_MOST_SIDE⟩, g_MOST_SIGNS := ⟨_, PySem.W.mg_of X G w_MOST_SIGNS⟩ }, rfl, fun s v => .of_eq rfl⟩
theorem walk {l : PySem.W.OpenLaw} {q : Program} {loose : List Str} {XP : (Str → Option Value) → Heap → Prop} {YP : World → Heap → Prop} {d : DefRec} {K : Params → PySem.W.Frag} (hn : l.most = some 63) (hdf : d.params.defaults = [])
    (hY : ∀ (w : World) (h : Heap), YP w h → (K w.params).In h)
    (F : ∀ (w : World) (mg : Str → Option Value) (fa : Addr) (h : Heap), (K w.params).In h → h.Ns mainGlobals mg → mg d.name = some (.ref fa) →
      ∃ T : Top (K w.params) mg, T.a_law = fa ∧ ∀ (s : Shared) (u : Value), BindsTo s T.fd_law ⟨[u], []⟩ [("_law_script", u)]) :
    PySem.W.WalkO q loose XP YP l.row.toRowW d [] (fun f vs => PySem.call f vs) :=
  L2.walk_of (n := 63) (k := 6) (x := "_law_script") (CX := fun w => L2.CX l.prog w) (sp := fun w => spLaw (K w.params)) hn (by decide) hdf ⟨rfl, by decide, by decide⟩ hY
    (fun w mg fa h X G hm => by
      obtain ⟨T, rfl, hb⟩ := F w mg fa h X G hm
      exact ⟨T.fd_law, hb, fun base _ _ => (ok_law T).imp fun vs H Q E h => law_sp h⟩)
    (fun _ _ a ns hl _ hS => ⟨a, ns, rfl, hS, hl, fun _ => rfl⟩) fun _ _ _ _ _ z => cx_no z
end
end B
set_option maxRecDepth 100000 in
set_option maxHeartbeats 0 in
theorem PySem.Challenge.cw_boardlay_k02_drawings_holds : PySem.Challenge.rw_boardlay_k02_drawings.Holds := by
  w_on; o_law; k_head; (case hw => w_witness2)
  k_fill
  refine B.walk (l := PySem.Challenge.rw_boardlay_k02_drawings) rfl rfl (fun w h Y => PySem.W.kIn_of Y) ?F
  case F =>
    intro w mg fa h KX G hmg
    refine' B.all_mk KX G hmg ?n0 ?l0 ?c0 ?k0 ?n1 ?l1 ?c1 ?k1 ?n2 ?l2 ?c2 ?k2 ?n3 ?l3 ?c3 ?k3 ?n4 ?l4 ?c4 ?k4 ?n5 ?l5 ?c5 ?k5 ?n6 ?l6 ?c6 ?k6 ?n7 ?l7 ?c7 ?k7 ?n8 ?l8 ?c8 ?k8 ?n9 ?l9 ?c9 ?k9 ?n10 ?l10 ?c10 ?k10 ?n11 ?l11 ?c11 ?k11 ?n12 ?l12 ?c12 ?k12 ?n13 ?l13 ?c13 ?k13 ?n14 ?l14 ?c14 ?k14 ?n15 ?l15 ?c15 ?k15 ?n16 ?l16 ?c16 ?k16 ?n17 ?l17 ?c17 ?k17 ?n18 ?l18 ?c18 ?k18 ?gx_BoardError ?gx_NoBytes ?gx_NoDeed ?gx_NoDrawing ?gx_NoOrder ?gx_NoPart ?gx_NoSize ?gx_NoSpot ?gx_NoText ?gx_NoTie ?gx_NoTurn ?gx_NoWay ?gx_NoWeight ?gx_NoWord ?gx_OffFloor ?gx_OnShut ?gx_Overlap ?gx_TooMany ?gx_TooNear ?hd_BoardError ?xt_BoardError ?hd_NoBytes ?xt_NoBytes ?hd_NoDeed ?xt_NoDeed ?hd_NoDrawing ?xt_NoDrawing ?hd_NoOrder ?xt_NoOrder ?hd_NoPart ?xt_NoPart ?hd_NoSize ?xt_NoSize ?hd_NoSpot ?xt_NoSpot ?hd_NoText ?xt_NoText ?hd_NoTie ?xt_NoTie ?hd_NoTurn ?xt_NoTurn ?hd_NoWay ?xt_NoWay ?hd_NoWeight ?xt_NoWeight ?hd_NoWord ?xt_NoWord ?hd_OffFloor ?xt_OffFloor ?hd_OnShut ?xt_OnShut ?hd_Overlap ?xt_Overlap ?hd_TooMany ?xt_TooMany ?hd_TooNear ?xt_TooNear ?xb_BoardError ?xx_NoDrawing ?xk_NoDrawing ?xb_NoDrawing ?xe_NoDrawing ?sb_NoDrawing_BoardError ?ne_NoDrawing_NoBytes ?sb_NoDrawing_NoBytes ?ne_NoDrawing_NoDeed ?sb_NoDrawing_NoDeed ?ne_NoDrawing_NoOrder ?sb_NoDrawing_NoOrder ?ne_NoDrawing_NoPart ?sb_NoDrawing_NoPart ?ne_NoDrawing_NoSize ?sb_NoDrawing_NoSize ?ne_NoDrawing_NoSpot ?sb_NoDrawing_NoSpot ?ne_NoDrawing_NoText ?sb_NoDrawing_NoText ?ne_NoDrawing_NoTie ?sb_NoDrawing_NoTie ?ne_NoDrawing_NoTurn ?sb_NoDrawing_NoTurn ?ne_NoDrawing_NoWay ?sb_NoDrawing_NoWay ?ne_NoDrawing_NoWeight ?sb_NoDrawing_NoWeight ?ne_NoDrawing_NoWord ?sb_NoDrawing_NoWord ?ne_NoDrawing_OffFloor ?sb_NoDrawing_OffFloor ?ne_NoDrawing_OnShut ?sb_NoDrawing_OnShut ?ne_NoDrawing_Overlap ?sb_NoDrawing_Overlap ?ne_NoDrawing_TooMany ?sb_NoDrawing_TooMany ?ne_NoDrawing_TooNear ?sb_NoDrawing_TooNear ?sb_NoDrawing_ValueError ?z_ValueError ?z_all ?z_bool ?z_enumerate ?z_int ?z_isinstance ?z_len ?z_list ?z_max ?z_min ?z_range ?z_set ?z_sorted ?z_str ?z_tuple ?w_FIGURES ?w_LETTERS ?w_MOST_LEGS ?w_MOST_SIDE ?w_MOST_SIGNS ?gm_KINDS ?gt_KINDS
    (case gx_BoardError => k_is); (case gx_NoBytes => k_is); (case gx_NoDeed => k_is); (case gx_NoDrawing => k_is); (case gx_NoOrder => k_is); (case gx_NoPart => k_is)
    (case gx_NoSize => k_is); (case gx_NoSpot => k_is); (case gx_NoText => k_is); (case gx_NoTie => k_is); (case gx_NoTurn => k_is); (case gx_NoWay => k_is)
    (case gx_NoWeight => k_is); (case gx_NoWord => k_is); (case gx_OffFloor => k_is); (case gx_OnShut => k_is); (case gx_Overlap => k_is); (case gx_TooMany => k_is)
    (case gx_TooNear => k_is); (case n0 => k_is); (case l0 => k_is); (case c0 => k_is); (case k0 => k_is); (case n1 => k_is)
    (case l1 => k_is); (case c1 => k_is); (case k1 => k_is); (case n2 => k_is); (case l2 => k_is); (case c2 => k_is)
    (case k2 => k_is); (case n3 => k_is); (case l3 => k_is); (case c3 => k_is); (case k3 => k_is); (case n4 => k_is)
    (case l4 => k_is); (case c4 => k_is); (case k4 => k_is); (case n5 => k_is); (case l5 => k_is); (case c5 => k_is)
    (case k5 => k_is); (case n6 => k_is); (case l6 => k_is); (case c6 => k_is); (case k6 => k_is); (case n7 => k_is)
    (case l7 => k_is); (case c7 => k_is); (case k7 => k_is); (case n8 => k_is); (case l8 => k_is); (case c8 => k_is)
    (case k8 => k_is); (case n9 => k_is); (case l9 => k_is); (case c9 => k_is); (case k9 => k_is); (case n10 => k_is)
    (case l10 => k_is); (case c10 => k_is); (case k10 => k_is); (case n11 => k_is); (case l11 => k_is); (case c11 => k_is)
    (case k11 => k_is); (case n12 => k_is); (case l12 => k_is); (case c12 => k_is); (case k12 => k_is); (case n13 => k_is)
    (case l13 => k_is); (case c13 => k_is); (case k13 => k_is); (case n14 => k_is); (case l14 => k_is); (case c14 => k_is)
    (case k14 => k_is); (case n15 => k_is); (case l15 => k_is); (case c15 => k_is); (case k15 => k_is); (case n16 => k_is)
    (case l16 => k_is); (case c16 => k_is); (case k16 => k_is); (case n17 => k_is); (case l17 => k_is); (case c17 => k_is)
    (case k17 => k_is); (case n18 => k_is); (case l18 => k_is); (case c18 => k_is); (case k18 => k_is); (case hd_BoardError => k_is)
    (case xt_BoardError => k_is); (case hd_NoBytes => k_is); (case xt_NoBytes => k_is); (case hd_NoDeed => k_is); (case xt_NoDeed => k_is); (case hd_NoDrawing => k_is)
    (case xt_NoDrawing => k_is); (case hd_NoOrder => k_is); (case xt_NoOrder => k_is); (case hd_NoPart => k_is); (case xt_NoPart => k_is); (case hd_NoSize => k_is)
    (case xt_NoSize => k_is); (case hd_NoSpot => k_is); (case xt_NoSpot => k_is); (case hd_NoText => k_is); (case xt_NoText => k_is); (case hd_NoTie => k_is)
    (case xt_NoTie => k_is); (case hd_NoTurn => k_is); (case xt_NoTurn => k_is); (case hd_NoWay => k_is); (case xt_NoWay => k_is); (case hd_NoWeight => k_is)
    (case xt_NoWeight => k_is); (case hd_NoWord => k_is); (case xt_NoWord => k_is); (case hd_OffFloor => k_is); (case xt_OffFloor => k_is); (case hd_OnShut => k_is)
    (case xt_OnShut => k_is); (case hd_Overlap => k_is); (case xt_Overlap => k_is); (case hd_TooMany => k_is); (case xt_TooMany => k_is); (case hd_TooNear => k_is)
    (case xt_TooNear => k_is); (case xb_BoardError => k_is); (case xx_NoDrawing => k_exc); (case xk_NoDrawing => k_is); (case xb_NoDrawing => k_is); (case xe_NoDrawing => constructor <;> k_is)
    (case sb_NoDrawing_BoardError => k_is); (case ne_NoDrawing_NoBytes => decide); (case sb_NoDrawing_NoBytes => k_is); (case ne_NoDrawing_NoDeed => decide); (case sb_NoDrawing_NoDeed => k_is); (case ne_NoDrawing_NoOrder => decide)
    (case sb_NoDrawing_NoOrder => k_is); (case ne_NoDrawing_NoPart => decide); (case sb_NoDrawing_NoPart => k_is); (case ne_NoDrawing_NoSize => decide); (case sb_NoDrawing_NoSize => k_is); (case ne_NoDrawing_NoSpot => decide)
    (case sb_NoDrawing_NoSpot => k_is); (case ne_NoDrawing_NoText => decide); (case sb_NoDrawing_NoText => k_is); (case ne_NoDrawing_NoTie => decide); (case sb_NoDrawing_NoTie => k_is); (case ne_NoDrawing_NoTurn => decide)
    (case sb_NoDrawing_NoTurn => k_is); (case ne_NoDrawing_NoWay => decide); (case sb_NoDrawing_NoWay => k_is); (case ne_NoDrawing_NoWeight => decide); (case sb_NoDrawing_NoWeight => k_is); (case ne_NoDrawing_NoWord => decide)
    (case sb_NoDrawing_NoWord => k_is); (case ne_NoDrawing_OffFloor => decide); (case sb_NoDrawing_OffFloor => k_is); (case ne_NoDrawing_OnShut => decide); (case sb_NoDrawing_OnShut => k_is); (case ne_NoDrawing_Overlap => decide)
    (case sb_NoDrawing_Overlap => k_is); (case ne_NoDrawing_TooMany => decide); (case sb_NoDrawing_TooMany => k_is); (case ne_NoDrawing_TooNear => decide); (case sb_NoDrawing_TooNear => k_is); (case sb_NoDrawing_ValueError => k_is)
    (case z_ValueError => k_is); (case z_all => k_is); (case z_bool => k_is); (case z_enumerate => k_is); (case z_int => k_is); (case z_isinstance => k_is)
    (case z_len => k_is); (case z_list => k_is); (case z_max => k_is); (case z_min => k_is); (case z_range => k_is); (case z_set => k_is)
    (case z_sorted => k_is); (case z_str => k_is); (case z_tuple => k_is); (case w_FIGURES => k_is); (case w_LETTERS => k_is); (case w_MOST_LEGS => k_is)
    (case w_MOST_SIDE => k_is); (case w_MOST_SIGNS => k_is); (case gm_KINDS => k_is); (case gt_KINDS => k_is)
