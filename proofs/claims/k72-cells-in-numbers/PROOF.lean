import PyProof.Rows.All
import Wide.All
import OpenK.AllK
import Wide.FinOn
import HandS.ForMost
import HandS.ForExc
import HandS.Walk
import HandS.Lambda
import HandS.ExcOwn
import HandS.CallSlots
import HandS.TupAny
import HandS.TupMul
import HandS.IsInst
import HandS.Deep
import HandS.WordsDict
import HandS.Text
import HandS.ExcIs
import KE.KExcIs
import HandS.Defaults
import HandS.Zip
import HandS.Conv
import HandS.TupLen
import HandS.DictTup
import HandS.Small
import PyProof.Rows.BitMore
import KE.KDictCopyH
import KE.KDictKeyed
import KE.KDictPairs
import PyProof.DictMoreH
import KE.SortData
import HandS.SortInts
import KE.GoesEnum
import KE.DataFind
import HandS.Style
import HandS.ListItems
import HandS.TupSets
import HandS.SetKeys
import HandS.TryOnly
import HandS.NestedK
import HandS.EndTab
import KE.KEqDict
import HandS.DictEq
import HandS.SortKw
import KE.DataMinMax
import HandS.SetTxt0
import HandS.SuiteRaise
import HandS.Iter
import HandS.More
import PyProof.StrOps2
import HandS.Flt
import HandS.ExcInit
import HandS.ClsMeth
import HandS.ExcField
import HandS.Comp
import HandS.FStr
import HandS.RaiseMore
import PySem.Challenge.RW_boardlay_k72_cells_in_numbers
set_option Elab.async false
set_option linter.all false
set_option maxRecDepth 100000
set_option maxHeartbeats 4000000
/-! The data layer: contracts over plain data instead of heaps. -/
namespace DL
open PySem L2
/-- an exception: its class, its fields (of a class with an own __init__) -/
structure Exn where
  c : Addr
  fs : Option (List (Str × PyData))
/-- a value that stays what it is, whatever comes behind -/
structure Per where
  φ : PySem.W.Frag → Hp → V → Prop
  mono : ∀ {K : PySem.W.Frag} {F F' : Hp} {v : V}, Same F F' → φ K F v → φ K F' v
/-- what a node of a tree is -/
inductive Knd where
  | lst
  | tup
  | dck (ks : List Key)
  | dct (ks : List (List Key))
  | ins (C : Addr) (fs : List Str)
  | gho
/-- what a cell owns, its parts told by their addresses -/
inductive Tree where
  | dat (d : PyData)
  | per (c : Per)
  | nod (k : Knd) (b : Addr) (ts : List Tree)
/-- a value as the contracts see it: data, a cell of the store, a list that nobody else has, any other -/
inductive EV where
  | dat (d : PyData)
  | loc (n : Nat)
  | new (xs : List PyData)
  | raw (v : V)
  | exc (x : Exn)
  | ro (xs : List PyData)
  | newd (kvs : List (List Key × PyData))
  | newk (kvs : List (Key × PyData))
  | at (n : Nat) (p : List Nat) (b : Addr)
  | newo (t : Tree)
  | per (c : Per)
/-- a cell: a list that may change, one that may not any more, a dict -/
inductive Cell where
  | lst (xs : List PyData)
  | frz (xs : List PyData)
  | dct (kvs : List (List Key × PyData))
  | dck (kvs : List (Key × PyData))
  | abs (P : List PyData → Prop)
  | tab (P : Addr) (nm : Str)
  | own (t : Tree)
  | dead
abbrev Mu := List Cell
abbrev DEnv := List (Option EV)
/-- dicts' keys: ints and texts, or tuples of such -/
def keyD : Key → PyData
  | .inl i => .int i
  | .inr x => .str x
/-- a key's text can be laid -/
def keyOk : Key → Prop
  | .inl _ => True
  | .inr x => PyData.strOk x = true
/-- the keys are alike -/
def sameT (ks : List (List Key × V)) (kvs : List (List Key × PyData)) : Prop := ks.map (·.1) = kvs.map (·.1) ∧ ∀ p ∈ kvs, ∀ k ∈ p.1, keyOk k
def sameK (ks : List (Key × V)) (kvs : List (Key × PyData)) : Prop := ks.map (·.1) = kvs.map (·.1) ∧ ∀ p ∈ kvs, keyOk p.1
/-- .. as data -/
def kvT (kvs : List (List Key × PyData)) : List (PyData × PyData) := kvs.map fun p => (.tuple (p.1.map keyD), p.2)
def kvK (kvs : List (Key × PyData)) : List (PyData × PyData) := kvs.map fun p => (keyD p.1, p.2)
mutual
/-- a value that is data, in the still part F of the heap -/
inductive DR (K : PySem.W.Frag) (F : Hp) : V → PyData → Prop
  | non : DR K F .non .none
  | bl (b : Bool) : DR K F (.bl b) (.bool b)
  | int (i : Int) : DR K F (.int i) (.int i)
  | str (x : Str) : PyData.strOk x = true → DR K F (.str x) (.str x)
  | lst {a : Addr} {vs : List V} {ds : List PyData} : F a = some (.lst vs) → DRs K F vs ds → DR K F (.ref a) (.list ds)
  | tup {a : Addr} {vs : List V} {ds : List PyData} : F a = some (.tup vs) → DRs K F vs ds → DR K F (.ref a) (.tuple ds)
  | dcT {a : Addr} {od : Obj} {ks : List (List Key × V)} {kvs : List (List Key × PyData)} {d : List (PyData × PyData)} : F a = some (.frz od (.dT ks)) → sameT ks kvs → DRs K F (ks.map (·.2)) (kvs.map (·.2)) → d = kvT kvs → DR K F (.ref a) (.dict d)
  | dcK {a : Addr} {od : Obj} {ks : List (Key × V)} {kvs : List (Key × PyData)} {d : List (PyData × PyData)} : F a = some (.frz od (.dK ks)) → sameK ks kvs → DRs K F (ks.map (·.2)) (kvs.map (·.2)) → d = kvK kvs → kvs ≠ [] → DR K F (.ref a) (.dict d)
inductive DRs (K : PySem.W.Frag) (F : Hp) : List V → List PyData → Prop
  | nil : DRs K F [] []
  | cons {v : V} {vs : List V} {d : PyData} {ds : List PyData} : DR K F v d → DRs K F vs ds → DRs K F (v :: vs) (d :: ds)
end
mutual
theorem DR.mono {K : PySem.W.Frag} {F F' : Hp} (e : Same F F') : ∀ {v : V} {d : PyData}, DR K F v d → DR K F' v d
  | _, _, .non => .non
  | _, _, .bl b => .bl b
  | _, _, .int i => .int i
  | _, _, .str x h => .str x h
  | _, _, .lst h hs => .lst (e _ _ h) (DRs.mono e hs)
  | _, _, .tup h hs => .tup (e _ _ h) (DRs.mono e hs)
  | _, _, .dcT h k hs e' => .dcT (e _ _ h) k (DRs.mono e hs) e'
  | _, _, .dcK h k hs e' n' => .dcK (e _ _ h) k (DRs.mono e hs) e' n'
theorem DRs.mono {K : PySem.W.Frag} {F F' : Hp} (e : Same F F') : ∀ {vs : List V} {ds : List PyData}, DRs K F vs ds → DRs K F' vs ds
  | _, _, .nil => .nil
  | _, _, .cons h hs => .cons (DR.mono e h) (DRs.mono e hs)
end
mutual
/-- no dict in it -/
def noD : PyData → Bool
  | .dict _ => false
  | .list xs => noDs xs
  | .tuple xs => noDs xs
  | .none => true
  | .bool _ => true
  | .int _ => true
  | .str _ => true
def noDs : List PyData → Bool
  | [] => true
  | x :: xs => noD x && noDs xs
end
mutual
theorem DR.dp {K : PySem.W.Frag} {F : Hp} : ∀ {v : V} {d : PyData}, DR K F v d → noD d = true → Dp K F v d
  | _, _, .non, _ => .non
  | _, _, .bl b, _ => .bl b
  | _, _, .int i, _ => .int i
  | _, _, .str x _, _ => .str x
  | _, _, .lst h hs, n => .lst (SqL.of h) (DRs.dp hs (by simpa [noD] using n))
  | _, _, .tup h hs, n => .tup (SqT.of h) (DRs.dp hs (by simpa [noD] using n))
  | _, _, .dcT _ _ _ _, n => by simp [noD] at n
  | _, _, .dcK _ _ _ _ _, n => by simp [noD] at n
theorem DRs.dp {K : PySem.W.Frag} {F : Hp} : ∀ {vs : List V} {ds : List PyData}, DRs K F vs ds → noDs ds = true → DpAll K F vs ds
  | _, _, .nil, _ => .nil
  | _, _, .cons h hs, n => .cons (DR.dp h (by simp [noDs] at n; exact n.1)) (DRs.dp hs (by simp [noDs] at n; exact n.2))
end
mutual
theorem DR.lay {K : PySem.W.Frag} {F : Hp} : ∀ {v : V} {d : PyData}, DR K F v d → noD d = true → d.canLay0 = true
  | _, _, .non, _ => by simp [PyData.canLay0]
  | _, _, .bl b, _ => by simp [PyData.canLay0]
  | _, _, .int i, _ => by simp [PyData.canLay0]
  | _, _, .str x h, _ => by simpa [PyData.canLay0] using h
  | _, _, .lst h hs, n => by simpa [PyData.canLay0] using DRs.lay hs (by simpa [noD] using n)
  | _, _, .tup h hs, n => by simpa [PyData.canLay0] using DRs.lay hs (by simpa [noD] using n)
  | _, _, .dcT _ _ _ _, n => by simp [noD] at n
  | _, _, .dcK _ _ _ _ _, n => by simp [noD] at n
theorem DRs.lay {K : PySem.W.Frag} {F : Hp} : ∀ {vs : List V} {ds : List PyData}, DRs K F vs ds → noDs ds = true → PyData.canLayAll0 ds = true
  | _, _, .nil, _ => by simp [PyData.canLayAll0]
  | _, _, .cons h hs, n => by
    simp [noDs] at n
    simp [PyData.canLayAll0, DR.lay h n.1, DRs.lay hs n.2]
end
theorem DRs.length {K : PySem.W.Frag} {F : Hp} : ∀ {vs : List V} {ds : List PyData}, DRs K F vs ds → vs.length = ds.length
  | _, _, .nil => rfl
  | _, _, .cons _ hs => by rw [List.length_cons, List.length_cons, DRs.length hs]
theorem DRs.append {K : PySem.W.Frag} {F : Hp} : ∀ {vs ws : List V} {ds es : List PyData}, DRs K F vs ds → DRs K F ws es → DRs K F (vs ++ ws) (ds ++ es)
  | _, _, _, _, .nil, s => s
  | _, _, _, _, .cons h hs, s => .cons h (DRs.append hs s)
theorem DRs.get {K : PySem.W.Frag} {F : Hp} : ∀ {vs : List V} {ds : List PyData} {i : Nat} {d : PyData}, DRs K F vs ds → ds[i]? = some d → ∃ v, vs[i]? = some v ∧ DR K F v d
  | _, _, _, _, .nil, e => by simp at e
  | _, _, 0, _, .cons h _, e => by simp at e; subst e; exact ⟨_, rfl, h⟩
  | _, _, i + 1, d, .cons _ hs, e => by
    obtain ⟨v, h1, h2⟩ := DRs.get (i := i) (d := d) hs (by simpa using e)
    exact ⟨v, by simpa using h1, h2⟩
theorem DRs.getV {K : PySem.W.Frag} {F : Hp} : ∀ {vs : List V} {ds : List PyData} {i : Nat} {v : V}, DRs K F vs ds → vs[i]? = some v → ∃ d, ds[i]? = some d ∧ DR K F v d
  | _, _, _, _, .nil, e => by simp at e
  | _, _, 0, _, .cons h _, e => by simp at e; subst e; exact ⟨_, rfl, h⟩
  | _, _, i + 1, v, .cons _ hs, e => by
    obtain ⟨d, h1, h2⟩ := DRs.getV (i := i) (v := v) hs (by simpa using e)
    exact ⟨d, by simpa using h1, h2⟩
theorem DRs.set {K : PySem.W.Frag} {F : Hp} {v : V} {d : PyData} (r : DR K F v d) : ∀ {vs : List V} {ds : List PyData} (i : Nat), DRs K F vs ds → DRs K F (vs.set i v) (ds.set i d)
  | _, _, _, .nil => .nil
  | _, _, 0, .cons _ hs => .cons r hs
  | _, _, i + 1, .cons h hs => .cons h (DRs.set r i hs)
theorem DRs.take {K : PySem.W.Frag} {F : Hp} : ∀ {vs : List V} {ds : List PyData} (i : Nat), DRs K F vs ds → DRs K F (vs.take i) (ds.take i)
  | _, _, 0, _ => .nil
  | _, _, _ + 1, .nil => .nil
  | _, _, i + 1, .cons h hs => .cons h (DRs.take i hs)
theorem DRs.drop {K : PySem.W.Frag} {F : Hp} : ∀ {vs : List V} {ds : List PyData} (i : Nat), DRs K F vs ds → DRs K F (vs.drop i) (ds.drop i)
  | _, _, 0, h => h
  | _, _, _ + 1, .nil => .nil
  | _, _, i + 1, .cons _ hs => DRs.drop i hs
/-! trees -/
mutual
/-- the addresses of a tree's own parts -/
def addrs : Tree → List Addr
  | .dat _ => []
  | .per _ => []
  | .nod _ b ts => b :: addrsL ts
def addrsL : List Tree → List Addr
  | [] => []
  | t :: ts => addrs t ++ addrsL ts
end
theorem addrs_dat {d : PyData} : addrs (.dat d) = [] := by rw [addrs]
theorem addrs_per {d : Per} : addrs (.per d) = [] := by rw [addrs]
theorem addrs_nod {k : Knd} {b : Addr} {ts : List Tree} : addrs (.nod k b ts) = b :: addrsL ts := by rw [addrs]
theorem addrsL_nil : addrsL [] = [] := by rw [addrsL]
theorem addrsL_cons {t : Tree} {ts : List Tree} : addrsL (t :: ts) = addrs t ++ addrsL ts := by rw [addrsL]
/-- what stands at a node's address -/
def HeapIs (H : Hp) (b : Addr) : Knd → List V → Prop
  | .lst, vs => H b = some (.lst vs)
  | .tup, vs => H b = some (.tup vs)
  | .dck ks, vs => H b = some (.dK (ks.zip vs)) ∧ ks.length = vs.length ∧ ks.Nodup ∧ ∀ k ∈ ks, keyOk k
  | .dct ks, vs => H b = some (.dT (ks.zip vs)) ∧ ks.length = vs.length ∧ ks.Nodup ∧ ∀ k ∈ ks, ∀ x ∈ k, keyOk x
  | .ins C fs, vs => ∃ dx, H b = some (.ins C dx (fs.zip vs)) ∧ fs.length = vs.length
  | .gho, _ => ∃ o, H b = some o ∧ ∀ ws, o ≠ .tup ws
theorem HeapIs.congr {H H' : Hp} {b : Addr} {k : Knd} {vs : List V} (h : HeapIs H b k vs) (e : H' b = H b) : HeapIs H' b k vs := by
  cases k with
  | lst => exact e.trans h
  | tup => exact e.trans h
  | dck ks => exact ⟨e.trans h.1, h.2⟩
  | dct ks => exact ⟨e.trans h.1, h.2⟩
  | ins C fs => obtain ⟨dx, h1, h2⟩ := h; exact ⟨dx, e.trans h1, h2⟩
  | gho => obtain ⟨o, h1, h2⟩ := h; exact ⟨o, e.trans h1, h2⟩
theorem HeapIs.here {H : Hp} {b : Addr} {k : Knd} {vs : List V} (h : HeapIs H b k vs) : H b ≠ none := by
  cases k with
  | lst => intro z; rw [show H b = some (.lst vs) from h] at z; cases z
  | tup => intro z; rw [show H b = some (.tup vs) from h] at z; cases z
  | dck ks => intro z; rw [h.1] at z; cases z
  | dct ks => intro z; rw [h.1] at z; cases z
  | ins C fs => obtain ⟨dx, h1, h2⟩ := h; intro z; rw [h1] at z; cases z
  | gho => obtain ⟨o, h1, h2⟩ := h; intro z; rw [h1] at z; cases z
def isTupK : Knd → Prop
  | .tup => True
  | _ => False
mutual
/-- a value that is the root of a tree -/
inductive TreeR (K : PySem.W.Frag) (F H : Hp) : V → Tree → Prop
  | dat {v : V} {d : PyData} : DR K F v d → TreeR K F H v (.dat d)
  | per {v : V} {c : Per} : c.φ K F v → TreeR K F H v (.per c)
  | nod {k : Knd} {b : Addr} {vs : List V} {ts : List Tree} : HeapIs H b k vs → (isTupK k ∨ F b = none) → TreesR K F H vs ts → TreeR K F H (.ref b) (.nod k b ts)
inductive TreesR (K : PySem.W.Frag) (F H : Hp) : List V → List Tree → Prop
  | nil : TreesR K F H [] []
  | cons {v : V} {vs : List V} {t : Tree} {ts : List Tree} : TreeR K F H v t → TreesR K F H vs ts → TreesR K F H (v :: vs) (t :: ts)
end
/-- F grows, nothing at the tree's own addresses changes -/
def Keeps (F H F' H' : Hp) (a : Addr) : Prop := H' a = H a ∧ (F a = none → (∀ vs, H a ≠ some (.tup vs)) → F' a = none)
mutual
theorem TreeR.keeps {K : PySem.W.Frag} {F H F' H' : Hp} (e : Same F F') : ∀ {v : V} {t : Tree}, TreeR K F H v t → (∀ a ∈ addrs t, Keeps F H F' H' a) → TreeR K F' H' v t
  | _, _, .dat h, _ => .dat (h.mono e)
  | _, _, .per (c := c) h, _ => .per (c.mono e h)
  | _, _, .nod (k := k) (b := b) (vs := vs) (ts := ts) h n hs, q => by
    have q0 := q b (by rw [addrs_nod]; exact List.mem_cons_self)
    refine .nod (h.congr q0.1) ?_ (TreesR.keeps e hs fun a ha => q a (by rw [addrs_nod]; exact List.mem_cons_of_mem _ ha))
    rcases n with n | n
    · exact .inl n
    · cases k with
      | tup => exact .inl trivial
      | lst => exact .inr (q0.2 n fun ws z => by rw [show H b = some (.lst vs) from h] at z; cases z)
      | dck ks => exact .inr (q0.2 n fun ws z => by rw [h.1] at z; cases z)
      | dct ks => exact .inr (q0.2 n fun ws z => by rw [h.1] at z; cases z)
      | ins C fs => exact .inr (q0.2 n fun ws z => by obtain ⟨dx, h1, h2⟩ := h; rw [h1] at z; cases z)
      | gho => exact .inr (q0.2 n fun ws z => by obtain ⟨o, h1, h2⟩ := h; rw [h1] at z; cases z; exact h2 _ rfl)
theorem TreesR.keeps {K : PySem.W.Frag} {F H F' H' : Hp} (e : Same F F') : ∀ {vs : List V} {ts : List Tree}, TreesR K F H vs ts → (∀ a ∈ addrsL ts, Keeps F H F' H' a) → TreesR K F' H' vs ts
  | _, _, .nil, _ => .nil
  | _, _, .cons h hs, q => .cons (TreeR.keeps e h fun a ha => q a (by rw [addrsL_cons]; exact List.mem_append_left _ ha)) (TreesR.keeps e hs fun a ha => q a (by rw [addrsL_cons]; exact List.mem_append_right _ ha))
end
mutual
theorem TreeR.live {K : PySem.W.Frag} {F H : Hp} : ∀ {v : V} {t : Tree}, TreeR K F H v t → ∀ a ∈ addrs t, H a ≠ none
  | _, _, .dat _, a, ha => by rw [addrs_dat] at ha; cases ha
  | _, _, .per _, a, ha => by rw [addrs_per] at ha; cases ha
  | _, _, .nod h _ hs, a, ha => by
    rw [addrs_nod] at ha
    rcases List.mem_cons.mp ha with rfl | ha
    · exact h.here
    · exact TreesR.live hs a ha
theorem TreesR.live {K : PySem.W.Frag} {F H : Hp} : ∀ {vs : List V} {ts : List Tree}, TreesR K F H vs ts → ∀ a ∈ addrsL ts, H a ≠ none
  | _, _, .nil, a, ha => by rw [addrsL_nil] at ha; cases ha
  | _, _, .cons h hs, a, ha => by
    rw [addrsL_cons] at ha
    rcases List.mem_append.mp ha with ha | ha
    · exact TreeR.live h a ha
    · exact TreesR.live hs a ha
end
/-- a world: the tracked heap, its still part, where the cells lie, what each owns -/
structure Wd where
  H : Hp
  F : Hp
  L : Nat → Addr
  O : Nat → Addr → Prop
/-- the addresses that a cell of the first N owns -/
abbrev NL (s : Wd) (N : Nat) (a : Addr) : Prop := ∀ m, m < N → ¬ s.O m a
/-- a table of code objects at P, each of the name nm -/
structure TabAt (F H : Hp) (a : Addr) (nm : Str) : Prop where
  nf : F a = none
  ex : ∃ ps : Array Value, H a = some (.tbl ps) ∧ TriplesOk ps.toList ∧ ∀ (pos : Pos) (cv : Value), codeAmong pos ps.toList = some cv → ∃ c, cv = .ref c ∧ F c = some (LamX.CodeO c nm)
theorem TabAt.to {F H F' H' : Hp} {a : Addr} {nm : Str} (h : TabAt F H a nm) (e : Same F F') (hf : F' a = none) (hh : ∀ ps, H a = some (.tbl ps) → H' a = some (.tbl ps)) : TabAt F' H' a nm := by
  obtain ⟨_, ps, h1, h2, h3⟩ := h
  refine ⟨hf, ps, hh _ h1, h2, fun pos cv hc => ?_⟩
  obtain ⟨c, e1, e2⟩ := h3 pos cv hc
  exact ⟨c, e1, e _ _ e2⟩
def CellAt (K : PySem.W.Frag) (s : Wd) (a : Addr) : Cell → Prop
  | .lst xs => s.F a = none ∧ ∃ vs, s.H a = some (.lst vs) ∧ DRs K s.F vs xs
  | .frz xs => ∃ vs, s.F a = some (.lst vs) ∧ DRs K s.F vs xs
  | .dct kvs => s.F a = none ∧ ∃ ks : List (List Key × V), s.H a = some (.dT ks) ∧ sameT ks kvs ∧ DRs K s.F (ks.map (·.2)) (kvs.map (·.2))
  | .dck kvs => s.F a = none ∧ ∃ ks : List (Key × V), s.H a = some (.dK ks) ∧ sameK ks kvs ∧ DRs K s.F (ks.map (·.2)) (kvs.map (·.2))
  | .abs P => ∃ xs, P xs ∧ s.F a = none ∧ ∃ vs, s.H a = some (.lst vs) ∧ DRs K s.F vs xs
  | .tab P nm => a = P ∧ TabAt s.F s.H a nm
  | .own _ => s.H a ≠ none
  | .dead => s.H a ≠ none
/-- the tree that cell n owns -/
structure OwnAt (K : PySem.W.Frag) (s : Wd) (n : Nat) (t : Tree) : Prop where
  is : TreeR K s.F s.H (.ref (s.L n)) t
  nd : (addrs t).Nodup
  own : ∀ a ∈ addrs t, s.O n a
structure Rep (K : PySem.W.Frag) (s : Wd) (μ : Mu) : Prop where
  sub : Same s.F s.H
  cell : ∀ n c, μ[n]? = some c → CellAt K s (s.L n) c
  dis : ∀ m n a, m < μ.length → n < μ.length → s.O m a → s.O n a → m = n
  root : ∀ n, n < μ.length → s.O n (s.L n)
  live : ∀ n a, n < μ.length → s.O n a → s.H a ≠ none
  tree : ∀ n t, μ[n]? = some (.own t) → OwnAt K s n t
theorem Rep.inj {K : PySem.W.Frag} {s : Wd} {μ : Mu} (R : Rep K s μ) (m n : Nat) (hm : m < μ.length) (hn : n < μ.length) (e : s.L m = s.L n) : m = n :=
  R.dis m n (s.L m) hm hn (R.root m hm) (by rw [e]; exact R.root n hn)
theorem Rep.rootNe {K : PySem.W.Frag} {s : Wd} {μ : Mu} (R : Rep K s μ) {p : Addr} (h : NL s μ.length p) : ∀ m, m < μ.length → s.L m ≠ p := fun m hm e => h m hm (e ▸ R.root m hm)
theorem CellAt.here {K : PySem.W.Frag} {s : Wd} {a : Addr} {c : Cell} (h : CellAt K s a c) (sub : Same s.F s.H) : s.H a ≠ none := by
  cases c with
  | lst xs => obtain ⟨_, vs, e, _⟩ := h; rw [e]; simp
  | frz xs => obtain ⟨vs, e, _⟩ := h; rw [sub _ _ e]; simp
  | dct kvs =>
    obtain ⟨_, ks, e, _⟩ := h
    rw [e]; simp
  | dck kvs =>
    obtain ⟨_, ks, e, _⟩ := h
    rw [e]; simp
  | abs P => obtain ⟨xs, _, _, vs, e, _⟩ := h; rw [e]; simp
  | tab P nm => obtain ⟨_, _, ps, e, _⟩ := h; rw [e]; simp
  | own t => exact h
  | dead => exact h
theorem Rep.here {K : PySem.W.Frag} {s : Wd} {μ : Mu} (R : Rep K s μ) {n : Nat} (h : n < μ.length) : s.H (s.L n) ≠ none := R.live n _ h (R.root n h)
/-- from s with N cells to s' with N' -/
structure Ext (s : Wd) (N : Nat) (s' : Wd) (N' : Nat) : Prop where
  f : Same s.F s'.F
  l : ∀ n, n < N → s'.L n = s.L n
  le : N ≤ N'
  keep : ∀ a o, s.H a = some o → NL s N a → s'.H a = some o
  fnew : ∀ a, s.F a = none → NL s N a → s.H a ≠ none → (∀ vs, s.H a ≠ some (.tup vs)) → s'.F a = none
  lnew : ∀ n, N ≤ n → n < N' → s.H (s'.L n) = none
  onew : ∀ n a, n < N' → s'.O n a → s.H a = none ∨ (n < N ∧ s.O n a)
  alive : ∀ a, s.H a ≠ none → s'.H a ≠ none
theorem Ext.refl (s : Wd) (N : Nat) : Ext s N s N := ⟨fun _ _ h => h, fun _ _ => rfl, Nat.le_refl _, fun _ _ h _ => h, fun _ h _ _ _ => h, fun n h1 h2 => absurd h1 (Nat.not_le_of_lt h2), fun n a h1 h2 => .inr ⟨h1, h2⟩, fun _ h => h⟩
theorem Ext.out {s s1 : Wd} {N N1 : Nat} (a : Ext s N s1 N1) {c : Addr} (hc : s.H c ≠ none) (hn : NL s N c) : NL s1 N1 c := fun n hn1 e => by
  rcases a.onew n c hn1 e with h | ⟨h1, h2⟩
  · exact hc h
  · exact hn n h1 h2
theorem Ext.trans {s s1 s2 : Wd} {N N1 N2 : Nat} (a : Ext s N s1 N1) (b : Ext s1 N1 s2 N2) (_h1 : ∀ n, n < N1 → s1.H (s1.L n) ≠ none) : Ext s N s2 N2 := by
  refine ⟨fun x o h => b.f x o (a.f x o h), fun n h => (b.l n (Nat.lt_of_lt_of_le h a.le)).trans (a.l n h), Nat.le_trans a.le b.le, fun x o h hn => b.keep x o (a.keep x o h hn) (a.out (by rw [h]; simp) hn), fun x hf hn hx ht => ?_, fun n hn hn2 => ?_, fun n x hn hx => ?_, fun x h => b.alive x (a.alive x h)⟩
  · have kx : ∀ o, s.H x = some o → s1.H x = some o := fun o q => a.keep x o q hn
    refine b.fnew x (a.fnew x hf hn hx ht) (a.out hx hn) ?_ ?_
    · exact a.alive x hx
    · cases q : s.H x with
      | none => exact absurd q hx
      | some o =>
        intro vs z
        rw [kx o q] at z
        exact ht vs (by rw [q]; exact z)
  · by_cases h : n < N1
    · rw [b.l n h]
      exact a.lnew n hn h
    · have q := b.lnew n (Nat.le_of_not_lt h) hn2
      cases e : s.H (s2.L n) with
      | none => rfl
      | some o => exact absurd q (a.alive _ (by rw [e]; simp))
  · rcases b.onew n x hn hx with h | ⟨h1, h2⟩
    · left
      cases e : s.H x with
      | none => rfl
      | some o => exact absurd h (a.alive _ (by rw [e]; simp))
    · exact a.onew n x h1 h2
/-- an exception's object -/
def excO (a : Addr) (cls : Value) (d : Option Addr) : HO := .ext fun h => ∃ (oe : Obj) (vs : Array Value), h.get? a = some oe ∧ Zc cls d oe ∧ oe.data = .fields vs
def excAt (K : PySem.W.Frag) (s : Wd) (v : V) (x : Exn) : Prop := ∃ a d, v = .ref a ∧ s.F a = some (excO a (.ref x.c) d) ∧ (x.fs = none → d = none) ∧ ∀ fs, x.fs = some fs → ∃ dd vs, d = some dd ∧ s.F dd = some (.xd vs) ∧ vs.map (·.1) = fs.map (·.1) ∧ DRs K s.F (vs.map (·.2)) (fs.map (·.2))
/-- a value as it is seen in a world with N cells -/
def VR (K : PySem.W.Frag) (s : Wd) (N : Nat) (v : V) : EV → Prop
  | .dat d => DR K s.F v d
  | .loc n => n < N ∧ v = .ref (s.L n)
  | .new xs => ∃ p vs, v = .ref p ∧ s.H p = some (.lst vs) ∧ s.F p = none ∧ NL s N p ∧ DRs K s.F vs xs
  | .raw u => v = u
  | .exc x => excAt K s v x
  | .ro xs => ∃ a vs, v = .ref a ∧ SqL K s.F a vs ∧ DRs K s.F vs xs
  | .newd kvs => ∃ p ks, v = .ref p ∧ s.H p = some (.dT ks) ∧ s.F p = none ∧ NL s N p ∧ sameT ks kvs ∧ DRs K s.F (ks.map (·.2)) (kvs.map (·.2))
  | .newk kvs => ∃ p ks, v = .ref p ∧ s.H p = some (.dK ks) ∧ s.F p = none ∧ NL s N p ∧ sameK ks kvs ∧ DRs K s.F (ks.map (·.2)) (kvs.map (·.2))
  | .at _ _ b => v = .ref b
  | .newo t => (∃ p, v = .ref p ∧ p ∈ addrs t) ∧ TreeR K s.F s.H v t ∧ (addrs t).Nodup ∧ ∀ a ∈ addrs t, NL s N a
  | .per c => c.φ K s.F v
theorem VR.ext {K : PySem.W.Frag} {s s' : Wd} {N N' : Nat} {v : V} {e : EV} (h : VR K s N v e) (x : Ext s N s' N') : VR K s' N' v e := by
  cases e with
  | dat d => exact DR.mono x.f h
  | loc n => exact ⟨Nat.lt_of_lt_of_le h.1 x.le, by rw [x.l n h.1]; exact h.2⟩
  | new xs =>
    obtain ⟨p, vs, e1, e2, e3, e4, e5⟩ := h
    exact ⟨p, vs, e1, x.keep p _ e2 e4, x.fnew p e3 e4 (by rw [e2]; simp) (by intro vs z; rw [e2] at z; cases z), x.out (by rw [e2]; simp) e4, e5.mono x.f⟩
  | raw u => exact h
  | exc y =>
    obtain ⟨a, d, e1, e2, e3, e4⟩ := h
    refine ⟨a, d, e1, x.f _ _ e2, e3, fun fs hf => ?_⟩
    obtain ⟨dd, vs, h1, h2, h3, h4⟩ := e4 fs hf
    exact ⟨dd, vs, h1, x.f _ _ h2, h3, h4.mono x.f⟩
  | ro xs =>
    obtain ⟨a, vs, e1, e2, e3⟩ := h
    exact ⟨a, vs, e1, x.f.seq e2, e3.mono x.f⟩
  | newd kvs =>
    obtain ⟨p, ks, e1, e2, e3, e4, e5, e6⟩ := h
    exact ⟨p, ks, e1, x.keep p _ e2 e4, x.fnew p e3 e4 (by rw [e2]; simp) (by intro vs z; rw [e2] at z; cases z), x.out (by rw [e2]; simp) e4, e5, e6.mono x.f⟩
  | newk kvs =>
    obtain ⟨p, ks, e1, e2, e3, e4, e5, e6⟩ := h
    exact ⟨p, ks, e1, x.keep p _ e2 e4, x.fnew p e3 e4 (by rw [e2]; simp) (by intro vs z; rw [e2] at z; cases z), x.out (by rw [e2]; simp) e4, e5, e6.mono x.f⟩
  | «at» n p b => exact h
  | newo t =>
    obtain ⟨e1, e2, e3, e4⟩ := h
    refine ⟨e1, e2.keeps x.f fun a ha => ⟨?_, fun hf ht => x.fnew a hf (e4 a ha) (e2.live a ha) ht⟩, e3, fun a ha => x.out (e2.live a ha) (e4 a ha)⟩
    cases q : s.H a with
    | none => exact absurd q (e2.live a ha)
    | some o => exact x.keep a o q (e4 a ha)
  | per c => exact c.mono x.f h
/-- a list that nobody else has was not there ahead -/
def Frsh (H : Hp) (v : V) : EV → Prop
  | .new _ => ∀ p, v = .ref p → H p = none
  | .newd _ => ∀ p, v = .ref p → H p = none
  | .newk _ => ∀ p, v = .ref p → H p = none
  | .newo t => ∀ a ∈ addrs t, H a = none
  | _ => True
theorem Ext.wasNone {s s1 : Wd} {N N1 : Nat} (x : Ext s N s1 N1) {p : Addr} (h : s1.H p = none) : s.H p = none := by
  cases e : s.H p with
  | none => rfl
  | some o => exact absurd h (x.alive p (by rw [e]; simp))
theorem Frsh.back {s s1 : Wd} {N N1 : Nat} {v : V} {e : EV} {K : PySem.W.Frag} (x : Ext s N s1 N1) (h : Frsh s1.H v e) (_r : ∀ n, n < N1 → s1.H (s1.L n) ≠ none) : Frsh s.H v e := by
  cases e with
  | new xs => exact fun p hp => x.wasNone (h p hp)
  | newd xs => exact fun p hp => x.wasNone (h p hp)
  | newk xs => exact fun p hp => x.wasNone (h p hp)
  | newo t => exact fun a ha => x.wasNone (h a ha)
  | _ => trivial
/-- the slots -/
structure ER (K : PySem.W.Frag) (s : Wd) (N : Nat) (σ : L2.St) (η : DEnv) : Prop where
  len : σ.length = η.length
  get : ∀ (i : Nat) (e : EV), η[i]? = some (some e) → ∃ v, σ[i]? = some (some v) ∧ VR K s N v e
theorem ER.ext {K : PySem.W.Frag} {s s' : Wd} {N N' : Nat} {σ : L2.St} {η : DEnv} (h : ER K s N σ η) (x : Ext s N s' N') : ER K s' N' σ η :=
  ⟨h.len, fun i e q => let ⟨v, h1, h2⟩ := h.get i e q; ⟨v, h1, h2.ext x⟩⟩
theorem ER.set {K : PySem.W.Frag} {s : Wd} {N : Nat} {σ : L2.St} {η : DEnv} (h : ER K s N σ η) (i : Nat) {v : V} {e : EV} (r : VR K s N v e) : ER K s N (σ.set i (some v)) (η.set i (some e)) := by
  refine ⟨by simp [h.len], fun j e' q => ?_⟩
  by_cases hj : i = j
  · subst hj
    by_cases hl : i < η.length
    · rw [List.getElem?_set_self hl] at q
      cases q
      exact ⟨v, List.getElem?_set_self (by rw [h.len]; exact hl), r⟩
    · rw [List.getElem?_eq_none (by simpa using hl)] at q
      cases q
  · rw [List.getElem?_set_ne hj] at q
    obtain ⟨w, h1, h2⟩ := h.get j e' q
    exact ⟨w, by rw [List.getElem?_set_ne hj]; exact h1, h2⟩
theorem ER.wipe1 {K : PySem.W.Frag} {s : Wd} {N : Nat} {σ : L2.St} {η : DEnv} (h : ER K s N σ η) (i : Nat) : ER K s N (σ.set i none) (η.set i none) := by
  refine ⟨by simp [h.len], fun j e' q => ?_⟩
  by_cases hj : i = j
  · subst hj
    by_cases hl : i < η.length
    · rw [List.getElem?_set_self hl] at q
      cases q
    · rw [List.getElem?_eq_none (by simpa using hl)] at q
      cases q
  · rw [List.getElem?_set_ne hj] at q
    obtain ⟨w, h1, h2⟩ := h.get j e' q
    exact ⟨w, by rw [List.getElem?_set_ne hj]; exact h1, h2⟩
def wipeD (η : DEnv) : List Nat → DEnv
  | [] => η
  | v :: vs => (wipeD η vs).set v none
theorem ER.wipe {K : PySem.W.Frag} {s : Wd} {N : Nat} {σ : L2.St} {η : DEnv} (h : ER K s N σ η) : ∀ vs : List Nat, ER K s N (L2.wipe σ vs) (wipeD η vs)
  | [] => h
  | v :: vs => by
    unfold L2.wipe wipeD
    exact (ER.wipe h vs).wipe1 v
/-- fewer slots are known -/
theorem ER.sub {K : PySem.W.Frag} {s : Wd} {N : Nat} {σ : L2.St} {η η' : DEnv} (h : ER K s N σ η) (hl : η'.length = η.length) (hs : ∀ (i : Nat) (e : EV), η'[i]? = some (some e) → η[i]? = some (some e)) : ER K s N σ η' :=
  ⟨by rw [h.len, hl], fun i e q => h.get i e (hs i e q)⟩
/-! ### making cells, making still -/
section
variable {K : PySem.W.Frag} {s0 s : Wd} {N0 : Nat} {μ : Mu}
theorem cell_still {s : Wd} {a b : Addr} {o : HO} {c : Cell} (h : CellAt K s b c) (ne : b ≠ a) (hn : s.F a = none) : CellAt K { s with F := upd s.F a o } b c := by
  have e : Same s.F (upd s.F a o) := fun x o' q => by rw [upd_ne (ne_of_none q hn)]; exact q
  cases c with
  | lst xs => obtain ⟨h1, ws, h2, h3⟩ := h; exact ⟨(upd_ne ne).trans h1, ws, h2, h3.mono e⟩
  | frz xs => obtain ⟨ws, h2, h3⟩ := h; exact ⟨ws, e _ _ h2, h3.mono e⟩
  | dct kvs =>
    obtain ⟨h1, ks, h2, h3, h4⟩ := h
    exact ⟨(upd_ne ne).trans h1, ks, h2, h3, h4.mono e⟩
  | dck kvs =>
    obtain ⟨h1, ks, h2, h3, h4⟩ := h
    exact ⟨(upd_ne ne).trans h1, ks, h2, h3, h4.mono e⟩
  | abs P => obtain ⟨xs, hP, h1, ws, h2, h3⟩ := h; exact ⟨xs, hP, (upd_ne ne).trans h1, ws, h2, h3.mono e⟩
  | tab P nm => exact ⟨h.1, h.2.to e ((upd_ne ne).trans h.2.nf) fun _ z => z⟩
  | own t => exact h
  | dead => exact h
/-- the trees when the world changes beside them -/
theorem OwnAt.keeps {s' : Wd} {n : Nat} {t : Tree} (h : OwnAt K s n t) (e : Same s.F s'.F) (hL : s'.L n = s.L n) (hO : ∀ a, s.O n a → s'.O n a) (k : ∀ a, s.O n a → Keeps s.F s.H s'.F s'.H a) : OwnAt K s' n t :=
  ⟨by rw [hL]; exact h.is.keeps e fun a ha => k a (h.own a ha), h.nd, fun a ha => hO a (h.own a ha)⟩
theorem keeps_same {F H : Hp} {a : Addr} : Keeps F H F H a := ⟨rfl, fun h _ => h⟩
/-- the still part grows at one address that no cell's tree has, or by a tuple -/
theorem keeps_F {F H : Hp} {a b : Addr} {o : HO} (h : a ≠ b ∨ ∃ vs, H b = some (.tup vs)) : Keeps F H (upd F b o) H a := ⟨rfl, fun hf ht => by
  rcases h with h | ⟨vs, h⟩
  · rw [upd_ne h]; exact hf
  · by_cases e : a = b
    · rw [e] at ht; exact absurd h (ht vs)
    · rw [upd_ne e]; exact hf⟩
/-- a list that nobody else has becomes still -/
theorem still_new {p : Addr} {vs : List V} {xs : List PyData} (R : Rep K s μ) (x : Ext s0 N0 s μ.length) (hp : s.H p = some (.lst vs)) (hf : s.F p = none) (hl : NL s μ.length p) (hd : DRs K s.F vs xs) (h0 : s0.H p = none) :
    Rep K { s with F := upd s.F p (.lst vs) } μ ∧ Ext s0 N0 { s with F := upd s.F p (.lst vs) } μ.length ∧ DR K (upd s.F p (.lst vs)) (.ref p) (.list xs) := by
  have e : Same s.F (upd s.F p (.lst vs)) := fun y o q => by rw [upd_ne (ne_of_none q hf)]; exact q
  refine ⟨⟨fun a o q => ?_, fun n c q => cell_still (R.cell n c q) (R.rootNe hl n (List.getElem?_eq_some_iff.mp q).1) hf, R.dis, R.root, R.live, fun n t q => (R.tree n t q).keeps e rfl (fun _ z => z) fun a ha => keeps_F (.inl fun z => hl n (List.getElem?_eq_some_iff.mp q).1 (z ▸ ha))⟩, ⟨fun a o q => e a o (x.f a o q), x.l, x.le, x.keep, fun a h1 h2 h3 h4 => ?_, x.lnew, x.onew, x.alive⟩, .lst upd_same (hd.mono e)⟩
  · have q' : upd s.F p (.lst vs) a = some o := q
    by_cases ha : a = p
    · subst ha
      rw [upd_same] at q'
      cases q'
      exact hp
    · rw [upd_ne ha] at q'
      exact R.sub a o q'
  · have ha : a ≠ p := fun z => h3 (z ▸ h0)
    show upd s.F p (.lst vs) a = none
    rw [upd_ne ha]
    exact x.fnew a h1 h2 h3 h4
theorem CellAt.atL {K : PySem.W.Frag} {s : Wd} {L' : Nat → Addr} {O' : Nat → Addr → Prop} {a : Addr} {c : Cell} (h : CellAt K s a c) : CellAt K { s with L := L', O := O' } a c := by
  cases c <;> exact h
/-- the world with one cell more, at p, owning S -/
abbrev newL (s : Wd) (N : Nat) (p : Addr) (S : Addr → Prop) : Wd := { s with L := fun n => if n = N then p else s.L n, O := fun n a => if n = N then S a else s.O n a }
theorem newL_L {s : Wd} {N : Nat} {p : Addr} {S : Addr → Prop} : (newL s N p S).L N = p := by
  show (if N = N then p else _) = p
  rw [if_pos rfl]
theorem newL_Ln {s : Wd} {N n : Nat} {p : Addr} {S : Addr → Prop} (h : n ≠ N) : (newL s N p S).L n = s.L n := by
  show (if n = N then p else _) = _
  rw [if_neg h]
theorem newL_O {s : Wd} {N : Nat} {p a : Addr} {S : Addr → Prop} : (newL s N p S).O N a = S a := by
  show (if N = N then S a else _) = _
  rw [if_pos rfl]
theorem newL_On {s : Wd} {N n : Nat} {p a : Addr} {S : Addr → Prop} (h : n ≠ N) : (newL s N p S).O n a = s.O n a := by
  show (if n = N then S a else _) = _
  rw [if_neg h]
theorem upd_live {H : Hp} {p a : Addr} {o : HO} (h : H a ≠ none) : upd H p o a ≠ none := by
  by_cases e : a = p
  · rw [e, upd_same]; simp
  · rw [upd_ne e]; exact h
/-- the world changes, the cells lie as they lay -/
theorem Rep.of {H' F' : Hp} {μ' : Mu} (R : Rep K s μ) (hlen : μ'.length = μ.length) (hs : Same F' H') (hc : ∀ n c, μ'[n]? = some c → CellAt K { s with H := H', F := F' } (s.L n) c) (ha : ∀ a, s.H a ≠ none → H' a ≠ none)
    (hT : ∀ n t, μ'[n]? = some (.own t) → OwnAt K { s with H := H', F := F' } n t) : Rep K { s with H := H', F := F' } μ' :=
  ⟨hs, hc, fun m n a h1 h2 => R.dis m n a (hlen ▸ h1) (hlen ▸ h2), fun n h => R.root n (hlen ▸ h), fun n a h z => ha a (R.live n a (hlen ▸ h) z), hT⟩
/-- .. trees beside what changes -/
theorem Rep.beside {H' F' : Hp} (R : Rep K s μ) (e : Same s.F F') (k : ∀ n a, n < μ.length → s.O n a → Keeps s.F s.H F' H' a) : ∀ n t, μ[n]? = some (.own t) → OwnAt K { s with H := H', F := F' } n t := fun n t q =>
  (R.tree n t q).keeps (s' := { s with H := H', F := F' }) e rfl (fun _ z => z) fun a ha => k n a (List.getElem?_eq_some_iff.mp q).1 ha
theorem keeps_put {F H : Hp} {a p : Addr} {o : HO} (h : a ≠ p) : Keeps F H F (upd H p o) a := ⟨upd_ne h, fun z _ => z⟩
theorem keeps_putF {F H : Hp} {a p : Addr} {o o' : HO} (h : a ≠ p) : Keeps F H (upd F p o') (upd H p o) a := ⟨upd_ne h, fun z _ => by rw [upd_ne h]; exact z⟩
/-- .. becomes a cell -/
theorem cell_newG {p : Addr} {c : Cell} (S : Addr → Prop) (R : Rep K s μ) (x : Ext s0 N0 s μ.length) (hC : CellAt K s p c) (hS : ∀ a, S a → s.H a ≠ none ∧ NL s μ.length a ∧ s0.H a = none) (hp : S p) (hT : ∀ t, c = .own t → TreeR K s.F s.H (.ref p) t ∧ (addrs t).Nodup ∧ ∀ a ∈ addrs t, S a) :
    Rep K (newL s μ.length p S) (μ ++ [c]) ∧ Ext s0 N0 (newL s μ.length p S) (μ ++ [c]).length := by
  have lt2 : ∀ n, n < (μ ++ [c]).length → n ≠ μ.length → n < μ.length := fun n h h2 => by simp at h; omega
  have at2 : ∀ {n c'}, (μ ++ [c])[n]? = some c' → n ≠ μ.length → μ[n]? = some c' := fun {n c'} q h => by
    rw [List.getElem?_append_left (lt2 n (List.getElem?_eq_some_iff.mp q).1 h)] at q
    exact q
  refine ⟨⟨R.sub, fun n c' q => ?_, fun m n a hm hn h1 h2 => ?_, fun n hn => ?_, fun n a hn ha => ?_, fun n t q => ?_⟩, ⟨x.f, fun n hn => ?_, by simp; exact Nat.le_trans x.le (Nat.le_succ _), x.keep, x.fnew, fun n h1 h2 => ?_, fun n a hn ha => ?_, x.alive⟩⟩
  · by_cases hn : n = μ.length
    · subst hn
      simp at q
      subst q
      rw [newL_L]
      exact hC.atL
    · rw [newL_Ln hn]
      exact (R.cell n c' (at2 q hn)).atL
  · by_cases e1 : m = μ.length
    · by_cases e2 : n = μ.length
      · omega
      · rw [e1, newL_O] at h1
        rw [newL_On e2] at h2
        exact absurd h2 ((hS a h1).2.1 n (lt2 n hn e2))
    · by_cases e2 : n = μ.length
      · rw [e2, newL_O] at h2
        rw [newL_On e1] at h1
        exact absurd h1 ((hS a h2).2.1 m (lt2 m hm e1))
      · rw [newL_On e1] at h1
        rw [newL_On e2] at h2
        exact R.dis m n a (lt2 m hm e1) (lt2 n hn e2) h1 h2
  · by_cases e : n = μ.length
    · rw [e, newL_L, newL_O]; exact hp
    · rw [newL_Ln e, newL_On e]; exact R.root n (lt2 n hn e)
  · by_cases e : n = μ.length
    · rw [e, newL_O] at ha; exact (hS a ha).1
    · rw [newL_On e] at ha; exact R.live n a (lt2 n hn e) ha
  · by_cases e : n = μ.length
    · subst e
      simp at q
      obtain ⟨t1, t2, t3⟩ := hT t q
      exact ⟨by rw [newL_L]; exact t1, t2, fun a ha => by rw [newL_O]; exact t3 a ha⟩
    · exact (R.tree n t (at2 q e)).keeps (fun _ _ z => z) (newL_Ln e) (fun a z => by rw [newL_On e]; exact z) fun a _ => keeps_same
  · rw [newL_Ln (by have := x.le; omega)]
    exact x.l n hn
  · by_cases e : n = μ.length
    · rw [e, newL_L]; exact (hS p hp).2.2
    · rw [newL_Ln e]; exact x.lnew n h1 (lt2 n h2 e)
  · by_cases e : n = μ.length
    · rw [e, newL_O] at ha; exact .inl (hS a ha).2.2
    · rw [newL_On e] at ha; exact x.onew n a (lt2 n hn e) ha
theorem cell_newC {p : Addr} {c : Cell} (R : Rep K s μ) (x : Ext s0 N0 s μ.length) (hC : CellAt K s p c) (hl : NL s μ.length p) (h0 : s0.H p = none) (hn : ∀ t, c ≠ .own t := by intro t z; cases z) :
    Rep K (newL s μ.length p (· = p)) (μ ++ [c]) ∧ Ext s0 N0 (newL s μ.length p (· = p)) (μ ++ [c]).length :=
  cell_newG _ R x hC (fun a ha => by subst ha; exact ⟨hC.here R.sub, hl, h0⟩) rfl fun t e => absurd e (hn t)
theorem cell_new {p : Addr} {vs : List V} {xs : List PyData} (R : Rep K s μ) (x : Ext s0 N0 s μ.length) (hp : s.H p = some (.lst vs)) (hf : s.F p = none) (hl : NL s μ.length p) (hd : DRs K s.F vs xs) (h0 : s0.H p = none) :
    Rep K (newL s μ.length p (· = p)) (μ ++ [.lst xs]) ∧ Ext s0 N0 (newL s μ.length p (· = p)) (μ ++ [Cell.lst xs]).length := cell_newC R x ⟨hf, vs, hp, hd⟩ hl h0
/-- a tree that nobody else has becomes a cell -/
theorem cell_newO {p : Addr} {t : Tree} (R : Rep K s μ) (x : Ext s0 N0 s μ.length) (hp : p ∈ addrs t) (ht : TreeR K s.F s.H (.ref p) t) (hn : (addrs t).Nodup) (hl : ∀ a ∈ addrs t, NL s μ.length a) (h0 : ∀ a ∈ addrs t, s0.H a = none) :
    Rep K (newL s μ.length p (· ∈ addrs t)) (μ ++ [.own t]) ∧ Ext s0 N0 (newL s μ.length p (· ∈ addrs t)) (μ ++ [Cell.own t]).length :=
  cell_newG _ R x (ht.live p hp) (fun a ha => ⟨ht.live a ha, hl a ha, h0 a ha⟩) hp fun t' e => by cases e; exact ⟨ht, hn, fun _ z => z⟩
/-- a cell becomes still -/
theorem still_cell {n : Nat} {xs : List PyData} (R : Rep K s μ) (x : Ext s0 N0 s μ.length) (hn : μ[n]? = some (.lst xs)) :
    ∃ F', Rep K { s with F := F' } (μ.set n (.frz xs)) ∧ Ext s0 N0 { s with F := F' } (μ.set n (.frz xs)).length ∧ DR K F' (.ref (s.L n)) (.list xs) := by
  obtain ⟨hf, vs, hp, hd⟩ := R.cell n _ hn
  have hlt := (List.getElem?_eq_some_iff.mp hn).1
  have e : Same s.F (upd s.F (s.L n) (.lst vs)) := fun y o q => by rw [upd_ne (ne_of_none q hf)]; exact q
  refine ⟨upd s.F (s.L n) (.lst vs), ⟨fun a o q => ?_, fun m c q => ?_, fun m n a hm hn => R.dis m n a (by simpa using hm) (by simpa using hn), fun n hn => R.root n (by simpa using hn), fun n a hn => R.live n a (by simpa using hn), fun m t q => ?_⟩, ⟨fun a o q => e a o (x.f a o q), x.l, by rw [List.length_set]; exact x.le, x.keep, fun a h1 h2 h3 h4 => ?_, fun i h1 h2 => x.lnew i h1 (by simpa using h2), fun i a h1 => x.onew i a (by simpa using h1), x.alive⟩, .lst upd_same (hd.mono e)⟩
  · by_cases ha : a = s.L n
    · subst ha
      have q' : upd s.F (s.L n) (.lst vs) (s.L n) = some o := q
      rw [upd_same] at q'
      cases q'
      exact hp
    · have q' : upd s.F (s.L n) (.lst vs) a = some o := q
      rw [upd_ne ha] at q'
      exact R.sub a o q'
  · by_cases hm : n = m
    · subst hm
      rw [List.getElem?_set_self hlt] at q
      cases q
      exact ⟨vs, upd_same, hd.mono e⟩
    · rw [List.getElem?_set_ne hm] at q
      exact cell_still (R.cell m c q) (fun z => hm (R.inj m n (List.getElem?_eq_some_iff.mp q).1 hlt z).symm) hf
  · by_cases hm : n = m
    · subst hm
      rw [List.getElem?_set_self hlt] at q
      cases q
    · rw [List.getElem?_set_ne hm] at q
      exact (R.tree m t q).keeps e rfl (fun _ z => z) fun a ha => keeps_F (.inl fun z => hm (R.dis n m a hlt (List.getElem?_eq_some_iff.mp q).1 (by rw [z]; exact R.root n hlt) ha))
  · by_cases ha : a = s.L n
    · exfalso
      rcases x.onew n a hlt (by rw [ha]; exact R.root n hlt) with h5 | ⟨h5, h6⟩
      · exact h3 h5
      · exact h2 n h5 h6
    · show upd s.F (s.L n) (.lst vs) a = none
      rw [upd_ne ha]
      exact x.fnew a h1 h2 h3 h4
theorem CellAt.mutH {a b : Addr} {o : HO} {c : Cell} (h : CellAt K s a c) (ne : a ≠ b) : CellAt K { s with H := upd s.H b o } a c := by
  cases c with
  | lst xs => obtain ⟨h1, vs, h2, h3⟩ := h; exact ⟨h1, vs, (upd_ne ne).trans h2, h3⟩
  | frz xs => exact h
  | dct kvs => obtain ⟨h1, ks, h2, h3, h4⟩ := h; exact ⟨h1, ks, (upd_ne ne).trans h2, h3, h4⟩
  | dck kvs => obtain ⟨h1, ks, h2, h3, h4⟩ := h; exact ⟨h1, ks, (upd_ne ne).trans h2, h3, h4⟩
  | abs P => obtain ⟨xs, hP, h1, vs, h2, h3⟩ := h; exact ⟨xs, hP, h1, vs, (upd_ne ne).trans h2, h3⟩
  | tab P nm => exact ⟨h.1, h.2.to (fun _ _ z => z) h.2.nf fun _ z => (upd_ne ne).trans z⟩
  | own t => exact upd_live h
  | dead => exact upd_live h
theorem get_set_ne {m n : Nat} {c c2 : Cell} (hm : n ≠ m) (q : (μ.set n c)[m]? = some c2) : μ[m]? = some c2 := by rwa [List.getElem?_set_ne hm] at q
/-- a cell that owns no tree is written -/
theorem mut_g {n : Nat} {c' : Cell} {o : HO} (R : Rep K s μ) (x : Ext s0 N0 s μ.length) (hlt : n < μ.length) (hf : s.F (s.L n) = none) (hc : CellAt K { s with H := upd s.H (s.L n) o } (s.L n) c') (ho : ∀ t, c' ≠ .own t) :
    Rep K { s with H := upd s.H (s.L n) o } (μ.set n c') ∧ Ext s0 N0 { s with H := upd s.H (s.L n) o } (μ.set n c').length := by
  refine ⟨R.of (by simp) (fun a u q => ?_) (fun m c2 q => ?_) (fun a h => upd_live h) (fun m t q => ?_), ⟨x.f, x.l, by rw [List.length_set]; exact x.le, fun a u q hL => ?_, x.fnew, fun i h1 h2 => x.lnew i h1 (by simpa using h2), fun i a h1 => x.onew i a (by simpa using h1), fun a h => upd_live (x.alive a h)⟩⟩
  · have q' : s.F a = some u := q
    show upd s.H (s.L n) o a = some u
    rw [upd_ne (ne_of_none q' hf)]
    exact R.sub a u q'
  · by_cases hm : n = m
    · subst hm
      rw [List.getElem?_set_self hlt] at q
      cases q
      exact hc
    · exact (R.cell m c2 (get_set_ne hm q)).mutH fun z => hm (R.inj m n (List.getElem?_eq_some_iff.mp (get_set_ne hm q)).1 hlt z).symm
  · by_cases hm : n = m
    · subst hm
      rw [List.getElem?_set_self hlt] at q
      cases q
      exact absurd rfl (ho t)
    · have q' := get_set_ne hm q
      have hm' := (List.getElem?_eq_some_iff.mp q').1
      exact (R.tree m t q').keeps (s' := { s with H := upd s.H (s.L n) o }) (fun _ _ z => z) rfl (fun _ z => z) fun a ha => keeps_put fun z => hm (R.dis m n a hm' hlt ha (by rw [z]; exact R.root n hlt)).symm
  · have q' := x.keep a u q hL
    show upd s.H (s.L n) o a = some u
    rw [upd_ne fun z => x.out (by rw [q]; simp) hL n hlt (by rw [z]; exact R.root n hlt)]
    exact q'
/-- only the first N cells are kept -/
theorem Rep.take (R : Rep K s μ) (N : Nat) : Rep K s (μ.take N) := by
  have at2 : ∀ {n c}, (μ.take N)[n]? = some c → μ[n]? = some c := fun {n c} q => by
    rw [List.getElem?_take] at q
    split at q
    · exact q
    · cases q
  have lt2 : ∀ {n}, n < (μ.take N).length → n < μ.length := fun {n} h => by rw [List.length_take] at h; omega
  exact ⟨R.sub, fun n c q => R.cell n c (at2 q), fun m n a hm hn => R.dis m n a (lt2 hm) (lt2 hn), fun n hn => R.root n (lt2 hn), fun n a hn => R.live n a (lt2 hn), fun n t q => R.tree n t (at2 q)⟩
theorem Ext.take {N N' : Nat} (x : Ext s0 N0 s N) (h1 : N0 ≤ N') (h2 : N' ≤ N) : Ext s0 N0 s N' := ⟨x.f, x.l, h1, x.keep, x.fnew, fun n a b => x.lnew n a (by omega), fun n a b => x.onew n a (by omega), x.alive⟩
end
/-! ### a tree's parts by their paths -/
def Tree.kid : Tree → Nat → Option Tree
  | .nod _ _ ts, i => ts[i]?
  | _, _ => none
def Tree.get : List Nat → Tree → Option Tree
  | [], t => some t
  | i :: p, t => match t.kid i with
    | some u => Tree.get p u
    | none => none
def Tree.put (u : Tree) : List Nat → Tree → Tree
  | [], _ => u
  | i :: p, .nod k b ts => match ts[i]? with
    | some c => .nod k b (ts.set i (Tree.put u p c))
    | none => .nod k b ts
  | _ :: _, t => t
section
variable {K : PySem.W.Frag} {F H F' H' : Hp}
theorem TreesR.get : ∀ {vs : List V} {ts : List Tree} {i : Nat} {c : Tree}, TreesR K F H vs ts → ts[i]? = some c → ∃ v, vs[i]? = some v ∧ TreeR K F H v c
  | _, _, _, _, .nil, h => by simp at h
  | _, _, 0, _, .cons r _, h => by simp at h; subst h; exact ⟨_, rfl, r⟩
  | _, _, i + 1, c, .cons _ rs, h => by
    obtain ⟨v, h1, h2⟩ := TreesR.get (i := i) (c := c) rs (by simpa using h)
    exact ⟨v, by simpa using h1, h2⟩
/-- a part is a tree -/
theorem TreeR.get : ∀ {p : List Nat} {v : V} {t u : Tree}, TreeR K F H v t → Tree.get p t = some u → ∃ w, TreeR K F H w u
  | [], v, t, u, r, h => by cases h; exact ⟨v, r⟩
  | i :: p, v, t, u, r, h => by
    unfold Tree.get at h
    cases r with
    | dat _ => simp [Tree.kid] at h
    | per _ => simp [Tree.kid] at h
    | @nod k b vs ts h1 h2 h3 =>
      cases hc : ts[i]? with
      | none => simp [Tree.kid, hc] at h
      | some c =>
        simp only [Tree.kid, hc] at h
        obtain ⟨w, _, r'⟩ := h3.get hc
        exact r'.get h
theorem TreeR.node {v : V} {k : Knd} {b : Addr} {ts : List Tree} (r : TreeR K F H v (.nod k b ts)) : v = .ref b ∧ ∃ vs, HeapIs H b k vs ∧ (isTupK k ∨ F b = none) ∧ TreesR K F H vs ts := by
  cases r with
  | nod h1 h2 h3 => exact ⟨rfl, _, h1, h2, h3⟩
end
def nodeAt (μ : Mu) (n : Nat) (p : List Nat) : Option Tree := match μ[n]? with
  | some (.own t) => Tree.get p t
  | _ => none
theorem nodeAt_ex {μ : Mu} {n : Nat} {p : List Nat} {u : Tree} (h : nodeAt μ n p = some u) : ∃ t, μ[n]? = some (.own t) ∧ Tree.get p t = some u := by
  unfold nodeAt at h
  split at h
  · exact ⟨_, by assumption, h⟩
  · cases h
section
variable {K : PySem.W.Frag} {s : Wd} {n : Nat} {μ : Mu} {p : List Nat} {k : Knd} {b : Addr} {ts : List Tree}
theorem node_is (R : Rep K s μ) (h : nodeAt μ n p = some (.nod k b ts)) : ∃ vs, HeapIs s.H b k vs ∧ (isTupK k ∨ s.F b = none) ∧ TreesR K s.F s.H vs ts := by
  obtain ⟨t, h1, h2⟩ := nodeAt_ex h
  obtain ⟨w, r⟩ := (R.tree n t h1).is.get h2
  exact r.node.2
end
/-- children that are data -/
def flatT : List Tree → Option (List PyData)
  | [] => some []
  | .dat d :: ts => (flatT ts).map (d :: ·)
  | _ :: _ => none
theorem flatT_ok {K : PySem.W.Frag} {F H : Hp} : ∀ {vs : List V} {ts : List Tree} {xs : List PyData}, TreesR K F H vs ts → flatT ts = some xs → DRs K F vs xs
  | _, _, _, .nil, h => by cases h; exact .nil
  | _, _, xs, .cons (t := t) r rs, h => by
    cases t with
    | dat d =>
      rename_i vs ts
      unfold flatT at h
      cases q : flatT ts with
      | none => rw [q] at h; cases h
      | some ys =>
        rw [q] at h
        cases h
        cases r with
        | dat r => exact .cons r (flatT_ok rs q)
    | per _ => cases h
    | nod _ _ _ => cases h
mutual
/-- a tree of lists, tuples and data -/
def datT : Tree → Option PyData
  | .dat d => some d
  | .per _ => none
  | .nod .lst _ ts => (datsT ts).map .list
  | .nod .tup _ ts => (datsT ts).map .tuple
  | .nod _ _ _ => none
def datsT : List Tree → Option (List PyData)
  | [] => some []
  | t :: ts => match datT t, datsT ts with
    | some d, some ds => some (d :: ds)
    | _, _ => none
end
theorem datT_dat {d : PyData} : datT (.dat d) = some d := by rw [datT]
theorem datT_lst {b : Addr} {ts : List Tree} : datT (.nod .lst b ts) = (datsT ts).map .list := by rw [datT]
theorem datT_tup {b : Addr} {ts : List Tree} : datT (.nod .tup b ts) = (datsT ts).map .tuple := by rw [datT]
theorem datsT_nil : datsT [] = some [] := by rw [datsT]
mutual
theorem datT_dp {K : PySem.W.Frag} {F H : Hp} (sub : Same F H) : ∀ {v : V} {t : Tree} {d : PyData}, TreeR K F H v t → datT t = some d → noD d = true → Dp K H v d ∧ d.canLay0 = true
  | _, _, _, .dat r, h, n => by
    rw [datT_dat] at h
    cases h
    exact ⟨(r.mono sub).dp n, r.lay n⟩
  | _, _, _, .per _, h, _ => by rw [datT] at h; cases h
  | _, _, d, .nod (k := k) (ts := ts) h1 _ h3, h, n => by
    cases k with
    | lst =>
      rw [datT_lst] at h
      cases q : datsT ts with
      | none => rw [q] at h; cases h
      | some ds =>
        rw [q] at h
        cases h
        obtain ⟨a1, a2⟩ := datsT_dp sub h3 q (by simpa [noD] using n)
        exact ⟨.lst (SqL.of h1) a1, by simpa [PyData.canLay0] using a2⟩
    | tup =>
      rw [datT_tup] at h
      cases q : datsT ts with
      | none => rw [q] at h; cases h
      | some ds =>
        rw [q] at h
        cases h
        obtain ⟨a1, a2⟩ := datsT_dp sub h3 q (by simpa [noD] using n)
        exact ⟨.tup (SqT.of h1) a1, by simpa [PyData.canLay0] using a2⟩
    | dck ks => rw [datT] at h <;> first | cases h | (intro z; cases z)
    | dct ks => rw [datT] at h <;> first | cases h | (intro z; cases z)
    | ins C fs => rw [datT] at h <;> first | cases h | (intro z; cases z)
    | gho => rw [datT] at h <;> first | cases h | (intro z; cases z)
theorem datsT_dp {K : PySem.W.Frag} {F H : Hp} (sub : Same F H) : ∀ {vs : List V} {ts : List Tree} {ds : List PyData}, TreesR K F H vs ts → datsT ts = some ds → noDs ds = true → DpAll K H vs ds ∧ PyData.canLayAll0 ds = true
  | _, _, _, .nil, h, _ => by
    rw [datsT_nil] at h
    cases h
    exact ⟨.nil, by simp [PyData.canLayAll0]⟩
  | _, _, ds, .cons (t := t) (ts := ts) r rs, h, n => by
    rw [datsT] at h
    cases q : datT t with
    | none => rw [q] at h; cases h
    | some d =>
      cases q2 : datsT ts with
      | none => rw [q, q2] at h; cases h
      | some es =>
        rw [q, q2] at h
        cases h
        simp [noDs] at n
        obtain ⟨a1, a2⟩ := datT_dp sub r q n.1
        obtain ⟨b1, b2⟩ := datsT_dp sub rs q2 n.2
        exact ⟨.cons a1 b1, by simp [PyData.canLayAll0, a2, b2]⟩
end
/-! ### parts put into trees -/
section
open PySem.Spec PyProof.Rows
theorem addrsL_get {ts : List Tree} {i : Nat} {c : Tree} (h : ts[i]? = some c) : ∀ a ∈ addrs c, a ∈ addrsL ts := by
  induction ts generalizing i with
  | nil => simp at h
  | cons t ts ih =>
    intro a ha
    rw [addrsL_cons]
    cases i with
    | zero => simp at h; subst h; exact List.mem_append_left _ ha
    | succ i => exact List.mem_append_right _ (ih (by simpa using h) a ha)
theorem addrs_get : ∀ {p : List Nat} {t u : Tree}, Tree.get p t = some u → ∀ a ∈ addrs u, a ∈ addrs t
  | [], t, u, h, a, ha => by cases h; exact ha
  | i :: p, t, u, h, a, ha => by
    unfold Tree.get at h
    cases t with
    | dat d => simp [Tree.kid] at h
    | per d => simp [Tree.kid] at h
    | nod k b ts =>
      cases hc : ts[i]? with
      | none => simp [Tree.kid, hc] at h
      | some c =>
        simp only [Tree.kid, hc] at h
        rw [addrs_nod]
        exact List.mem_cons_of_mem _ (addrsL_get hc a (addrs_get h a ha))
section
variable {K : PySem.W.Frag} {F H F' H' : Hp}
theorem TreesR.length : ∀ {vs : List V} {ts : List Tree}, TreesR K F H vs ts → vs.length = ts.length
  | _, _, .nil => rfl
  | _, _, .cons _ rs => by rw [List.length_cons, List.length_cons, rs.length]
theorem TreesR.append : ∀ {vs ws : List V} {ts us : List Tree}, TreesR K F H vs ts → TreesR K F H ws us → TreesR K F H (vs ++ ws) (ts ++ us)
  | _, _, _, _, .nil, s => s
  | _, _, _, _, .cons r rs, s => .cons r (rs.append s)
theorem TreesR.set : ∀ {vs : List V} {ts : List Tree} {v : V} {t : Tree} (i : Nat), TreesR K F H vs ts → TreeR K F H v t → TreesR K F H (vs.set i v) (ts.set i t)
  | _, _, _, _, _, .nil, _ => .nil
  | _, _, _, _, 0, .cons _ rs, r => .cons r rs
  | _, _, _, _, i + 1, .cons h rs, r => .cons h (rs.set i r)
/-- the others of a row when one is another -/
theorem TreesR.put (e : Same F F') : ∀ {vs : List V} {ts : List Tree} {i : Nat} {c c' : Tree}, TreesR K F H vs ts → (addrsL ts).Nodup → ts[i]? = some c → (∀ v, vs[i]? = some v → TreeR K F' H' v c') → (∀ a ∈ addrsL ts, a ∉ addrs c → Keeps F H F' H' a) → TreesR K F' H' vs (ts.set i c')
  | _, _, _, _, _, .nil, _, h, _, _ => by simp at h
  | v :: vs, t :: ts, 0, c, c', .cons r rs, nd, h, hv, q => by
    simp at h
    subst h
    rw [addrsL_cons] at nd q
    have nd' := List.nodup_append.mp nd
    exact .cons (hv v rfl) (rs.keeps e fun a ha => q a (List.mem_append_right _ ha) fun z => nd'.2.2 a z a ha rfl)
  | v :: vs, t :: ts, i + 1, c, c', .cons r rs, nd, h, hv, q => by
    rw [addrsL_cons] at nd q
    have nd' := List.nodup_append.mp nd
    have hc : ts[i]? = some c := by simpa using h
    refine .cons (r.keeps e fun a ha => q a (List.mem_append_left _ ha) fun z => nd'.2.2 a ha a (addrsL_get hc a z) rfl) (TreesR.put e rs nd'.2.1 hc (fun w hw => hv w (by simpa using hw)) fun a ha => q a (List.mem_append_right _ ha))
/-- a tree when one of its parts is another -/
theorem TreeR.put (e : Same F F') : ∀ {p : List Nat} {v : V} {t u u' : Tree}, TreeR K F H v t → (addrs t).Nodup → Tree.get p t = some u → (∀ w, TreeR K F H w u → TreeR K F' H' w u') → (∀ a ∈ addrs t, a ∉ addrs u → Keeps F H F' H' a) → TreeR K F' H' v (Tree.put u' p t)
  | [], v, t, u, u', r, nd, h, hu, q => by cases h; exact hu v r
  | i :: p, v, t, u, u', r, nd, h, hu, q => by
    unfold Tree.get at h
    cases r with
    | dat _ => simp [Tree.kid] at h
    | per _ => simp [Tree.kid] at h
    | @nod k b vs ts h1 h2 h3 =>
      cases hc : ts[i]? with
      | none => simp [Tree.kid, hc] at h
      | some c =>
        simp only [Tree.kid, hc] at h
        unfold Tree.put
        simp only [hc]
        rw [addrs_nod] at nd q
        obtain ⟨nb, nts⟩ := List.nodup_cons.mp nd
        have hcu := addrs_get h
        have qb := q b List.mem_cons_self fun z => nb (addrsL_get hc b (hcu b z))
        obtain ⟨v0, hv0, r0⟩ := h3.get hc
        have ndc : (addrs c).Nodup := by
          clear hu q h qb r0 hv0 h3 hcu nd nb
          induction ts generalizing i with
          | nil => simp at hc
          | cons t ts ih =>
            rw [addrsL_cons] at nts
            have z := List.nodup_append.mp nts
            cases i with
            | zero => simp at hc; subst hc; exact z.1
            | succ i => exact ih _ (by simpa using hc) z.2.1
        refine .nod (h1.congr qb.1) ?_ (TreesR.put e h3 nts hc (fun w hw => ?_) fun a ha hn => q a (List.mem_cons_of_mem _ ha) fun z => hn (hcu a z))
        · rcases h2 with h2 | h2
          · exact .inl h2
          · cases k with
            | tup => exact .inl trivial
            | lst => exact .inr (qb.2 h2 fun ws z => by rw [show H b = some (.lst vs) from h1] at z; cases z)
            | dck ks => exact .inr (qb.2 h2 fun ws z => by rw [h1.1] at z; cases z)
            | dct ks => exact .inr (qb.2 h2 fun ws z => by rw [h1.1] at z; cases z)
            | ins C fs => exact .inr (qb.2 h2 fun ws z => by obtain ⟨dx, g1, g2⟩ := h1; rw [g1] at z; cases z)
            | gho => exact .inr (qb.2 h2 fun ws z => by obtain ⟨o, g1, g2⟩ := h1; rw [g1] at z; cases z; exact g2 _ rfl)
        · rw [hv0] at hw
          cases hw
          exact r0.put e ndc h hu fun a ha hn => q a (List.mem_cons_of_mem _ (addrsL_get hc a ha)) hn
end
theorem addrsL_set {i : Nat} {c c' : Tree} : ∀ {ts : List Tree}, ts[i]? = some c → (addrsL ts).Nodup → ∀ a ∈ addrsL (ts.set i c'), (a ∈ addrsL ts ∧ a ∉ addrs c) ∨ a ∈ addrs c' := by
  intro ts
  induction ts generalizing i with
  | nil => intro h; simp at h
  | cons t ts ih =>
    intro h nd a ha
    rw [addrsL_cons] at nd
    have z := List.nodup_append.mp nd
    cases i with
    | zero =>
      simp at h
      subst h
      rw [List.set_cons_zero, addrsL_cons] at ha
      rcases List.mem_append.mp ha with ha | ha
      · exact .inr ha
      · exact .inl ⟨by rw [addrsL_cons]; exact List.mem_append_right _ ha, fun y => z.2.2 a y a ha rfl⟩
    | succ i =>
      have hc : ts[i]? = some c := by simpa using h
      rw [List.set_cons_succ, addrsL_cons] at ha
      rcases List.mem_append.mp ha with ha | ha
      · exact .inl ⟨by rw [addrsL_cons]; exact List.mem_append_left _ ha, fun y => z.2.2 a ha a (addrsL_get hc a y) rfl⟩
      · rcases ih hc z.2.1 a ha with ⟨h1, h2⟩ | h1
        · exact .inl ⟨by rw [addrsL_cons]; exact List.mem_append_right _ h1, h2⟩
        · exact .inr h1
theorem nodupL_set {i : Nat} {c c' : Tree} : ∀ {ts : List Tree}, ts[i]? = some c → (addrsL ts).Nodup → (addrs c').Nodup → (∀ a ∈ addrs c', a ∈ addrsL ts → a ∈ addrs c) → (addrsL (ts.set i c')).Nodup := by
  intro ts
  induction ts generalizing i with
  | nil => intro h; simp at h
  | cons t ts ih =>
    intro h nd nc q
    rw [addrsL_cons] at nd q
    have z := List.nodup_append.mp nd
    cases i with
    | zero =>
      simp at h
      subst h
      rw [List.set_cons_zero, addrsL_cons]
      refine List.nodup_append.mpr ⟨nc, z.2.1, fun a ha b hb e => ?_⟩
      subst e
      exact z.2.2 a (q a ha (List.mem_append_right _ hb)) a hb rfl
    | succ i =>
      have hc : ts[i]? = some c := by simpa using h
      rw [List.set_cons_succ, addrsL_cons]
      refine List.nodup_append.mpr ⟨z.1, ih hc z.2.1 nc fun a ha hb => q a ha (List.mem_append_right _ hb), fun a ha b hb e => ?_⟩
      subst e
      rcases addrsL_set hc z.2.1 a hb with ⟨h1, _⟩ | h1
      · exact z.2.2 a ha a h1 rfl
      · exact z.2.2 a ha a (addrsL_get hc a (q a h1 (List.mem_append_left _ ha))) rfl
theorem nodup_get : ∀ {p : List Nat} {t u : Tree}, (addrs t).Nodup → Tree.get p t = some u → (addrs u).Nodup
  | [], t, u, nd, h => by cases h; exact nd
  | i :: p, t, u, nd, h => by
    unfold Tree.get at h
    cases t with
    | dat d => simp [Tree.kid] at h
    | per d => simp [Tree.kid] at h
    | nod k b ts =>
      cases hc : ts[i]? with
      | none => simp [Tree.kid, hc] at h
      | some c =>
        simp only [Tree.kid, hc] at h
        rw [addrs_nod] at nd
        have nts := (List.nodup_cons.mp nd).2
        refine nodup_get ?_ h
        clear h nd
        induction ts generalizing i with
        | nil => simp at hc
        | cons t ts ih =>
          rw [addrsL_cons] at nts
          have z := List.nodup_append.mp nts
          cases i with
          | zero => simp at hc; subst hc; exact z.1
          | succ i => exact ih _ (by simpa using hc) z.2.1
theorem addrs_put : ∀ {p : List Nat} {t u u' : Tree}, Tree.get p t = some u → (addrs t).Nodup → ∀ a ∈ addrs (Tree.put u' p t), (a ∈ addrs t ∧ a ∉ addrs u) ∨ a ∈ addrs u'
  | [], t, u, u', h, nd, a, ha => .inr ha
  | i :: p, t, u, u', h, nd, a, ha => by
    unfold Tree.get at h
    cases t with
    | dat d => simp [Tree.kid] at h
    | per d => simp [Tree.kid] at h
    | nod k b ts =>
      cases hc : ts[i]? with
      | none => simp [Tree.kid, hc] at h
      | some c =>
        simp only [Tree.kid, hc] at h
        unfold Tree.put at ha
        simp only [hc] at ha
        rw [addrs_nod] at nd ha ⊢
        obtain ⟨nb, nts⟩ := List.nodup_cons.mp nd
        have hcu := addrs_get h
        rcases List.mem_cons.mp ha with rfl | ha
        · exact .inl ⟨List.mem_cons_self, fun z => nb (addrsL_get hc _ (hcu _ z))⟩
        · rcases addrsL_set hc nts a ha with ⟨h1, h2⟩ | h1
          · exact .inl ⟨List.mem_cons_of_mem _ h1, fun z => h2 (hcu a z)⟩
          · have ndc : (addrs c).Nodup := nodup_get (p := [i]) (t := .nod k b ts) (u := c) (by rw [addrs_nod]; exact nd) (by simp [Tree.get, Tree.kid, hc])
            rcases addrs_put h ndc a h1 with ⟨h3, h4⟩ | h3
            · exact .inl ⟨List.mem_cons_of_mem _ (addrsL_get hc a h3), h4⟩
            · exact .inr h3
theorem nodup_put : ∀ {p : List Nat} {t u u' : Tree}, Tree.get p t = some u → (addrs t).Nodup → (addrs u').Nodup → (∀ a ∈ addrs u', a ∈ addrs t → a ∈ addrs u) → (addrs (Tree.put u' p t)).Nodup
  | [], t, u, u', h, nd, nu, q => nu
  | i :: p, t, u, u', h, nd, nu, q => by
    unfold Tree.get at h
    cases t with
    | dat d => simp [Tree.kid] at h
    | per d => simp [Tree.kid] at h
    | nod k b ts =>
      cases hc : ts[i]? with
      | none => simp [Tree.kid, hc] at h
      | some c =>
        simp only [Tree.kid, hc] at h
        unfold Tree.put
        simp only [hc]
        rw [addrs_nod] at q ⊢
        have nd0 := nd
        rw [addrs_nod] at nd
        obtain ⟨nb, nts⟩ := List.nodup_cons.mp nd
        have hcu := addrs_get h
        have ndc : (addrs c).Nodup := nodup_get (p := [i]) (t := .nod k b ts) (u := c) nd0 (by simp [Tree.get, Tree.kid, hc])
        have nup : (addrs (Tree.put u' p c)).Nodup := nodup_put h ndc nu fun a ha hb => q a ha (List.mem_cons_of_mem _ (addrsL_get hc a hb))
        have sub : ∀ a ∈ addrs (Tree.put u' p c), a ∈ addrsL ts → a ∈ addrs c := fun a ha hb => by
          rcases addrs_put h ndc a ha with ⟨h1, _⟩ | h1
          · exact h1
          · exact hcu a (q a h1 (List.mem_cons_of_mem _ hb))
        refine List.nodup_cons.mpr ⟨fun z => ?_, nodupL_set hc nts nup sub⟩
        rcases addrsL_set hc nts b z with ⟨h1, _⟩ | h1
        · exact nb h1
        · rcases addrs_put h ndc b h1 with ⟨h2, _⟩ | h2
          · exact nb (addrsL_get hc b h2)
          · exact nb (addrsL_get hc b (hcu b (q b h2 List.mem_cons_self)))
/-! ### a cell's parts -/
def putAt (μ : Mu) (n : Nat) (p : List Nat) (u : Tree) : Mu := match μ[n]? with
  | some (.own t) => μ.set n (.own (Tree.put u p t))
  | _ => μ
theorem putAt_len {μ : Mu} {n : Nat} {p : List Nat} {u : Tree} : (putAt μ n p u).length = μ.length := by
  unfold putAt
  split
  · exact List.length_set
  · rfl
section
variable {K : PySem.W.Frag} {s0 s : Wd} {N0 n : Nat} {μ : Mu} {p : List Nat} {k : Knd} {b : Addr} {ts : List Tree} {u : Tree}
/-- a cell's part is another: the world changes at its own addresses and at new ones -/
theorem own_put {H' F' : Hp} {u' : Tree} (R : Rep K s μ) (x : Ext s0 N0 s μ.length) (h : nodeAt μ n p = some u) (hu : ∀ w, TreeR K s.F s.H w u → TreeR K F' H' w u') (hn : (addrs u').Nodup)
    (hfr : ∀ a ∈ addrs u', a ∈ addrs u ∨ (NL s μ.length a ∧ s0.H a = none)) (sub : Same F' H') (e : Same s.F F') (hF : ∀ a, s.F a = none → F' a ≠ none → (∃ t, μ[n]? = some (.own t) ∧ a ∈ addrs t ∧ a ∈ addrs u))
    (hk : ∀ a, a ∉ addrs u → s.H a ≠ none → H' a = s.H a) (hal : ∀ a, s.H a ≠ none → H' a ≠ none) (hnew : ∀ a ∈ addrs u', H' a ≠ none) (hroot : p = [] → ∀ v, TreeR K F' H' v u' → ∃ a, v = .ref a ∧ a ∈ addrs u') :
    Rep K { s with H := H', F := F', O := fun m a => if m = n then s.O n a ∨ a ∈ addrs u' else s.O m a } (putAt μ n p u') ∧ Ext s0 N0 { s with H := H', F := F', O := fun m a => if m = n then s.O n a ∨ a ∈ addrs u' else s.O m a } (putAt μ n p u').length := by
  obtain ⟨t, h1, h2⟩ := nodeAt_ex h
  have T := R.tree n t h1
  have hlt := (List.getElem?_eq_some_iff.mp h1).1
  have hu_t : ∀ a ∈ addrs u, a ∈ addrs t := addrs_get h2
  have hu_O : ∀ a ∈ addrs u, s.O n a := fun a ha => T.own a (hu_t a ha)
  have ep : putAt μ n p u' = μ.set n (.own (Tree.put u' p t)) := by unfold putAt; rw [h1]
  have keep : ∀ a, a ∉ addrs u → s.H a ≠ none → Keeps s.F s.H F' H' a := fun a ha hl => ⟨hk a ha hl, fun hf _ => by
    cases q : F' a with
    | none => rfl
    | some o => obtain ⟨_, _, _, z⟩ := hF a hf (by rw [q]; simp); exact absurd z ha⟩
  have tr : TreeR K F' H' (.ref (s.L n)) (Tree.put u' p t) := T.is.put e T.nd h2 hu fun a ha hn => keep a hn (T.is.live a ha)
  have nd : (addrs (Tree.put u' p t)).Nodup := nodup_put h2 T.nd hn fun a ha hb => (hfr a ha).elim id fun z => absurd (T.own a hb) (z.1 n hlt)
  have ad : ∀ a ∈ addrs (Tree.put u' p t), s.O n a ∨ a ∈ addrs u' := fun a ha => (addrs_put h2 T.nd a ha).elim (fun z => .inl (T.own a z.1)) .inr
  have nO : ∀ m a, m < μ.length → m ≠ n → s.O m a → a ∉ addrs u := fun m a hm hmn ho ha => hmn (R.dis m n a hm hlt ho (hu_O a ha))
  rw [ep, List.length_set]
  refine ⟨⟨sub, fun m c q => ?_, fun i j a hi hj ha hb => ?_, fun m hm => ?_, fun m a hm ha => ?_, fun m t' q => ?_⟩, ⟨fun a o q => e a o (x.f a o q), x.l, x.le, fun a o q hL => ?_, fun a g1 g2 g3 g4 => ?_, x.lnew, fun i a hi ha => ?_, fun a ha => hal a (x.alive a ha)⟩⟩
  · by_cases hm : n = m
    · subst hm
      rw [List.getElem?_set_self hlt] at q
      cases q
      exact hal _ (R.here hlt)
    · have q' := get_set_ne hm q
      have hm' := (List.getElem?_eq_some_iff.mp q').1
      have C := R.cell m c q'
      have hne : s.L m ∉ addrs u := nO m _ hm' (fun z => hm z.symm) (R.root m hm')
      have kp := keep _ hne (R.here hm')
      cases c with
      | lst xs => obtain ⟨c1, vs, c2, c3⟩ := C; exact ⟨kp.2 c1 fun ws z => (by rw [c2] at z; cases z), vs, kp.1.trans c2, c3.mono e⟩
      | frz xs => obtain ⟨vs, c2, c3⟩ := C; exact ⟨vs, e _ _ c2, c3.mono e⟩
      | dct kvs => obtain ⟨c1, ks, c2, c3, c4⟩ := C; exact ⟨kp.2 c1 fun ws z => (by rw [c2] at z; cases z), ks, kp.1.trans c2, c3, c4.mono e⟩
      | dck kvs => obtain ⟨c1, ks, c2, c3, c4⟩ := C; exact ⟨kp.2 c1 fun ws z => (by rw [c2] at z; cases z), ks, kp.1.trans c2, c3, c4.mono e⟩
      | abs P => obtain ⟨xs, hP, c1, vs, c2, c3⟩ := C; exact ⟨xs, hP, kp.2 c1 fun ws z => (by rw [c2] at z; cases z), vs, kp.1.trans c2, c3.mono e⟩
      | tab P nm => exact ⟨C.1, C.2.to e (kp.2 C.2.nf fun ws z => (by obtain ⟨_, ps, c2, _⟩ := C.2; rw [c2] at z; cases z)) fun _ z => kp.1.trans z⟩
      | own t => exact hal _ C
      | dead => exact hal _ C
  · rw [List.length_set] at hi hj
    simp only at ha hb
    by_cases e1 : i = n
    · by_cases e2 : j = n
      · rw [e1, e2]
      · rw [if_pos e1] at ha
        rw [if_neg e2] at hb
        rcases ha with ha | ha
        · exact e1.trans (R.dis n j a hlt hj ha hb)
        · rcases hfr a ha with z | z
          · exact absurd z (nO j a hj e2 hb)
          · exact absurd hb (z.1 j hj)
    · by_cases e2 : j = n
      · rw [if_neg e1] at ha
        rw [if_pos e2] at hb
        rcases hb with hb | hb
        · exact (R.dis i n a hi hlt ha hb).trans e2.symm
        · rcases hfr a hb with z | z
          · exact absurd z (nO i a hi e1 ha)
          · exact absurd ha (z.1 i hi)
      · rw [if_neg e1] at ha
        rw [if_neg e2] at hb
        exact R.dis i j a hi hj ha hb
  · rw [List.length_set] at hm
    simp only
    by_cases e1 : m = n
    · rw [if_pos e1, e1]; exact .inl (R.root n hlt)
    · rw [if_neg e1]; exact R.root m hm
  · rw [List.length_set] at hm
    simp only at ha
    by_cases e1 : m = n
    · rw [if_pos e1] at ha
      exact ha.elim (fun z => hal a (R.live n a hlt z)) (hnew a)
    · rw [if_neg e1] at ha
      exact hal a (R.live m a hm ha)
  · by_cases hm : n = m
    · subst hm
      rw [List.getElem?_set_self hlt] at q
      cases q
      exact ⟨tr, nd, fun a ha => by simp only [if_true]; exact ad a ha⟩
    · have q' := get_set_ne hm q
      have hm' := (List.getElem?_eq_some_iff.mp q').1
      refine (R.tree m t' q').keeps e rfl (fun a z => ?_) fun a ha => keep a (nO m a hm' (fun z => hm z.symm) ha) (R.live m a hm' ha)
      simp only
      rw [if_neg (fun z => hm z.symm)]
      exact z
  · have q1 := x.keep a o q hL
    show H' a = some o
    rw [hk a (fun z => x.out (by rw [q]; simp) hL n hlt (hu_O a z)) (by rw [q1]; simp)]
    exact q1
  · show F' a = none
    cases qF : F' a with
    | none => rfl
    | some o =>
      obtain ⟨_, _, _, z⟩ := hF a (x.fnew a g1 g2 g3 g4) (by rw [qF]; simp)
      exact absurd (hu_O a z) (x.out g3 g2 n hlt)
  · simp only at ha
    by_cases e1 : i = n
    · rw [if_pos e1] at ha
      rw [e1]
      rcases ha with ha | ha
      · exact x.onew n a hlt ha
      · rcases hfr a ha with z | z
        · exact x.onew n a hlt (hu_O a z)
        · exact .inl z.2
    · rw [if_neg e1] at ha
      exact x.onew i a hi ha
end
end
end DL
set_option Elab.async false
set_option linter.all false
set_option maxRecDepth 100000
set_option maxHeartbeats 4000000
namespace DL
open PySem L2
abbrev PQ := EV → Mu → Prop
abbrev XQ := Exn → Mu → Prop
/-- what must hold of the slots and the store so that an expression gives what is wanted -/
abbrev TDE := DEnv → Mu → PQ → XQ → Prop
abbrev TDT := DEnv → Mu → (Bool → Mu → Prop) → XQ → Prop
abbrev TDA := DEnv → Mu → (List EV → Mu → Prop) → XQ → Prop
structure DEnds where
  nx : DEnv → Mu → Prop
  rt : EV → Mu → Prop
  bk : DEnv → Mu → Prop := fun _ _ => False
  ct : DEnv → Mu → Prop := fun _ _ => False
abbrev TDS := DEnds → XQ → DEnv → Mu → Prop
def XR (K : PySem.W.Frag) (s : Wd) (cls : Value) (d : Option Addr) (x : Exn) : Prop := cls = .ref x.c ∧ match x.fs, d with
  | none, none => True
  | some fs, some a => ∃ vs : List (Str × V), s.F a = some (.xd vs) ∧ vs.map (·.1) = fs.map (·.1) ∧ DRs K s.F (vs.map (·.2)) (fs.map (·.2))
  | _, _ => False
/-- the state of a body: world, store, slots -/
structure Sit (K : PySem.W.Frag) (s : Wd) (μ : Mu) (σ : L2.St) (η : DEnv) : Prop where
  rep : Rep K s μ
  er : ER K s μ.length σ η
def LE (K : PySem.W.Frag) (s : Wd) (N : Nat) (q : PQ) (Q : VK) : Prop := ∀ (e : EV) (μ' : Mu) (v : V) (s' : Wd), q e μ' → Ext s N s' μ'.length → Rep K s' μ' → VR K s' μ'.length v e → Frsh s.H v e → Q v s'.H
def LB (K : PySem.W.Frag) (s : Wd) (N : Nat) (q : Bool → Mu → Prop) (Q : Bool → Hp → Prop) : Prop := ∀ (b : Bool) (μ' : Mu) (s' : Wd), q b μ' → Ext s N s' μ'.length → Rep K s' μ' → Q b s'.H
inductive VRs (K : PySem.W.Frag) (s : Wd) (N : Nat) (H0 : Hp) : List V → List EV → Prop
  | nil : VRs K s N H0 [] []
  | cons {v : V} {vs : List V} {e : EV} {es : List EV} : VR K s N v e → Frsh H0 v e → VRs K s N H0 vs es → VRs K s N H0 (v :: vs) (e :: es)
def LA (K : PySem.W.Frag) (s : Wd) (N : Nat) (q : List EV → Mu → Prop) (Q : List V → Hp → Prop) : Prop := ∀ (es : List EV) (μ' : Mu) (vs : List V) (s' : Wd), q es μ' → Ext s N s' μ'.length → Rep K s' μ' → VRs K s' μ'.length s.H vs es → Q vs s'.H
def LX (K : PySem.W.Frag) (s : Wd) (N : Nat) (σ : L2.St) (E : XQ) (W : WX) : Prop := ∀ (x : Exn) (μ' : Mu) (cls : Value) (d : Option Addr) (s' : Wd), E x μ' → Ext s N s' μ'.length → Rep K s' μ' → XR K s' cls d x → W cls d σ s'.H
section
variable {K : PySem.W.Frag} {s s1 : Wd} {N N1 : Nat} {μ1 : Mu} {σ : L2.St}
theorem LE.go {q : PQ} {Q : VK} (h : LE K s N q Q) (x : Ext s N s1 μ1.length) (R : Rep K s1 μ1) : LE K s1 μ1.length q Q := fun e μ' v s' hq x' R' r f =>
  h e μ' v s' hq (x.trans x' fun n hn => R.here hn) R' r (f.back (K := K) x fun n hn => R.here hn)
theorem LB.go {q : Bool → Mu → Prop} {Q : Bool → Hp → Prop} (h : LB K s N q Q) (x : Ext s N s1 μ1.length) (R : Rep K s1 μ1) : LB K s1 μ1.length q Q := fun e μ' s' hq x' R' =>
  h e μ' s' hq (x.trans x' fun n hn => R.here hn) R'
theorem LX.go {E : XQ} {W : WX} (h : LX K s N σ E W) (x : Ext s N s1 μ1.length) (R : Rep K s1 μ1) : LX K s1 μ1.length σ E W := fun e μ' cls d s' hq x' R' r =>
  h e μ' cls d s' hq (x.trans x' fun n hn => R.here hn) R' r
theorem LX.none {W : WX} : LX K s N σ (fun _ _ => False) W := fun _ _ _ _ _ h => h.elim
theorem VRs.ext {s' : Wd} {N' : Nat} {H0 : Hp} {vs : List V} {es : List EV} (h : VRs K s N H0 vs es) (x : Ext s N s' N') : VRs K s' N' H0 vs es := by
  induction h with
  | nil => exact .nil
  | cons r f _ ih => exact .cons (r.ext x) f ih
theorem VRs.len {H0 : Hp} {vs : List V} {es : List EV} (h : VRs K s N H0 vs es) : vs.length = es.length := by
  induction h with
  | nil => rfl
  | cons _ _ _ ih => rw [List.length_cons, List.length_cons, ih]
theorem VRs.back {s0 : Wd} {N0 : Nat} {s' : Wd} {N' : Nat} {vs : List V} {es : List EV} (h : VRs K s' N' s1.H vs es) (x : Ext s0 N0 s1 N1) (r : ∀ n, n < N1 → s1.H (s1.L n) ≠ Option.none) : VRs K s' N' s0.H vs es := by
  induction h with
  | nil => exact .nil
  | cons a f _ ih => exact .cons a (f.back (K := K) x r) ih
end
/-- an expression by its data reading -/
structure DE (X : Cx) (W : WX) (e : Expr) (td : TDE) : Prop where
  ex : ∃ t : TE, PE X e t ∧ ∀ (s : Wd) (σ : L2.St) (η : DEnv) (μ : Mu) (Q : VK) (q : PQ) (E : XQ), Sit X.K s μ σ η → td η μ q E → LE X.K s μ.length q Q → LX X.K s μ.length σ E W → t σ s.H Q
structure DT (X : Cx) (W : WX) (e : Expr) (td : TDT) : Prop where
  ex : ∃ t : TT, PT X e t ∧ ∀ (s : Wd) (σ : L2.St) (η : DEnv) (μ : Mu) (Q : Bool → Hp → Prop) (q : Bool → Mu → Prop) (E : XQ), Sit X.K s μ σ η → td η μ q E → LB X.K s μ.length q Q → LX X.K s μ.length σ E W → t σ s.H Q
structure DW (X : Cx) (W : WX) (e : Expr) (td : TDT) : Prop where
  ex : ∃ t : TT, PW X e t ∧ ∀ (s : Wd) (σ : L2.St) (η : DEnv) (μ : Mu) (Q : Bool → Hp → Prop) (q : Bool → Mu → Prop) (E : XQ), Sit X.K s μ σ η → td η μ q E → LB X.K s μ.length q Q → LX X.K s μ.length σ E W → t σ s.H Q
structure DA (X : Cx) (W : WX) (es : List Expr) (td : TDA) : Prop where
  ex : ∃ t : TA, PA X es t ∧ ∀ (s : Wd) (σ : L2.St) (η : DEnv) (μ : Mu) (Q : List V → Hp → Prop) (q : List EV → Mu → Prop) (E : XQ), Sit X.K s μ σ η → td η μ q E → LA X.K s μ.length q Q → LX X.K s μ.length σ E W → t σ s.H Q
/-- what is wanted behind a statement, lifted -/
structure LS (K : PySem.W.Frag) (s : Wd) (N : Nat) (d : DEnds) (E : XQ) (D : Ends) (W : WX) : Prop where
  nx : ∀ (η' : DEnv) (μ' : Mu) (σ' : L2.St) (s' : Wd), d.nx η' μ' → Ext s N s' μ'.length → Sit K s' μ' σ' η' → D.nx σ' s'.H
  rt : LE K s N d.rt D.rt
  bk : ∀ (η' : DEnv) (μ' : Mu) (σ' : L2.St) (s' : Wd), d.bk η' μ' → Ext s N s' μ'.length → Sit K s' μ' σ' η' → D.bk σ' s'.H
  ct : ∀ (η' : DEnv) (μ' : Mu) (σ' : L2.St) (s' : Wd), d.ct η' μ' → Ext s N s' μ'.length → Sit K s' μ' σ' η' → D.ct σ' s'.H
  xq : ∀ (x : Exn) (μ' : Mu) (cls : Value) (dd : Option Addr) (σ' : L2.St) (s' : Wd), E x μ' → Ext s N s' μ'.length → Rep K s' μ' → XR K s' cls dd x → W cls dd σ' s'.H
structure DS (X : Cx) (W : WX) (st : Stmt) (td : TDS) : Prop where
  ex : ∃ t : TS, PS X st t ∧ ∀ (s : Wd) (σ : L2.St) (η : DEnv) (μ : Mu) (D : Ends) (d : DEnds) (E : XQ), Sit X.K s μ σ η → td d E η μ → LS X.K s μ.length d E D W → t D σ s.H
structure DSs (X : Cx) (W : WX) (st : List Stmt) (td : TDS) : Prop where
  ex : ∃ t : TS, PSs X st t ∧ ∀ (s : Wd) (σ : L2.St) (η : DEnv) (μ : Mu) (D : Ends) (d : DEnds) (E : XQ), Sit X.K s μ σ η → td d E η μ → LS X.K s μ.length d E D W → t D σ s.H
theorem LS.go {K : PySem.W.Frag} {s s1 : Wd} {N : Nat} {μ1 : Mu} {d : DEnds} {E : XQ} {D : Ends} {W : WX} (h : LS K s N d E D W) (x : Ext s N s1 μ1.length) (R : Rep K s1 μ1) : LS K s1 μ1.length d E D W :=
  ⟨fun η' μ' σ' s' q x' S => h.nx η' μ' σ' s' q (x.trans x' fun n hn => R.here hn) S, h.rt.go x R, fun η' μ' σ' s' q x' S => h.bk η' μ' σ' s' q (x.trans x' fun n hn => R.here hn) S,
   fun η' μ' σ' s' q x' S => h.ct η' μ' σ' s' q (x.trans x' fun n hn => R.here hn) S, fun y μ' cls dd σ' s' q x' R' r => h.xq y μ' cls dd σ' s' q (x.trans x' fun n hn => R.here hn) R' r⟩
theorem LS.lx {K : PySem.W.Frag} {s : Wd} {N : Nat} {d : DEnds} {E : XQ} {D : Ends} {W : WX} (h : LS K s N d E D W) (σ : L2.St) : LX K s N σ E W := fun x μ' cls dd s' q x' R r => h.xq x μ' cls dd σ s' q x' R r
theorem Sit.go {K : PySem.W.Frag} {s s1 : Wd} {μ μ1 : Mu} {σ : L2.St} {η : DEnv} (h : Sit K s μ σ η) (x : Ext s μ.length s1 μ1.length) (R : Rep K s1 μ1) : Sit K s1 μ1 σ η := ⟨R, h.er.ext x⟩
section
variable {X : Cx} {W : WX} {e a b : Expr} {ta tb te : TDE} {pos : Pos}
/-! ### names, constants -/
def dVar (i : Nat) : TDE := fun η μ q _ => match η[i]? with
  | some (some (.new _)) => False
  | some (some (.newd _)) => False
  | some (some (.newk _)) => False
  | some (some (.newo _)) => False
  | some (some e) => q e μ
  | _ => False
def dC (d : PyData) : TDE := fun _ μ q _ => q (.dat d) μ
def dRaw (v : V) : TDE := fun _ μ q _ => q (.raw v) μ
theorem de_pe {t : TE} (h : PE X e t) (g : ∀ (s : Wd) (σ : L2.St) (η : DEnv) (μ : Mu) (Q : VK) (q : PQ) (E : XQ), Sit X.K s μ σ η → te η μ q E → LE X.K s μ.length q Q → LX X.K s μ.length σ E W → t σ s.H Q) : DE X W e te := ⟨t, h, g⟩
theorem de_var {i : Nat} (h : PE X e (tVar i)) : DE X W e (dVar i) := de_pe h fun s σ η μ Q q E S hq l _ => by
  unfold dVar at hq
  cases hi : η[i]? with
  | none => rw [hi] at hq; exact hq.elim
  | some o =>
    cases o with
    | none => rw [hi] at hq; exact hq.elim
    | some ev =>
      rw [hi] at hq
      obtain ⟨v, h1, h2⟩ := S.er.get i _ hi
      cases ev with
      | new xs => exact hq.elim
      | newd xs => exact hq.elim
      | newk xs => exact hq.elim
      | dat _ => exact ⟨v, h1, l _ μ v s hq (Ext.refl _ _) S.rep h2 trivial⟩
      | loc _ => exact ⟨v, h1, l _ μ v s hq (Ext.refl _ _) S.rep h2 trivial⟩
      | raw _ => exact ⟨v, h1, l _ μ v s hq (Ext.refl _ _) S.rep h2 trivial⟩
      | exc _ => exact ⟨v, h1, l _ μ v s hq (Ext.refl _ _) S.rep h2 trivial⟩
      | ro _ => exact ⟨v, h1, l _ μ v s hq (Ext.refl _ _) S.rep h2 trivial⟩
      | newo t => exact hq.elim
      | «at» _ _ _ => exact ⟨v, h1, l _ μ v s hq (Ext.refl _ _) S.rep h2 trivial⟩
      | per _ => exact ⟨v, h1, l _ μ v s hq (Ext.refl _ _) S.rep h2 trivial⟩
theorem de_c {v : V} {d : PyData} (h : PE X e (tC v)) (r : ∀ (K : PySem.W.Frag) (F : Hp), DR K F v d) : DE X W e (dC d) := de_pe h fun s σ η μ Q q E S hq l _ => l _ _ _ _ hq (Ext.refl _ _) S.rep (r _ _) trivial
theorem de_int {i j} : DE X W (.Constant (.int i) j pos) (dC (.int i)) := de_c pe_int fun _ _ => .int i
theorem de_bl {b j} : DE X W (.Constant (.bool b) j pos) (dC (.bool b)) := de_c pe_bl fun _ _ => .bl b
theorem de_non {j} : DE X W (.Constant .none j pos) (dC .none) := de_c pe_non fun _ _ => .non
theorem de_str {x j} (h : PyData.strOk x = true := by decide +kernel) : DE X W (.Constant (.str x) j pos) (dC (.str x)) := de_c pe_str fun _ _ => .str x h
theorem de_raw {v : V} (h : PE X e (tC v)) : DE X W e (dRaw v) := de_pe h fun s σ η μ Q q E S hq l _ => l _ _ _ _ hq (Ext.refl _ _) S.rep rfl trivial
/-! ### made still, made a cell -/
def toDat (μ : Mu) : EV → Option (PyData × Mu)
  | .dat d => some (d, μ)
  | .new xs => some (.list xs, μ)
  | .loc n => match μ[n]? with
    | some (.lst xs) => some (.list xs, μ.set n (.frz xs))
    | some (.frz xs) => some (.list xs, μ)
    | _ => none
  | .at n (i :: p) b => match nodeAt μ n (i :: p) with
    | some (.nod .lst b' ts) => match flatT ts with
      | some xs => if b' = b then some (.list xs, putAt μ n (i :: p) (.dat (.list xs))) else none
      | none => none
    | _ => none
  | _ => none
def withDat (μ : Mu) (e : EV) (k : PyData → Mu → Prop) : Prop := match toDat μ e with
  | some (d, μ') => k d μ'
  | none => False
/-- what is still -/
theorem still {K : PySem.W.Frag} {s0 s : Wd} {N0 : Nat} {μ : Mu} {e : EV} {v : V} {k : PyData → Mu → Prop} (R : Rep K s μ) (x : Ext s0 N0 s μ.length) (r : VR K s μ.length v e) (f : Frsh s0.H v e) (h : withDat μ e k) :
    ∃ d μ' F' O', k d μ' ∧ μ'.length = μ.length ∧ Rep K { s with F := F', O := O' } μ' ∧ Ext s0 N0 { s with F := F', O := O' } μ'.length ∧ DR K F' v d := by
  unfold withDat toDat at h
  cases e with
  | dat d => exact ⟨d, μ, s.F, s.O, h, rfl, R, x, r⟩
  | new xs =>
    obtain ⟨p, vs, rfl, h1, h2, h3, h4⟩ := r
    obtain ⟨a1, a2, a3⟩ := still_new R x h1 h2 h3 h4 (f p rfl)
    exact ⟨_, μ, _, s.O, h, rfl, a1, a2, a3⟩
  | loc n =>
    obtain ⟨hn, rfl⟩ := r
    simp only at h
    cases hc : μ[n]? with
    | none => rw [hc] at h; exact h.elim
    | some c =>
      rw [hc] at h
      cases c with
      | lst xs =>
        obtain ⟨F', a1, a2, a3⟩ := still_cell R x hc
        exact ⟨_, _, F', s.O, h, by simp, a1, a2, a3⟩
      | frz xs =>
        obtain ⟨vs, h1, h2⟩ := R.cell n _ hc
        exact ⟨_, μ, s.F, s.O, h, rfl, R, x, .lst h1 h2⟩
      | dct kvs => exact h.elim
      | dck kvs => exact h.elim
      | abs P => exact h.elim
      | tab P nm => exact h.elim
      | own t => exact h.elim
      | dead => exact h.elim
  | «at» n p b =>
    cases p with
    | nil => exact h.elim
    | cons i p =>
      simp only at h
      split at h
      · rename_i d μ' hm
        split at hm
        · rename_i b' ts hn
          split at hm
          · rename_i xs hx
            split at hm
            · rename_i e1
              subst e1
              cases hm
              have rv : v = .ref b' := r
              subst rv
              obtain ⟨vs, hH, hF, hT⟩ := node_is R hn
              have hF0 : s.F b' = none := hF.resolve_left (fun z => z)
              have hd := flatT_ok hT hx
              have e : Same s.F (upd s.F b' (.lst vs)) := fun y o q => by rw [upd_ne (ne_of_none q hF0)]; exact q
              have hr : DR K (upd s.F b' (.lst vs)) (.ref b') (.list xs) := .lst upd_same (hd.mono e)
              obtain ⟨t, ht, hp⟩ := nodeAt_ex hn
              have T := R.tree n t ht
              have hS : Same (upd s.F b' (.lst vs)) s.H := fun a o q => by
                by_cases ha : a = b'
                · subst ha
                  rw [upd_same] at q
                  cases q
                  exact hH
                · rw [upd_ne ha] at q
                  exact R.sub a o q
              have hI : ∀ a, s.F a = none → upd s.F b' (.lst vs) a ≠ none → ∃ t, μ[n]? = some (.own t) ∧ a ∈ addrs t ∧ a ∈ addrs (.nod .lst b' ts) := fun a h1 h2 => by
                have ha : a = b' := by
                  by_cases ha : a = b'
                  · exact ha
                  · rw [upd_ne ha] at h2; exact absurd h1 h2
                subst ha
                have hm : a ∈ addrs (.nod .lst a ts) := by rw [addrs_nod]; exact List.mem_cons_self
                exact ⟨t, ht, addrs_get hp a hm, hm⟩
              have OP := own_put (s0 := s0) (H' := s.H) (F' := upd s.F b' (.lst vs)) (u' := .dat (.list xs)) R x hn (fun w rw_ => by
                  have := rw_.node.1
                  subst this
                  exact .dat hr) (by rw [addrs_dat]; exact .nil) (fun a ha => by rw [addrs_dat] at ha; cases ha) hS e hI (fun a _ _ => rfl) (fun a h => h) (fun a ha => by rw [addrs_dat] at ha; cases ha) (fun z => by cases z)
              exact ⟨_, _, _, _, h, putAt_len, OP.1, OP.2, hr⟩
            · cases hm
          · cases hm
        · cases hm
      · exact h.elim
  | newo t => exact h.elim
  | per c => exact h.elim
  | raw v => exact h.elim
  | exc y => exact h.elim
  | ro y => exact h.elim
  | newd y => exact h.elim
  | newk y => exact h.elim
def dFrz (t : TDE) : TDE := fun η μ q E => t η μ (fun e μ1 => withDat μ1 e fun d μ2 => q (.dat d) μ2) E
def SemE (K : PySem.W.Frag) (W : WX) (t : TE) (td : TDE) : Prop := ∀ (s : Wd) (σ : L2.St) (η : DEnv) (μ : Mu) (Q : VK) (q : PQ) (E : XQ), Sit K s μ σ η → td η μ q E → LE K s μ.length q Q → LX K s μ.length σ E W → t σ s.H Q
theorem sem_frz {K : PySem.W.Frag} {t : TE} {td : TDE} (g : SemE K W t td) : SemE K W t (dFrz td) := fun s σ η μ Q q E S hq l lx => g s σ η μ Q _ E S hq (fun e μ' v s' hk x R r f => by
  obtain ⟨d, μ2, F', O', k, _, R2, x2, r2⟩ := still R x r f hk
  exact l (.dat d) μ2 v { s' with F := F', O := O' } k x2 R2 r2 trivial) lx
theorem de_frz (h : DE X W e te) : DE X W e (dFrz te) := by
  obtain ⟨t, hp, g⟩ := h.ex
  exact de_pe hp (sem_frz g)
def cellK (q : PQ) : PQ := fun e μ1 => match e with
  | .new xs => q (.loc μ1.length) (μ1 ++ [.lst xs])
  | .newd xs => q (.loc μ1.length) (μ1 ++ [.dct xs])
  | .newk xs => q (.loc μ1.length) (μ1 ++ [.dck xs])
  | .newo (.nod k b ts) => q (.at μ1.length [] b) (μ1 ++ [.own (.nod k b ts)])
  | .newo _ => False
  | e => q e μ1
def dCell (t : TDE) : TDE := fun η μ q E => t η μ (cellK q) E
theorem sem_cell {K : PySem.W.Frag} {t : TE} {td : TDE} (g : SemE K W t td) : SemE K W t (dCell td) := fun s σ η μ Q q E S hq l lx => g s σ η μ Q _ E S hq (fun e μ' v s' hk x R r f => by
  cases e with
  | new xs =>
    obtain ⟨p, vs, rfl, h1, h2, h3, h4⟩ := r
    obtain ⟨a1, a2⟩ := cell_new R x h1 h2 h3 h4 (f p rfl)
    refine l (.loc μ'.length) _ _ (newL s' μ'.length p (· = p)) hk a2 a1 ⟨by simp, by rw [newL_L]⟩ trivial
  | newd xs =>
    obtain ⟨p, ks, rfl, h1, h2, h3, h4, h5⟩ := r
    obtain ⟨a1, a2⟩ := cell_newC (c := .dct xs) R x ⟨h2, ks, h1, h4, h5⟩ h3 (f p rfl)
    refine l (.loc μ'.length) _ _ (newL s' μ'.length p (· = p)) hk a2 a1 ⟨by simp, by rw [newL_L]⟩ trivial
  | newk xs =>
    obtain ⟨p, ks, rfl, h1, h2, h3, h4, h5⟩ := r
    obtain ⟨a1, a2⟩ := cell_newC (c := .dck xs) R x ⟨h2, ks, h1, h4, h5⟩ h3 (f p rfl)
    refine l (.loc μ'.length) _ _ (newL s' μ'.length p (· = p)) hk a2 a1 ⟨by simp, by rw [newL_L]⟩ trivial
  | dat d => exact l _ _ _ _ hk x R r f
  | loc d => exact l _ _ _ _ hk x R r f
  | raw d => exact l _ _ _ _ hk x R r f
  | exc d => exact l _ _ _ _ hk x R r f
  | ro d => exact l _ _ _ _ hk x R r f
  | «at» _ _ _ => exact l _ _ _ _ hk x R r f
  | per _ => exact l _ _ _ _ hk x R r f
  | newo t =>
    cases t with
    | dat d => exact hk.elim
    | per d => exact hk.elim
    | nod k b ts =>
      obtain ⟨⟨p, rfl, hp⟩, r2, r3, r4⟩ := r
      have e : p = b := by cases r2; rfl
      subst e
      obtain ⟨a1, a2⟩ := cell_newO R x hp r2 r3 r4 f
      exact l (.at μ'.length [] p) _ _ (newL s' μ'.length p (· ∈ addrs (.nod k p ts))) hk a2 a1 rfl trivial) lx
theorem de_cell (h : DE X W e te) : DE X W e (dCell te) := by
  obtain ⟨t, hp, g⟩ := h.ex
  exact de_pe hp (sem_cell g)
/-! ### rows of expressions -/
def aNil : TDA := fun _ μ q _ => q [] μ
def aCons (t : TDE) (u : TDA) : TDA := fun η μ q E => t η μ (fun e μ1 => u η μ1 (fun es μ2 => q (e :: es) μ2) E) E
theorem da_nil : DA X W [] aNil := ⟨_, pa_nil, fun s σ η μ Q q E S hq l _ => l [] μ [] s hq (Ext.refl _ _) S.rep .nil⟩
theorem da_cons {es : List Expr} {u : TDA} (h : DE X W e te) (hr : DA X W es u) (hs : starEach (e :: es) X.env = (false, eval e X.env) :: starEach es X.env := by rfl) : DA X W (e :: es) (aCons te u) := by
  obtain ⟨t1, p1, g1⟩ := h.ex
  obtain ⟨t2, p2, g2⟩ := hr.ex
  refine ⟨_, pa_cons p1 p2 hs, fun s σ η μ Q q E S hq l lx => ?_⟩
  refine g1 s σ η μ _ _ E S hq (fun ev μ1 v s1 hq1 x1 R1 r1 f1 => ?_) lx
  refine g2 s1 σ η μ1 _ _ E (S.go x1 R1) hq1 (fun es' μ2 vs s2 hq2 x2 R2 r2 => ?_) (lx.go x1 R1)
  have h1 := fun n (hn : n < μ1.length) => R1.here hn
  exact l _ _ _ _ hq2 (x1.trans x2 h1) R2 (.cons (r1.ext x2) f1 (r2.back x1 h1))
/-- the data of a row -/
def datsOf : List EV → Option (List PyData)
  | [] => some []
  | .dat d :: es => (datsOf es).map (d :: ·)
  | _ :: _ => none
theorem datsOf_rs {K : PySem.W.Frag} {s : Wd} {N : Nat} {H0 : Hp} : ∀ {vs : List V} {es : List EV} {ds : List PyData}, VRs K s N H0 vs es → datsOf es = some ds → DRs K s.F vs ds
  | _, _, _, .nil, h => by cases h; exact .nil
  | _, _, _, .cons (e := e) r _ rs, h => by
    cases e with
    | dat d =>
      unfold datsOf at h
      rename_i vs es _
      cases q : datsOf es with
      | none => rw [q] at h; cases h
      | some ds' =>
        rw [q] at h
        cases h
        exact .cons r (datsOf_rs rs q)
    | _ => cases h
def withDats (es : List EV) (k : List PyData → Prop) : Prop := match datsOf es with
  | some ds => k ds
  | none => False
theorem withDats_ex {es : List EV} {k : List PyData → Prop} (h : withDats es k) : ∃ ds, datsOf es = some ds ∧ k ds := by
  unfold withDats at h
  split at h
  · exact ⟨_, by assumption, h⟩
  · exact h.elim
/-- a new object stands beside -/
theorem Rep.put {K : PySem.W.Frag} {s : Wd} {μ : Mu} {p : Addr} {o : HO} (R : Rep K s μ) (hp : s.H p = none) : Rep K { s with H := upd s.H p o } μ := by
  have k : Same s.H (upd s.H p o) := fun a u q => by rw [upd_ne (ne_of_none q hp)]; exact q
  refine R.of rfl (fun a u q => k a u (R.sub a u q)) (fun n c q => ?_) (fun a h => upd_live h) (R.beside (fun _ _ z => z) fun n a hn ha => keeps_put fun z => R.live n a hn ha (z ▸ hp))
  have := R.cell n c q
  cases c with
  | lst xs => obtain ⟨h1, vs, h2, h3⟩ := this; exact ⟨h1, vs, k _ _ h2, h3⟩
  | frz xs => exact this
  | dct kvs =>
    obtain ⟨h1, ks, h2, h3, h4⟩ := this
    exact ⟨h1, ks, k _ _ h2, h3, h4⟩
  | dck kvs =>
    obtain ⟨h1, ks, h2, h3, h4⟩ := this
    exact ⟨h1, ks, k _ _ h2, h3, h4⟩
  | abs P => obtain ⟨xs, hP, h1, vs, h2, h3⟩ := this; exact ⟨xs, hP, h1, vs, k _ _ h2, h3⟩
  | tab P nm => exact ⟨this.1, this.2.to (fun _ _ z => z) this.2.nf fun _ z => k _ _ z⟩
  | own t => exact upd_live this
  | dead => exact upd_live this
theorem Rep.notF {K : PySem.W.Frag} {s : Wd} {μ : Mu} {p : Addr} (R : Rep K s μ) (hp : s.H p = none) : s.F p = none := by
  cases e : s.F p with
  | none => rfl
  | some o => rw [R.sub p o e] at hp; cases hp
theorem Rep.notL {K : PySem.W.Frag} {s : Wd} {μ : Mu} {p : Addr} (R : Rep K s μ) (hp : s.H p = none) : NL s μ.length p := fun m hm e => R.live m p hm e hp
theorem Ext.put {K : PySem.W.Frag} {s0 s : Wd} {N0 : Nat} {μ : Mu} {p : Addr} {o : HO} (x : Ext s0 N0 s μ.length) (R : Rep K s μ) (hp : s.H p = none) : Ext s0 N0 { s with H := upd s.H p o } μ.length :=
  ⟨x.f, x.l, x.le, fun a u q hn => by
    have q' := x.keep a u q hn
    show upd s.H p o a = some u
    rw [upd_ne (ne_of_none q' hp)]
    exact q', x.fnew, x.lnew, x.onew, fun a h => upd_live (x.alive a h)⟩
/-- fresh now, fresh ahead -/
theorem Ext.fresh {K : PySem.W.Frag} {s0 s : Wd} {N0 : Nat} {μ : Mu} {p : Addr} (x : Ext s0 N0 s μ.length) (R : Rep K s μ) (hp : s.H p = none) : s0.H p = none := by
  have : Frsh s0.H (.ref p) (.new []) := Frsh.back (K := K) x (s1 := s) (v := .ref p) (e := .new []) (fun q hq => by cases hq; exact hp) fun n hn => R.here hn
  exact this p rfl
/-- [a, b, ..]: a list that nobody else has; the items still -/
def dLst (t : TDA) : TDE := fun η μ q E => t η μ (fun es μ1 => withDats es fun ds => ds.length ≤ 100000 ∧ q (.new ds) μ1) E
def dTup (t : TDA) : TDE := fun η μ q E => t η μ (fun es μ1 => withDats es fun ds => ds.length ≤ 100000 ∧ q (.dat (.tuple ds)) μ1) E
theorem line_of {n : Nat} (h : n ≤ 100000) : n ≤ sizeLine := Nat.le_trans h (by decide)
theorem de_lst {es : List Expr} {t : TDA} (h : DA X W es t) : DE X W (.List es pos) (dLst t) := by
  obtain ⟨t1, p1, g1⟩ := h.ex
  refine de_pe (pe_lst p1) fun s σ η μ Q q E S hq l lx => ?_
  refine g1 s σ η μ _ _ E S hq (fun es' μ1 vs s1 hq1 x1 R1 r1 => ?_) lx
  obtain ⟨ds, e1, hz, hq1⟩ := withDats_ex hq1
  have d := datsOf_rs r1 e1
  refine ⟨line_of (by rw [d.length]; exact hz), fun p hp => ?_⟩
  exact l (.new ds) μ1 (.ref p) { s1 with H := upd s1.H p (.lst vs) } hq1 (x1.put R1 hp) (R1.put hp) ⟨p, vs, rfl, upd_same, R1.notF hp, R1.notL hp, d⟩ (fun y hy => by cases hy; exact x1.fresh R1 hp)
/-- a new still object -/
theorem Rep.putF {K : PySem.W.Frag} {s : Wd} {μ : Mu} {p : Addr} {o : HO} (R : Rep K s μ) (hp : s.H p = none) : Rep K { s with H := upd s.H p o, F := upd s.F p o } μ := by
  have k : Same s.H (upd s.H p o) := fun a u q => by rw [upd_ne (ne_of_none q hp)]; exact q
  have kF : Same s.F (upd s.F p o) := fun a u q => by rw [upd_ne (ne_of_none q (R.notF hp))]; exact q
  refine R.of rfl (fun a u q => ?_) (fun n c q => ?_) (fun a h => upd_live h) (R.beside kF fun n a hn ha => keeps_putF fun z => R.live n a hn ha (z ▸ hp))
  · have q' : upd s.F p o a = some u := q
    show upd s.H p o a = some u
    by_cases ha : a = p
    · subst ha
      rw [upd_same] at q' ⊢
      exact q'
    · rw [upd_ne ha] at q' ⊢
      exact R.sub a u q'
  · have hn := (List.getElem?_eq_some_iff.mp q).1
    have ne := R.rootNe (R.notL hp) n hn
    have := R.cell n c q
    cases c with
    | lst xs => obtain ⟨h1, vs, h2, h3⟩ := this; exact ⟨(upd_ne ne).trans h1, vs, k _ _ h2, h3.mono kF⟩
    | frz xs => obtain ⟨vs, h2, h3⟩ := this; exact ⟨vs, kF _ _ h2, h3.mono kF⟩
    | dct kvs =>
      obtain ⟨h1, ks, h2, h3, h4⟩ := this
      exact ⟨(upd_ne ne).trans h1, ks, k _ _ h2, h3, h4.mono kF⟩
    | dck kvs =>
      obtain ⟨h1, ks, h2, h3, h4⟩ := this
      exact ⟨(upd_ne ne).trans h1, ks, k _ _ h2, h3, h4.mono kF⟩
    | abs P => obtain ⟨xs, hP, h1, vs, h2, h3⟩ := this; exact ⟨xs, hP, (upd_ne ne).trans h1, vs, k _ _ h2, h3.mono kF⟩
    | tab P nm => exact ⟨this.1, this.2.to kF ((upd_ne ne).trans this.2.nf) fun _ z => k _ _ z⟩
    | own t => exact upd_live this
    | dead => exact upd_live this
theorem Ext.putF {K : PySem.W.Frag} {s0 s : Wd} {N0 : Nat} {μ : Mu} {p : Addr} {o : HO} (x : Ext s0 N0 s μ.length) (R : Rep K s μ) (hp : s.H p = none) : Ext s0 N0 { s with H := upd s.H p o, F := upd s.F p o } μ.length := by
  have kF : Same s.F (upd s.F p o) := fun a u q => by rw [upd_ne (ne_of_none q (R.notF hp))]; exact q
  have h0 := x.fresh R hp
  refine ⟨fun a u q => kF a u (x.f a u q), x.l, x.le, fun a u q hn => ?_, fun a h1 h2 h3 h4 => ?_, x.lnew, x.onew, fun a h => upd_live (x.alive a h)⟩
  · have q' := x.keep a u q hn
    show upd s.H p o a = some u
    rw [upd_ne (ne_of_none q' hp)]
    exact q'
  · show upd s.F p o a = none
    rw [upd_ne (fun z => h3 (by rw [z]; exact h0))]
    exact x.fnew a h1 h2 h3 h4
theorem de_tup {es : List Expr} {x1} {t : TDA} (h : DA X W es t) : DE X W (.Tuple es x1 pos) (dTup t) := by
  obtain ⟨t1, p1, g1⟩ := h.ex
  refine de_pe (pe_tup p1) fun s σ η μ Q q E S hq l lx => ?_
  refine g1 s σ η μ _ _ E S hq (fun es' μ1 vs s1 hq1 x1 R1 r1 => ?_) lx
  obtain ⟨ds, e1, hz, hq1⟩ := withDats_ex hq1
  have d := datsOf_rs r1 e1
  refine ⟨line_of (by rw [d.length]; exact hz), fun p hp => ?_⟩
  have kF : Same s1.F (upd s1.F p (.tup vs)) := fun a u q => by rw [upd_ne (ne_of_none q (R1.notF hp))]; exact q
  exact l (.dat (.tuple ds)) μ1 (.ref p) _ hq1 (x1.putF R1 hp) (R1.putF hp) (.tup upd_same (d.mono kF)) trivial
end
end DL
set_option Elab.async false
set_option linter.all false
set_option maxRecDepth 100000
set_option maxHeartbeats 4000000
namespace DL
open PySem L2
section
variable {X : Cx} {W : WX} {e a b c : Expr} {ta tb te : TDE} {pos : Pos} {rest : List Expr} {tA tB' : TDT}
/-! ### tests -/
def withB (e : EV) (k : Bool → Prop) : Prop := match e with
  | .dat (.bool b) => k b
  | _ => False
theorem withB_ex {e : EV} {k : Bool → Prop} (h : withB e k) : ∃ b, e = .dat (.bool b) ∧ k b := by
  unfold withB at h
  split at h
  · exact ⟨_, rfl, h⟩
  · exact h.elim
theorem vr_b {K : PySem.W.Frag} {s : Wd} {N : Nat} {v : V} {b : Bool} (r : VR K s N v (.dat (.bool b))) : v = .bl b := by
  have r' : DR K s.F v (.bool b) := r
  cases r'
  rfl
theorem vr_i {K : PySem.W.Frag} {s : Wd} {N : Nat} {v : V} {b : Int} (r : VR K s N v (.dat (.int b))) : v = .int b := by
  have r' : DR K s.F v (.int b) := r
  cases r'
  rfl
theorem vr_s {K : PySem.W.Frag} {s : Wd} {N : Nat} {v : V} {b : Str} (r : VR K s N v (.dat (.str b))) : v = .str b := by
  have r' : DR K s.F v (.str b) := r
  cases r'
  rfl
theorem vr_n {K : PySem.W.Frag} {s : Wd} {N : Nat} {v : V} (r : VR K s N v (.dat .none)) : v = .non := by
  have r' : DR K s.F v .none := r
  cases r'
  rfl
def tVal (t : TDE) : TDT := fun η μ q E => t η μ (fun e μ1 => withB e fun b => q b μ1) E
theorem dt_val (h : DE X W e te) (he : ∀ whole, isTrue e X.env whole = (do let v ← whole; standAt e.pos; holding [v] (truthy v)) := by intro _; rfl) : DT X W e (tVal te) := by
  obtain ⟨t, p, g⟩ := h.ex
  refine ⟨_, pt_val p he, fun s σ η μ Q q E S hq l lx => g s σ η μ _ _ E S hq (fun ev μ' v s' hk x R r f => ?_) lx⟩
  obtain ⟨b, rfl, hk⟩ := withB_ex hk
  exact ⟨b, vr_b r, l b μ' s' hk x R⟩
def tOrD (t u : TDT) : TDT := fun η μ q E => t η μ (fun b μ1 => if b = true then q true μ1 else u η μ1 q E) E
def tNotD (t : TDT) : TDT := fun η μ q E => t η μ (fun b μ1 => q (!b) μ1) E
theorem dw_or1 (ha : DT X W a tA) : DW X W (.BoolOp .Or [a] pos) tA := by
  obtain ⟨t, p, g⟩ := ha.ex
  exact ⟨t, pw_or1 p, g⟩
theorem dw_or (ha : DT X W a tA) (hb : DW X W (.BoolOp .Or (b :: rest) pos) tB') : DW X W (.BoolOp .Or (a :: b :: rest) pos) (tOrD tA tB') := by
  obtain ⟨t, p, g⟩ := ha.ex
  obtain ⟨u, p2, g2⟩ := hb.ex
  refine ⟨_, pw_or p p2, fun s σ η μ Q q E S hq l lx => g s σ η μ _ _ E S hq (fun k μ' s' hk x R => ?_) lx⟩
  cases k with
  | true => exact l true μ' s' hk x R
  | false => exact g2 s' σ η μ' Q q E (S.go x R) hk (l.go x R) (lx.go x R)
theorem DW.dt (h : DW X W e tA) : DT X W e tA := by
  obtain ⟨t, p, g⟩ := h.ex
  exact ⟨t, p.pt, g⟩
theorem dt_not (ha : DT X W a tA) : DT X W (.UnaryOp .Not a pos) (tNotD tA) := by
  obtain ⟨t, p, g⟩ := ha.ex
  exact ⟨_, pt_not p, fun s σ η μ Q q E S hq l lx => g s σ η μ _ _ E S hq (fun k μ' s' hk x R => l (!k) μ' s' hk x R) lx⟩
/-! .. as values -/
def dAndV (t u : TDE) : TDE := fun η μ q E => t η μ (fun e μ1 => withB e fun b => if b = true then u η μ1 q E else q (.dat (.bool false)) μ1) E
def dNotV (t : TDE) : TDE := fun η μ q E => t η μ (fun e μ1 => withB e fun b => q (.dat (.bool (!b))) μ1) E
theorem de_one {op} (h : DE X W a te) : DE X W (.BoolOp op [a] pos) te := by
  obtain ⟨t, p, g⟩ := h.ex
  exact ⟨t, pe_one p, g⟩
theorem de_and (ha : DE X W a ta) (hb : DE X W (.BoolOp .And (b :: rest) pos) tb) : DE X W (.BoolOp .And (a :: b :: rest) pos) (dAndV ta tb) := by
  obtain ⟨t, p, g⟩ := ha.ex
  obtain ⟨u, p2, g2⟩ := hb.ex
  refine de_pe (pe_and p p2) fun s σ η μ Q q E S hq l lx => g s σ η μ _ _ E S hq (fun ev μ' v s' hk x R r f => ?_) lx
  obtain ⟨k, rfl, hk⟩ := withB_ex hk
  refine ⟨k, vr_b r, ?_⟩
  cases k with
  | true => exact g2 s' σ η μ' Q q E (S.go x R) hk (l.go x R) (lx.go x R)
  | false => exact l _ μ' _ s' hk x R (.bl false) trivial
theorem de_not (ha : DE X W a ta) : DE X W (.UnaryOp .Not a pos) (dNotV ta) := by
  obtain ⟨t, p, g⟩ := ha.ex
  refine de_pe (pe_not p) fun s σ η μ Q q E S hq l lx => g s σ η μ _ _ E S hq (fun ev μ' v s' hk x R r f => ?_) lx
  obtain ⟨k, rfl, hk⟩ := withB_ex hk
  exact ⟨k, vr_b r, l _ μ' _ s' hk x R (.bl _) trivial⟩
/-! ### operators, by values -/
abbrev OD := EV → EV → Mu → PQ → Prop
def OpS (K : PySem.W.Frag) (r : R2) (o : OD) : Prop := ∀ (s0 : Wd) (N0 : Nat) (s : Wd) (μ : Mu) (x y : V) (ex ey : EV) (q : PQ) (Q : VK), Rep K s μ → Ext s0 N0 s μ.length → VR K s μ.length x ex → Frsh s0.H x ex → VR K s μ.length y ey → Frsh s0.H y ey →
  o ex ey μ q → LE K s0 N0 q Q → r x y s.H Q
def dOp (o : OD) (ta tb : TDE) : TDE := fun η μ q E => ta η μ (fun x μ1 => tb η μ1 (fun y μ2 => o x y μ2 q) E) E
theorem de_op {op : Operator} {r : R2} {o : OD} (ho : OpR X (binaryOp op) r) (hs : OpS X.K r o) (ha : DE X W a ta) (hb : DE X W b tb) : DE X W (.BinOp a op b pos) (dOp o ta tb) := by
  obtain ⟨t1, p1, g1⟩ := ha.ex
  obtain ⟨t2, p2, g2⟩ := hb.ex
  refine de_pe (pe_op ho p1 p2) fun s σ η μ Q q E S hq l lx => g1 s σ η μ _ _ E S hq (fun ex μ1 x s1 hk1 x1 R1 r1 f1 => ?_) lx
  refine g2 s1 σ η μ1 _ _ E (S.go x1 R1) hk1 (fun ey μ2 y s2 hk2 x2 R2 r2 f2 => ?_) (lx.go x1 R1)
  have h1 := fun n (hn : n < μ1.length) => R1.here hn
  exact hs s _ s2 μ2 x y ex ey q Q R2 (x1.trans x2 h1) (r1.ext x2) f1 r2 (f2.back (K := X.K) x1 h1) hk2 l
theorem de_cmp {op : CmpOp} {r : R2} {o : OD} (ho : OpR X (compareOp op) r) (hs : OpS X.K r o) (ha : DE X W a ta) (hb : DE X W b tb) (hm : behindInMarks op b = false) : DE X W (.Compare a [op] [b] pos) (dOp o ta tb) := by
  obtain ⟨t1, p1, g1⟩ := ha.ex
  obtain ⟨t2, p2, g2⟩ := hb.ex
  refine de_pe (pe_cmpR ho p1 p2 hm) fun s σ η μ Q q E S hq l lx => g1 s σ η μ _ _ E S hq (fun ex μ1 x s1 hk1 x1 R1 r1 f1 => ?_) lx
  refine g2 s1 σ η μ1 _ _ E (S.go x1 R1) hk1 (fun ey μ2 y s2 hk2 x2 R2 r2 f2 => ?_) (lx.go x1 R1)
  have h1 := fun n (hn : n < μ1.length) => R1.here hn
  exact hs s _ s2 μ2 x y ex ey q Q R2 (x1.trans x2 h1) (r1.ext x2) f1 r2 (f2.back (K := X.K) x1 h1) hk2 l
theorem dt_cmp {op : CmpOp} {r : R2} {o : OD} (ho : OpR X (compareOp op) r) (hs : OpS X.K r o) (ha : DE X W a ta) (hb : DE X W b tb) (hm : behindInMarks op b = false) : DT X W (.Compare a [op] [b] pos) (tVal (dOp o ta tb)) := by
  obtain ⟨t1, p1, g1⟩ := ha.ex
  obtain ⟨t2, p2, g2⟩ := hb.ex
  refine ⟨_, pt_cmpR ho p1 p2 hm, fun s σ η μ Q q E S hq l lx => g1 s σ η μ _ _ E S hq (fun ex μ1 x s1 hk1 x1 R1 r1 f1 => ?_) lx⟩
  refine g2 s1 σ η μ1 _ _ E (S.go x1 R1) hk1 (fun ey μ2 y s2 hk2 x2 R2 r2 f2 => ?_) (lx.go x1 R1)
  have h1 := fun n (hn : n < μ1.length) => R1.here hn
  refine hs s _ s2 μ2 x y ex ey _ _ R2 (x1.trans x2 h1) (r1.ext x2) f1 r2 (f2.back (K := X.K) x1 h1) hk2 fun ev μ' v s' hk x' R r f => ?_
  obtain ⟨k, rfl, hk⟩ := withB_ex hk
  exact ⟨k, vr_b r, l k μ' s' hk x' R⟩
def noNew : EV → Bool
  | .new _ => false
  | .newd _ => false
  | .newk _ => false
  | .newo _ => false
  | _ => true
theorem frsh_of {H : Hp} {v : V} {e : EV} (h : noNew e = true) : Frsh H v e := by
  cases e with
  | new _ => cases h
  | newd _ => cases h
  | newk _ => cases h
  | newo _ => cases h
  | _ => trivial
/-- a < b < c -/
def dChain (o o' : OD) (ta tb tc : TDE) : TDE := fun η μ q E => ta η μ (fun x μ1 => tb η μ1 (fun y μ2 => noNew x = true ∧ noNew y = true ∧ o x y μ2 fun z μ3 => withB z fun k => if k = true then tc η μ3 (fun w μ4 => o' y w μ4 q) E else q (.dat (.bool false)) μ3) E) E
theorem chain_ok {r r' : R2} {o o' : OD} {tc : TDE} {t1 t2 t3 : TE} (hs : OpS X.K r o) (hs' : OpS X.K r' o')
    (g1 : ∀ (s : Wd) (σ : L2.St) (η : DEnv) (μ : Mu) (Q : VK) (q : PQ) (E : XQ), Sit X.K s μ σ η → ta η μ q E → LE X.K s μ.length q Q → LX X.K s μ.length σ E W → t1 σ s.H Q)
    (g2 : ∀ (s : Wd) (σ : L2.St) (η : DEnv) (μ : Mu) (Q : VK) (q : PQ) (E : XQ), Sit X.K s μ σ η → tb η μ q E → LE X.K s μ.length q Q → LX X.K s μ.length σ E W → t2 σ s.H Q)
    (g3 : ∀ (s : Wd) (σ : L2.St) (η : DEnv) (μ : Mu) (Q : VK) (q : PQ) (E : XQ), Sit X.K s μ σ η → tc η μ q E → LE X.K s μ.length q Q → LX X.K s μ.length σ E W → t3 σ s.H Q)
    (s : Wd) (σ : L2.St) (η : DEnv) (μ : Mu) (Q : VK) (q : PQ) (E : XQ) (S : Sit X.K s μ σ η) (hq : dChain o o' ta tb tc η μ q E) (l : LE X.K s μ.length q Q) (lx : LX X.K s μ.length σ E W) : tChain r r' t1 t2 t3 σ s.H Q := by
  refine g1 s σ η μ _ _ E S hq (fun ex μ1 x s1 hk1 x1 R1 r1 f1 => ?_) lx
  refine g2 s1 σ η μ1 _ _ E (S.go x1 R1) hk1 (fun ey μ2 y s2 hk2 x2 R2 r2 f2 => ?_) (lx.go x1 R1)
  obtain ⟨nx, ny, hk2⟩ := hk2
  have h1 := fun n (hn : n < μ1.length) => R1.here hn
  have x12 := x1.trans x2 h1
  refine hs s2 _ s2 μ2 x y ex ey _ _ R2 (Ext.refl _ _) (r1.ext x2) (frsh_of nx) r2 (frsh_of ny) hk2 fun ez μ3 z s3 hk3 x3 R3 r3 f3 => ?_
  obtain ⟨k, rfl, hk3⟩ := withB_ex hk3
  refine ⟨k, vr_b r3, ?_⟩
  have h2 := fun n (hn : n < μ2.length) => R2.here hn
  have x13 := x12.trans x3 h2
  cases k with
  | false => exact l _ μ3 _ s3 hk3 x13 R3 (.bl false) trivial
  | true =>
    refine g3 s3 σ η μ3 _ _ E (S.go x13 R3) hk3 (fun ew μ4 w s4 hk4 x4 R4 r4 f4 => ?_) (lx.go x13 R3)
    exact hs' s3 _ s4 μ4 y w ey ew q Q R4 x4 ((r2.ext x3).ext x4) (frsh_of ny) r4 f4 hk4 (l.go x13 R3)
theorem de_chain {op op' : CmpOp} {r r' : R2} {o o' : OD} {tc : TDE} (ho : OpR X (compareOp op) r) (hs : OpS X.K r o) (ho' : OpR X (compareOp op') r') (hs' : OpS X.K r' o') (ha : DE X W a ta) (hb : DE X W b tb) (hc : DE X W c tc)
    (hm : lastMarks [op, op'] [b, c] = false := by with_unfolding_all rfl) : DE X W (.Compare a [op, op'] [b, c] pos) (dChain o o' ta tb tc) := by
  obtain ⟨t1, p1, g1⟩ := ha.ex
  obtain ⟨t2, p2, g2⟩ := hb.ex
  obtain ⟨t3, p3, g3⟩ := hc.ex
  exact de_pe (pe_chain ho ho' p1 p2 p3 hm) (chain_ok hs hs' g1 g2 g3)
/-! ### one-place operators, built-in calls by values -/
abbrev UD := EV → Mu → PQ → Prop
def UnS (K : PySem.W.Frag) (r : V → Hp → VK → Prop) (o : UD) : Prop := ∀ (s0 : Wd) (N0 : Nat) (s : Wd) (μ : Mu) (x : V) (ex : EV) (q : PQ) (Q : VK), Rep K s μ → Ext s0 N0 s μ.length → VR K s μ.length x ex → Frsh s0.H x ex → o ex μ q → LE K s0 N0 q Q → r x s.H Q
def dUn (o : UD) (ta : TDE) : TDE := fun η μ q E => ta η μ (fun x μ1 => o x μ1 q) E
theorem de_un {op : UnaryOp} {r : V → Hp → VK → Prop} {o : UD} (ho : UnR X (unaryOp op) r) (hs : UnS X.K r o) (ha : DE X W a ta) : DE X W (.UnaryOp op a pos) (dUn o ta) := by
  obtain ⟨t1, p1, g1⟩ := ha.ex
  exact de_pe (pe_un ho p1) fun s σ η μ Q q E S hq l lx => g1 s σ η μ _ _ E S hq (fun ex μ1 x s1 hk1 x1 R1 r1 f1 => hs s _ s1 μ1 x ex q Q R1 x1 r1 f1 hk1 l) lx
abbrev CD := List EV → Mu → PQ → Prop
def CallS (K : PySem.W.Frag) (r : List V → Hp → VK → Prop) (o : CD) : Prop := ∀ (s0 : Wd) (N0 : Nat) (s : Wd) (μ : Mu) (xs : List V) (es : List EV) (q : PQ) (Q : VK), Rep K s μ → Ext s0 N0 s μ.length → VRs K s μ.length s0.H xs es → o es μ q → LE K s0 N0 q Q → r xs s.H Q
def dCB (o : CD) (t : TDA) : TDE := fun η μ q E => t η μ (fun es μ1 => o es μ1 q) E
theorem de_callB {id : String} {x : Str} {p : Pos} {es : List Expr} {t : TDA} {r : List V → Hp → VK → Prop} {o : CD} (hc : CallR X (.builtin id) r) (hs : CallS X.K r o) (hg : Gl X x) (hm : X.mg x = none) (hv : bootBuiltins x = some (.builtin id)) (ha : DA X W (e :: es) t) (hn : x ≠ "__name__" := by decide) (hdb : (x == ("__debug__" : Str)) = false := by decide)
    (he : starEach (e :: es) X.env = (false, eval e X.env) :: starEach es X.env := by rfl) (hpl : (backTo pos (starEach es X.env)).any (·.1) = false := by rfl) : DE X W (.Call (.Name x p) (e :: es) [] pos) (dCB o t) := by
  obtain ⟨t1, p1, g1⟩ := ha.ex
  exact de_pe (pe_callB hc hg hm hv p1 hn hdb he hpl) fun s σ η μ Q q E S hq l lx => g1 s σ η μ _ _ E S hq (fun ex μ1 x s1 hk1 x1 R1 r1 => hs s _ s1 μ1 x ex q Q R1 x1 r1 hk1 l) lx
theorem de_callTy {T : String} {x : Str} {p : Pos} {es : List Expr} {t : TDA} {r : List V → Hp → VK → Prop} {o : CD} (hc : CallR X (.type T) r) (hs : CallS X.K r o) (hg : Gl X x) (hm : X.mg x = none) (hv : bootBuiltins x = some (.type T)) (ha : DA X W (e :: es) t) (hn : x ≠ "__name__" := by decide) (hdb : (x == ("__debug__" : Str)) = false := by decide)
    (he : starEach (e :: es) X.env = (false, eval e X.env) :: starEach es X.env := by rfl) (hpl : (backTo pos (starEach es X.env)).any (·.1) = false := by rfl) : DE X W (.Call (.Name x p) (e :: es) [] pos) (dCB o t) := by
  obtain ⟨t1, p1, g1⟩ := ha.ex
  exact de_pe (pe_callTy hc hg hm hv p1 hn hdb he hpl) fun s σ η μ Q q E S hq l lx => g1 s σ η μ _ _ E S hq (fun ex μ1 x s1 hk1 x1 R1 r1 => hs s _ s1 μ1 x ex q Q R1 x1 r1 hk1 l) lx
/-! ### subscripts, slices, methods of built-in types -/
theorem de_ix {r : R2} {o : OD} (hr : IxR X r) (hs : OpS X.K r o) (ha : DE X W a ta) (hb : DE X W b tb) (hp : PlainIx b) : DE X W (.Subscript a b pos) (dOp o ta tb) := by
  obtain ⟨t1, p1, g1⟩ := ha.ex
  obtain ⟨t2, p2, g2⟩ := hb.ex
  refine de_pe (pe_ix hr p1 p2 hp) fun s σ η μ Q q E S hq l lx => g1 s σ η μ _ _ E S hq (fun ex μ1 x s1 hk1 x1 R1 r1 f1 => ?_) lx
  refine g2 s1 σ η μ1 _ _ E (S.go x1 R1) hk1 (fun ey μ2 y s2 hk2 x2 R2 r2 f2 => ?_) (lx.go x1 R1)
  have h1 := fun n (hn : n < μ1.length) => R1.here hn
  exact hs s _ s2 μ2 x y ex ey q Q R2 (x1.trans x2 h1) (r1.ext x2) f1 r2 (f2.back (K := X.K) x1 h1) hk2 l
abbrev TDO := DEnv → Mu → (Option Int → Mu → Prop) → XQ → Prop
structure DO (X : Cx) (W : WX) (e : Option Expr) (td : TDO) : Prop where
  ex : ∃ t : TO, PO X e t ∧ ∀ (s : Wd) (σ : L2.St) (η : DEnv) (μ : Mu) (Q : Option Int → Hp → Prop) (q : Option Int → Mu → Prop) (E : XQ), Sit X.K s μ σ η → td η μ q E →
    (∀ (o : Option Int) (μ' : Mu) (s' : Wd), q o μ' → Ext s μ.length s' μ'.length → Rep X.K s' μ' → Q o s'.H) → LX X.K s μ.length σ E W → t σ s.H Q
def oNo : TDO := fun _ μ q _ => q none μ
def oSome (t : TDE) : TDO := fun η μ q E => t η μ (fun e μ1 => match e with | .dat (.int i) => q (some i) μ1 | _ => False) E
theorem do_none : DO X W none oNo := ⟨_, po_none, fun s σ η μ Q q E S hq l lx => l none μ s hq (Ext.refl _ _) S.rep⟩
theorem do_some (h : DE X W e te) : DO X W (some e) (oSome te) := by
  obtain ⟨t1, p1, g1⟩ := h.ex
  refine ⟨_, po_some p1, fun s σ η μ Q q E S hq l lx => g1 s σ η μ _ _ E S hq (fun ex μ1 x s1 hk1 x1 R1 r1 f1 => ?_) lx⟩
  split at hk1
  · exact ⟨_, vr_i r1, l _ _ _ hk1 x1 R1⟩
  · exact hk1.elim
abbrev SD := EV → Option Int → Option Int → Mu → PQ → Prop
def SlS (K : PySem.W.Frag) (r : V → Option Int → Option Int → Hp → VK → Prop) (o : SD) : Prop := ∀ (s0 : Wd) (N0 : Nat) (s : Wd) (μ : Mu) (x : V) (ex : EV) (lo hi : Option Int) (q : PQ) (Q : VK), Rep K s μ → Ext s0 N0 s μ.length → VR K s μ.length x ex → Frsh s0.H x ex → o ex lo hi μ q → LE K s0 N0 q Q → r x lo hi s.H Q
def dSl (o : SD) (te : TDE) (tl th : TDO) : TDE := fun η μ q E => te η μ (fun x μ1 => tl η μ1 (fun l μ2 => th η μ2 (fun h μ3 => o x l h μ3 q) E) E) E
theorem de_slice {r : V → Option Int → Option Int → Hp → VK → Prop} {o : SD} {lo hi : Option Expr} {tl th : TDO} {p2 : Pos} (hr : SlR X r) (hs : SlS X.K r o) (ha : DE X W a ta) (hl : DO X W lo tl) (hh : DO X W hi th) : DE X W (.Subscript a (.Slice lo hi none p2) pos) (dSl o ta tl th) := by
  obtain ⟨t1, p1, g1⟩ := ha.ex
  obtain ⟨t2, p2, g2⟩ := hl.ex
  obtain ⟨t3, p3, g3⟩ := hh.ex
  refine de_pe (pe_slice hr p1 p2 p3) fun s σ η μ Q q E S hq l lx => g1 s σ η μ _ _ E S hq (fun ex μ1 x s1 hk1 x1 R1 r1 f1 => ?_) lx
  have h1 := fun n (hn : n < μ1.length) => R1.here hn
  refine g2 s1 σ η μ1 _ _ E (S.go x1 R1) hk1 (fun olo μ2 s2 hk2 x2 R2 => ?_) (lx.go x1 R1)
  have x12 := x1.trans x2 h1
  have h2 := fun n (hn : n < μ2.length) => R2.here hn
  refine g3 s2 σ η μ2 _ _ E (S.go x12 R2) hk2 (fun ohi μ3 s3 hk3 x3 R3 => ?_) (lx.go x12 R2)
  exact hs s _ s3 μ3 x ex olo ohi q Q R3 (x12.trans x3 h2) ((r1.ext x2).ext x3) f1 hk3 l
end
end DL
set_option Elab.async false
set_option linter.all false
set_option maxRecDepth 100000
set_option maxHeartbeats 4000000
namespace DL
open PySem L2
section
variable {X : Cx} {W : WX} {st : Stmt} {rest : List Stmt} {e eo ei : Expr} {te ti : TDE} {tA : TDT} {t u : TDS} {pos : Pos}
/-! ### blocks and small statements -/
def sNext : TDS := fun d _ η μ => d.nx η μ
def sSeq (t u : TDS) : TDS := fun d E η μ => t { d with nx := u d E } E η μ
theorem dss_nil : DSs X W [] sNext := ⟨_, pss_nil, fun s σ η μ D d E S hq l => l.nx η μ σ s hq (Ext.refl _ _) S⟩
theorem dss_cons (h1 : DS X W st t) (h2 : DSs X W rest u) : DSs X W (st :: rest) (sSeq t u) := by
  obtain ⟨t1, p1, g1⟩ := h1.ex
  obtain ⟨t2, p2, g2⟩ := h2.ex
  refine ⟨_, pss_cons p1 p2, fun s σ η μ D d E S hq l => g1 s σ η μ _ _ E S hq ⟨fun η' μ' σ' s' hk x S' => ?_, l.rt, l.bk, l.ct, l.xq⟩⟩
  exact g2 s' σ' η' μ' D d E S' hk (l.go x S'.rep)
theorem dss_one (h1 : DS X W st t) : DSs X W [st] t := by
  obtain ⟨t1, p1, g1⟩ := h1.ex
  exact ⟨_, pss_one p1, g1⟩
def sDrop (t : TDE) : TDS := fun d E η μ => t η μ (fun _ μ1 => d.nx η μ1) E
theorem ds_expr (h : DE X W e te) (hs : swapsWith e none pos.line X.env = pure false := by rfl) : DS X W (.Expr e pos) (sDrop te) := by
  obtain ⟨t1, p1, g1⟩ := h.ex
  exact ⟨_, ps_expr p1 hs, fun s σ η μ D d E S hq l => g1 s σ η μ _ _ E S hq (fun ev μ1 v s1 hk x R r f => l.nx η μ1 σ s1 hk x (S.go x R)) (l.lx σ)⟩
def sRet (t : TDE) : TDS := fun d E η μ => t η μ d.rt E
theorem ds_ret (h : DE X W e te) : DS X W (.Return (some e) pos) (sRet te) := by
  obtain ⟨t1, p1, g1⟩ := h.ex
  exact ⟨_, ps_ret p1, fun s σ η μ D d E S hq l => g1 s σ η μ _ _ E S hq l.rt (l.lx σ)⟩
def sRetN : TDS := fun d _ _ μ => d.rt (.dat .none) μ
def sIf (c : TDT) (t u : TDS) : TDS := fun d E η μ => c η μ (fun b μ1 => if b = true then t d E η μ1 else u d E η μ1) E
theorem ds_if {c : Expr} {a b : List Stmt} (hc : DT X W c tA) (ha : DSs X W a t) (hb : DSs X W b u) : DS X W (.If c a b pos) (sIf tA t u) := by
  obtain ⟨tc, p, g⟩ := hc.ex
  obtain ⟨t1, p1, g1⟩ := ha.ex
  obtain ⟨t2, p2, g2⟩ := hb.ex
  refine ⟨_, ps_if p p1 p2, fun s σ η μ D d E S hq l => g s σ η μ _ _ E S hq (fun k μ' s' hk x R => ?_) (l.lx σ)⟩
  cases k with
  | true => exact g1 s' σ η μ' D d E (S.go x R) hk (l.go x R)
  | false => exact g2 s' σ η μ' D d E (S.go x R) hk (l.go x R)
/-! ### targets -/
abbrev TDG := EV → DEnv → Mu → (DEnv → Mu → Prop) → Prop
/-- only the slots is are other ones -/
def Only (is : List Nat) (σ σ' : L2.St) : Prop := σ'.length = σ.length ∧ ∀ j, j ∉ is → σ'[j]? = σ[j]?
def LGo (K : PySem.W.Frag) (s : Wd) (N : Nat) (is : List Nat) (σ : L2.St) (q : DEnv → Mu → Prop) (Q : L2.St → Hp → Prop) : Prop := ∀ (η' : DEnv) (μ' : Mu) (σ' : L2.St) (s' : Wd), q η' μ' → Ext s N s' μ'.length → Sit K s' μ' σ' η' → Only is σ σ' → Q σ' s'.H
theorem Only.refl {is : List Nat} (σ : L2.St) : Only is σ σ := ⟨rfl, fun _ _ => rfl⟩
theorem Only.set {is : List Nat} (σ : L2.St) (i : Nat) (o : Option V) (h : i ∈ is) : Only is σ (σ.set i o) := ⟨by simp, fun j hj => List.getElem?_set_ne fun e => hj (by rw [← e]; exact h)⟩
theorem Only.trans {is js : List Nat} {σ σ1 σ2 : L2.St} (a : Only is σ σ1) (b : Only js σ1 σ2) : Only (is ++ js) σ σ2 := ⟨b.1.trans a.1, fun j hj => (b.2 j fun h => hj (List.mem_append_right _ h)).trans (a.2 j fun h => hj (List.mem_append_left _ h))⟩
structure DG (X : Cx) (target : Expr) (is : List Nat) (td : TDG) : Prop where
  ex : ∃ g : TG, PG X target g ∧ ∀ (s : Wd) (σ : L2.St) (η : DEnv) (μ : Mu) (v : V) (e : EV) (Q : L2.St → Hp → Prop) (q : DEnv → Mu → Prop), Sit X.K s μ σ η → VR X.K s μ.length v e → td e η μ q → LGo X.K s μ.length is σ q Q → g v σ s.H Q
def gNm (i : Nat) : TDG := fun e η μ q => noNew e = true ∧ q (η.set i (some e)) μ
theorem dg_name {i : Nat} {x : Str} (hN : X.N.Nodup) (hi : X.N[i]? = some x) (hx : Loc X.env.scope x) (hf : X.fn x = true ∨ X.env.scope.names.lookup x = some .local := by first | exact .inl rfl | exact .inr rfl | assumption) : DG X (.Name x pos) [i] (gNm i) :=
  ⟨_, pg_name hN hi hx hf, fun s σ η μ v e Q q S r hq l => l _ μ _ s hq.2 (Ext.refl _ _) ⟨S.rep, S.er.set i r⟩ (Only.set σ i _ (by simp))⟩
abbrev TDGs := List PyData → DEnv → Mu → (DEnv → Mu → Prop) → Prop
structure DGs (X : Cx) (ts : List Expr) (is : List Nat) (td : TDGs) : Prop where
  ex : ∃ g : TGs, PGs X ts g ∧ ∀ (s : Wd) (σ : L2.St) (η : DEnv) (μ : Mu) (vs : List V) (ds : List PyData) (Q : L2.St → Hp → Prop) (q : DEnv → Mu → Prop), Sit X.K s μ σ η → DRs X.K s.F vs ds → td ds η μ q → LGo X.K s μ.length is σ q Q → g vs σ s.H Q
def gNl : TDGs := fun ds η μ q => ds = [] ∧ q η μ
def gCn (t : TDG) (u : TDGs) : TDGs := fun ds η μ q => match ds with
  | d :: r => t (.dat d) η μ fun η' μ' => u r η' μ' q
  | [] => False
theorem dgs_nil : DGs X [] [] gNl := ⟨_, pgs_nil, fun s σ η μ vs ds Q q S r hq l => by
  obtain ⟨rfl, hq⟩ := hq
  cases r
  exact ⟨rfl, l η μ σ s hq (Ext.refl _ _) S (Only.refl σ)⟩⟩
theorem dgs_cons {e : Expr} {es : List Expr} {is js : List Nat} {t : TDG} {u : TDGs} (h1 : DG X e is t) (h2 : DGs X es js u) (hs : (assignEach (e :: es) X.env).map (·.2) = assign e X.env :: (assignEach es X.env).map (·.2) := by rfl) : DGs X (e :: es) (is ++ js) (gCn t u) := by
  obtain ⟨t1, p1, g1⟩ := h1.ex
  obtain ⟨t2, p2, g2⟩ := h2.ex
  refine ⟨_, pgs_cons p1 p2 hs, fun s σ η μ vs ds Q q S r hq l => ?_⟩
  cases r with
  | nil => exact hq.elim
  | cons r rr =>
    refine ⟨_, _, rfl, g1 s σ η μ _ (.dat _) _ _ S r hq fun η' μ' σ' s' hk x S' o => ?_⟩
    exact g2 s' σ' η' μ' _ _ Q q S' (rr.mono x.f) hk fun η2 μ2 σ2 s2 hk2 x2 S2 o2 => l η2 μ2 σ2 s2 hk2 (x.trans x2 fun n hn => S'.rep.here hn) S2 (o.trans o2)
/-- (a, b, ..) = a tuple that is data -/
def gTp (n : Nat) (t : TDGs) : TDG := fun e η μ q => match e with
  | .dat (.tuple ds) => ds.length = n ∧ t ds η μ q
  | _ => False
theorem dg_tup {es : List Expr} {k : Nat} {is : List Nat} {t : TDGs} {n : Nat} (hc : X.calm = true) (h : DGs X es is t) (hn : (assignEach es X.env).length = n := by rfl) (hst : (assignEach es X.env).findIdx? (·.1) = none := by rfl) : DG X (.Tuple es k pos) is (gTp n t) := by
  obtain ⟨t1, p1, g1⟩ := h.ex
  refine ⟨_, pg_tup hc p1 hn hst, fun s σ η μ v e Q q S r hq l => ?_⟩
  unfold gTp at hq
  split at hq
  · rename_i ds
    have r' : DR X.K s.F v (.tuple ds) := r
    cases r' with
    | tup h hs => exact ⟨_, _, rfl, SqT.of (S.rep.sub _ _ h), by rw [hs.length]; exact hq.1, g1 s σ η μ _ _ Q q S hs hq.2 l⟩
  · exact hq.elim
/-- target = value -/
def sAsg (t : TDE) (g : TDG) : TDS := fun d E η μ => t η μ (fun e μ1 => g e η μ1 d.nx) E
theorem ds_asg {tg : Expr} {is : List Nat} {g : TDG} (he : DE X W e te) (hg : DG X tg is g) (hs : swapsWithSole [tg] e pos.line X.env = pure false := by rfl) (hw : swappedStores [tg] e X.env = pure none := by rfl)
    (h1 : (assignEach [tg] X.env).map (·.2) = [assign tg X.env] := by rfl) : DS X W (.Assign [tg] e pos) (sAsg te g) := by
  obtain ⟨t1, p1, g1⟩ := he.ex
  obtain ⟨t2, p2, g2⟩ := hg.ex
  refine ⟨_, ps_asg p1 p2 hs hw h1, fun s σ η μ D d E S hq l => g1 s σ η μ _ _ E S hq (fun ev μ1 v s1 hk x R r f => ?_) (l.lx σ)⟩
  exact g2 s1 σ η μ1 v ev _ _ (S.go x R) r hk fun η' μ' σ' s' hk' x' S' _ => l.nx η' μ' σ' s' hk' (x.trans x' fun n hn => R.here hn) S'
theorem ds_set {i : Nat} {x : Str} {pos' : Pos} (hN : X.N.Nodup) (hi : X.N[i]? = some x) (hx : Loc X.env.scope x) (he : DE X W e te) (hs : swapsWith e (some (.Name x pos')) pos.line X.env = pure false := by rfl) (hf : X.fn x = true ∨ X.env.scope.names.lookup x = some .local := by first | exact .inl rfl | exact .inr rfl | assumption) :
    DS X W (.Assign [.Name x pos'] e pos) (sAsg te (gNm i)) := by
  obtain ⟨t1, p1, g1⟩ := he.ex
  refine ⟨_, ps_set hN hi hx p1 hs hf, fun s σ η μ D d E S hq l => g1 s σ η μ _ _ E S hq (fun ev μ1 v s1 hk x R r f => ?_) (l.lx σ)⟩
  have S1 := S.go x R
  exact l.nx _ μ1 _ s1 hk.2 x ⟨R, S1.er.set i r⟩
/-- a, b = x, y (local names): data -/
def sPar (i j : Nat) (t : TDA) : TDS := fun d E η μ => t η μ (fun es μ1 => match es with
  | [e1, e2] => noNew e1 = true ∧ noNew e2 = true ∧ d.nx ((η.set i (some e1)).set j (some e2)) μ1
  | _ => False) E
/-- name op= e -/
def sAug (i : Nat) (te : TDE) (o : OD) : TDS := fun d E η μ => match η[i]? with
  | some (some x) => noNew x = true ∧ te η μ (fun y μ1 => o x y μ1 fun z μ2 => noNew z = true ∧ d.nx (η.set i (some z)) μ2) E
  | _ => False
theorem ds_aug {i : Nat} {x : Str} {op : Operator} {ti : TIp} {o : OD} {pos' : Pos} (hN : X.N.Nodup) (hi : X.N[i]? = some x) (hx : Loc X.env.scope x) (he : DE X W e te) (ho : PIp X op ti) (hs : OpS X.K ti o)
    (hf : X.fn x = true ∨ X.env.scope.names.lookup x = some .local := by first | exact .inl rfl | exact .inr rfl | assumption) : DS X W (.AugAssign (.Name x pos') op e pos) (sAug i te o) := by
  obtain ⟨t1, p1, g1⟩ := he.ex
  refine ⟨_, ps_aug hN hi hx p1 ho hf, fun s σ η μ D d E S hq l => ?_⟩
  unfold sAug at hq
  split at hq
  · rename_i ex hex
    obtain ⟨v, h1, h2⟩ := S.er.get i _ hex
    refine ⟨v, h1, g1 s σ η μ _ _ E S hq.2 (fun ey μ1 y s1 hk x1 R r f => ?_) (l.lx σ)⟩
    refine hs s _ s1 μ1 v y ex ey _ _ R x1 (h2.ext x1) (frsh_of hq.1) r f hk fun ez μ2 z s2 hk2 x2 R2 r2 f2 => ?_
    exact l.nx _ μ2 _ s2 hk2.2 x2 ⟨R2, (S.go x2 R2).er.set i r2⟩
  · exact hq.elim
/-- o[i] = v, by values -/
abbrev SetD := EV → EV → EV → Mu → (Mu → Prop) → Prop
def SetS (K : PySem.W.Frag) (r : TSet) (o : SetD) : Prop := ∀ (s0 : Wd) (N0 : Nat) (s : Wd) (μ : Mu) (x y z : V) (ex ey ez : EV) (q : Mu → Prop) (Q : Hp → Prop), Rep K s μ → Ext s0 N0 s μ.length → VR K s μ.length x ex → VR K s μ.length y ey → VR K s μ.length z ez →
  o ex ey ez μ q → (∀ (μ' : Mu) (s' : Wd), q μ' → Ext s0 N0 s' μ'.length → Rep K s' μ' → Q s'.H) → r x y z s.H Q
def gSb (to ti : TDE) (o : SetD) : TDG := fun e η μ q => to η μ (fun x μ1 => ti η μ1 (fun y μ2 => o x y e μ2 fun μ3 => q η μ3) fun _ _ => False) fun _ _ => False
theorem dg_sub {to : TDE} {r : TSet} {os : SetD} (ho : DE X W eo to) (hi : DE X W ei ti) (hr : PSet X r) (hs : SetS X.K r os)
    (ha : ∀ v, assign (.Subscript eo ei pos) X.env v = (do
      let ov ← holding [v] (eval eo X.env)
      let iv ← holding [v, ov] (eval ei X.env)
      standAt pos
      holding [v, ov, iv] (setItem ov iv v)
      release [v, ov, iv] []) := by intro _; rfl) : DG X (.Subscript eo ei pos) [] (gSb to ti os) := by
  obtain ⟨t1, p1, g1⟩ := ho.ex
  obtain ⟨t2, p2, g2⟩ := hi.ex
  refine ⟨_, pg_sub p1 p2 hr ha, fun s σ η μ v e Q q S r0 hq l => ?_⟩
  refine g1 s σ η μ _ _ _ S hq (fun ex μ1 x s1 hk1 x1 R1 r1 f1 => ?_) LX.none
  refine g2 s1 σ η μ1 _ _ _ (S.go x1 R1) hk1 (fun ey μ2 y s2 hk2 x2 R2 r2 f2 => ?_) LX.none
  have h1 := fun n (hn : n < μ1.length) => R1.here hn
  have x12 := x1.trans x2 h1
  exact hs s _ s2 μ2 x y v ex ey e _ _ R2 x12 (r1.ext x2) r2 (r0.ext x12) hk2 fun μ' s' hk x' R' => l η μ' σ s' hk x' (S.go x' R') (Only.refl σ)
/-! ### what is walked -/
/-- while G holds of the store, J gives the items, one a turn -/
def WalkS (K : PySem.W.Frag) (J : It) (s0 : Wd) (N0 : Nat) (items : List EV) (G : Mu → Prop) : Prop := ∀ (n : Nat) (s : Wd) (μ : Mu), Ext s0 N0 s μ.length → Rep K s μ → G μ →
  (n < items.length → J.go n s.H) ∧ J.stop items.length s.H ∧
  ∀ x H', n < items.length → J.yld n s.H x H' → ∃ (s' : Wd) (e : EV), s'.H = H' ∧ items[n]? = some e ∧ noNew e = true ∧ Ext s μ.length s' μ.length ∧ Rep K s' μ ∧ VR K s' μ.length x e
abbrev TDI := DEnv → Mu → (List EV → (Mu → Prop) → Mu → Prop) → XQ → Prop
structure DI (X : Cx) (W : WX) (tg iter : Expr) (td : TDI) : Prop where
  ex : ∃ wi : TI, PI X tg iter wi ∧ ∀ (s : Wd) (σ : L2.St) (η : DEnv) (μ : Mu) (R : It → Hp → Prop) (r : List EV → (Mu → Prop) → Mu → Prop) (E : XQ), Sit X.K s μ σ η → td η μ r E →
    (∀ (J : It) (items : List EV) (G : Mu → Prop) (μ' : Mu) (s' : Wd), r items G μ' → Ext s μ.length s' μ'.length → Rep X.K s' μ' → WalkS X.K J s' μ'.length items G → R J s'.H) → LX X.K s μ.length σ E W → wi σ s.H R
theorem PI.or {tg iter : Expr} {wi wj : TI} (h : PI X tg iter wi) (h' : PI X tg iter wj) : PI X tg iter (fun σ H R => wi σ H R ∨ wj σ H R) :=
  ⟨fun pins s σ H R I q => q.elim (h.run pins s σ H R I) (h'.run pins s σ H R I)⟩
/-- slots that name cells made since are forgotten -/
def clean (N : Nat) (η : DEnv) : DEnv := η.map fun o => match o with
  | some (.loc n) => if n < N then some (.loc n) else none
  | o => o
theorem er_clean {K : PySem.W.Frag} {s : Wd} {N N' : Nat} {σ : L2.St} {η : DEnv} (h : ER K s N' σ η) (hN : N ≤ N') : ER K s N σ (clean N η) := by
  refine ⟨by simp [clean, h.len], fun i e q => ?_⟩
  unfold clean at q
  rw [List.getElem?_map] at q
  cases hi : η[i]? with
  | none => rw [hi] at q; cases q
  | some o =>
    rw [hi] at q
    cases o with
    | none => cases q
    | some e0 =>
      obtain ⟨v, h1, h2⟩ := h.get i e0 hi
      refine ⟨v, h1, ?_⟩
      cases e0 with
      | loc n =>
        have q1 : (if n < N then some (EV.loc n) else none) = some e := Option.some.inj q
        split at q1
        · cases q1
          exact ⟨by assumption, h2.2⟩
        · cases q1
      | dat d => cases q; exact h2
      | new xs => cases q; obtain ⟨p, vs, a1, a2, a3, a4, a5⟩ := h2; exact ⟨p, vs, a1, a2, a3, fun m hm => a4 m (Nat.lt_of_lt_of_le hm hN), a5⟩
      | raw d => cases q; exact h2
      | exc d => cases q; exact h2
      | ro d => cases q; exact h2
      | newd xs => cases q; obtain ⟨p, vs, a1, a2, a3, a4, a5⟩ := h2; exact ⟨p, vs, a1, a2, a3, fun m hm => a4 m (Nat.lt_of_lt_of_le hm hN), a5⟩
      | newk xs => cases q; obtain ⟨p, vs, a1, a2, a3, a4, a5⟩ := h2; exact ⟨p, vs, a1, a2, a3, fun m hm => a4 m (Nat.lt_of_lt_of_le hm hN), a5⟩
      | newo t => cases q; obtain ⟨a1, a2, a3, a4⟩ := h2; exact ⟨a1, a2, a3, fun a ha m hm => a4 a ha m (Nat.lt_of_lt_of_le hm hN)⟩
      | «at» _ _ _ => cases q; exact h2
      | per d => cases q; exact h2
theorem Sit.clean {K : PySem.W.Frag} {s : Wd} {N : Nat} {μ : Mu} {σ : L2.St} {η : DEnv} (h : Sit K s μ σ η) (hN : N ≤ μ.length) : Sit K s (μ.take N) σ (DL.clean N η) := by
  have e : (μ.take N).length = N := by rw [List.length_take]; omega
  exact ⟨h.rep.take N, by rw [e]; exact er_clean h.er hN⟩
/-! ### for, while -/
/-! ### list comprehensions -/
structure DTs (X : Cx) (W : WX) (ifs : List Expr) (td : TDT) : Prop where
  ex : ∃ t : TT, PTs X ifs t ∧ ∀ (s : Wd) (σ : L2.St) (η : DEnv) (μ : Mu) (Q : Bool → Hp → Prop) (q : Bool → Mu → Prop) (E : XQ), Sit X.K s μ σ η → td η μ q E → LB X.K s μ.length q Q → LX X.K s μ.length σ E W → t σ s.H Q
def tYesD : TDT := fun _ μ q _ => q true μ
theorem dts_nil : DTs X W [] tYesD := ⟨_, pts_nil, fun s σ η μ Q q E S hq l lx => l true μ s hq (Ext.refl _ _) S.rep⟩
theorem dts_one {c : Expr} (h : DT X W c tA) : DTs X W [c] tA := by
  obtain ⟨t, p, g⟩ := h.ex
  exact ⟨_, pts_one p, g⟩
/-- no exception -/
abbrev WF : WX := fun _ _ _ _ => False
abbrev EF : XQ := fun _ _ => False
/-- the readings that data readings stand for -/
def upE (K : PySem.W.Frag) (td : TDE) : TE := fun σ H Q => ∃ (s : Wd) (η : DEnv) (μ : Mu) (q : PQ), s.H = H ∧ Sit K s μ σ η ∧ td η μ q EF ∧ LE K s μ.length q Q
def upT (K : PySem.W.Frag) (td : TDT) : TT := fun σ H Q => ∃ (s : Wd) (η : DEnv) (μ : Mu) (q : Bool → Mu → Prop), s.H = H ∧ Sit K s μ σ η ∧ td η μ q EF ∧ LB K s μ.length q Q
def upG (K : PySem.W.Frag) (is : List Nat) (td : TDG) : TG := fun v σ H Q => ∃ (s : Wd) (η : DEnv) (μ : Mu) (e : EV) (q : DEnv → Mu → Prop), s.H = H ∧ Sit K s μ σ η ∧ VR K s μ.length v e ∧ td e η μ q ∧ LGo K s μ.length is σ q Q
theorem DE.up (h : DE X WF e te) : PE X e (upE X.K te) := by
  obtain ⟨t, p, g⟩ := h.ex
  refine ⟨fun pins sh σ H Q I hq => ?_⟩
  obtain ⟨s, η, μ, q, rfl, S, hq, l⟩ := hq
  exact p.run pins sh σ s.H Q I (g s σ η μ Q q EF S hq l LX.none)
theorem DTs.up {ifs : List Expr} (h : DTs X WF ifs tA) : PTs X ifs (upT X.K tA) := by
  obtain ⟨t, p, g⟩ := h.ex
  refine ⟨fun pins sh σ H Q I hq => ?_⟩
  obtain ⟨s, η, μ, q, rfl, S, hq, l⟩ := hq
  exact p.run pins sh σ s.H Q I (g s σ η μ Q q EF S hq l LX.none)
theorem DG.up {tg : Expr} {is : List Nat} {td : TDG} (h : DG X tg is td) : PG X tg (upG X.K is td) := by
  obtain ⟨t, p, g⟩ := h.ex
  refine ⟨fun pins sh σ H v u Q I r hq => ?_⟩
  obtain ⟨s, η, μ, ev, q, rfl, S, rv, hq, l⟩ := hq
  exact p.run pins sh σ s.H v u Q I r (g s σ η μ v ev Q q S rv hq l)
theorem wipe_get (σ : L2.St) : ∀ (vs : List Nat) (i : Nat), (L2.wipe σ vs)[i]? = if i ∈ vs then (if i < σ.length then some none else none) else σ[i]?
  | [], i => by simp [L2.wipe]
  | v :: vs, i => by
    unfold L2.wipe
    by_cases hv : v = i
    · subst hv
      by_cases hl : v < σ.length
      · rw [List.getElem?_set_self (by rw [wipe_length]; exact hl)]
        simp [hl]
      · rw [List.getElem?_eq_none (by rw [List.length_set, wipe_length]; omega)]
        simp [hl]
    · rw [List.getElem?_set_ne hv, wipe_get σ vs i]
      have : (i ∈ v :: vs) ↔ i ∈ vs := by
        rw [List.mem_cons]
        exact ⟨fun z => z.elim (fun e => absurd e.symm hv) id, .inr⟩
      simp [this]
theorem wipe_only {is vs : List Nat} {σ σ' : L2.St} (h : Only is σ σ') (hs : ∀ i ∈ is, i ∈ vs) : L2.wipe σ' vs = L2.wipe σ vs := by
  refine List.ext_getElem? fun i => ?_
  rw [wipe_get, wipe_get, h.1]
  by_cases hi : i ∈ vs
  · rw [if_pos hi, if_pos hi]
  · rw [if_neg hi, if_neg hi]
    exact h.2 i fun z => hi (hs i z)
theorem wipe_twice (σ : L2.St) (vs : List Nat) : L2.wipe (L2.wipe σ vs) vs = L2.wipe σ vs := by
  refine List.ext_getElem? fun i => ?_
  rw [wipe_get, wipe_get, wipe_length]
  by_cases hi : i ∈ vs
  · rw [if_pos hi, if_pos hi]
  · rw [if_neg hi, if_neg hi]
/-- a list beside is written -/
theorem Rep.poke {K : PySem.W.Frag} {s : Wd} {μ : Mu} {p : Addr} {o : HO} (R : Rep K s μ) (hf : s.F p = none) (hl : NL s μ.length p) : Rep K { s with H := upd s.H p o } μ := by
  refine R.of rfl (fun a u q => ?_) (fun n c q => ?_) (fun a h => upd_live h) (R.beside (fun _ _ z => z) fun n a hn ha => keeps_put fun z => hl n hn (z ▸ ha))
  · show upd s.H p o a = some u
    have q' : s.F a = some u := q
    rw [upd_ne (ne_of_none q' hf)]
    exact R.sub a u q
  · have ne := R.rootNe hl n (List.getElem?_eq_some_iff.mp q).1
    have := R.cell n c q
    cases c with
    | lst xs => obtain ⟨h1, vs, h2, h3⟩ := this; exact ⟨h1, vs, (upd_ne ne).trans h2, h3⟩
    | frz xs => exact this
    | dct kvs =>
      obtain ⟨h1, ks, h2, h3, h4⟩ := this
      exact ⟨h1, ks, (upd_ne ne).trans h2, h3, h4⟩
    | dck kvs =>
      obtain ⟨h1, ks, h2, h3, h4⟩ := this
      exact ⟨h1, ks, (upd_ne ne).trans h2, h3, h4⟩
    | abs P => obtain ⟨xs, hP, h1, vs, h2, h3⟩ := this; exact ⟨xs, hP, h1, vs, (upd_ne ne).trans h2, h3⟩
    | tab P nm => exact ⟨this.1, this.2.to (fun _ _ z => z) this.2.nf fun _ z => (upd_ne ne).trans z⟩
    | own t => exact upd_live this
    | dead => exact upd_live this
theorem Ext.poke {s0 s : Wd} {N0 N : Nat} {p : Addr} {o : HO} (x : Ext s0 N0 s N) (h0 : s0.H p = none) : Ext s0 N0 { s with H := upd s.H p o } N :=
  ⟨x.f, x.l, x.le, fun a u q hn => by
    show upd s.H p o a = some u
    rw [upd_ne (ne_of_none q h0)]
    exact x.keep a u q hn, x.fnew, x.lnew, x.onew, fun a h => upd_live (x.alive a h)⟩
/-- [e for tg in it if c] -/
def dLc (ti : TDI) (g : TDG) (tt : TDT) (te : TDE) (vs : List Nat) : TDE := fun η μ q E => ti η μ (fun items G μ1 => items.length ≤ 100000 ∧ ∃ Inv : Nat → List PyData → Mu → Prop, Inv 0 [] μ1 ∧ (∀ i acc μ, Inv i acc μ → G μ ∧ acc.length ≤ i) ∧
  (∀ (i : Nat) (e : EV) acc μ, items[i]? = some e → Inv i acc μ → g e (wipeD η vs) μ fun η2 μ2 => tt η2 μ2 (fun b μ3 => if b = true then te η2 μ3 (fun ev μ4 => withDat μ4 ev fun d μ5 => Inv (i + 1) (acc ++ [d]) (μ5.take μ1.length)) EF else Inv (i + 1) acc (μ3.take μ1.length)) EF) ∧
  ∀ acc μ, Inv items.length acc μ → q (.new acc) μ) E
theorem lc_ok {ti : TDI} {g : TDG} {tt : TDT} {te : TDE} {wi : TI} {own : List (Str × Nat)} {is : List Nat} (his : ∀ i ∈ is, i ∈ own.map (·.2))
    (g1 : ∀ (s : Wd) (σ : L2.St) (η : DEnv) (μ : Mu) (R : It → Hp → Prop) (r : List EV → (Mu → Prop) → Mu → Prop) (E : XQ), Sit X.K s μ σ η → ti η μ r E →
      (∀ (J : It) (items : List EV) (G : Mu → Prop) (μ' : Mu) (s' : Wd), r items G μ' → Ext s μ.length s' μ'.length → Rep X.K s' μ' → WalkS X.K J s' μ'.length items G → R J s'.H) → LX X.K s μ.length σ E W → wi σ s.H R)
    (s : Wd) (σ : L2.St) (η : DEnv) (μ : Mu) (Q : VK) (q : PQ) (E : XQ) (S : Sit X.K s μ σ η) (hq : dLc ti g tt te (own.map (·.2)) η μ q E) (l : LE X.K s μ.length q Q) (lx : LX X.K s μ.length σ E W) :
    tLc wi (upG X.K is g) (upT X.K tt) (upE X.K te) (own.map (·.2)) σ s.H Q := by
  refine g1 s σ η μ _ _ E S hq (fun J items G μ1 s1 hk x1 R1 wk => ?_) lx
  obtain ⟨hz, Inv, h0, hG, hs, hd⟩ := hk
  intro D hD
  have hD0 := x1.fresh R1 hD
  refine ⟨fun i m H' => m = items.length - i ∧ i ≤ items.length ∧ ∃ (s' : Wd) (acc : List PyData) (μ' : Mu), s'.H = H' ∧ Ext s1 μ1.length s' μ'.length ∧ Rep X.K s' μ' ∧ VR X.K s' μ'.length (.ref D) (.new acc) ∧ Inv i acc μ', ⟨items.length, by simp, Nat.zero_le _, { s1 with H := upd s1.H D (.lst []) }, [], μ1, rfl, (Ext.refl s1 μ1.length).poke hD, R1.put hD, ⟨D, [], rfl, upd_same, R1.notF hD, R1.notL hD, .nil⟩, h0⟩, ?_⟩
  rintro i m H' ⟨rfl, hi, s', acc, μ', rfl, x', R', rD, iv⟩
  obtain ⟨gG, hacc⟩ := hG i acc μ' iv
  have ⟨wgo, wstop, wy⟩ := wk i s' μ' x' R' gG
  by_cases hlt : i < items.length
  · refine .inr ⟨wgo hlt, fun H2 => ∃ (s2 : Wd) (acc2 : List PyData) (μ2 : Mu), s2.H = H2 ∧ Ext s1 μ1.length s2 μ2.length ∧ Rep X.K s2 μ2 ∧ VR X.K s2 μ2.length (.ref D) (.new acc2) ∧ Inv (i + 1) acc2 μ2, fun H2 h2 => ⟨items.length - (i + 1), by omega, rfl, hlt, h2⟩, fun x H'' hy => ?_⟩
    obtain ⟨s2, e, rfl, he, hne, x2, R2, r2⟩ := wy x H'' hlt hy
    have x12 := x'.trans x2 fun n hn => R'.here hn
    have rD2 := rD.ext x2
    have Sw : Sit X.K s2 μ' (L2.wipe σ (own.map (·.2))) (wipeD η (own.map (·.2))) := ⟨R2, ((S.er.ext x1).ext x12).wipe _⟩
    refine ⟨s2, wipeD η (own.map (·.2)), μ', e, _, rfl, Sw, r2, hs i e acc μ' he iv, fun η3 μ3 σ3 s3 hk3 x3 S3 o3 => ?_⟩
    refine ⟨(wipe_only o3 his).trans (wipe_twice _ _), s3, η3, μ3, _, rfl, S3, hk3, fun b μ4 s4 hk4 x4 R4 => ?_⟩
    have x13 := x12.trans x3 fun n hn => R2.here hn
    have x14 := x13.trans x4 fun n hn => S3.rep.here hn
    have rD4 := (rD2.ext x3).ext x4
    cases b with
    | false =>
      have e4 : (μ4.take μ1.length).length = μ1.length := by rw [List.length_take]; have := x14.le; omega
      refine ⟨s4, acc, μ4.take μ1.length, rfl, by rw [e4]; exact x14.take (Nat.le_refl _) x14.le, R4.take _, ?_, hk4⟩
      obtain ⟨p, vs, a1, a2, a3, a4, a5⟩ := rD4
      exact ⟨p, vs, a1, a2, a3, fun m hm => a4 m (by rw [List.length_take] at hm; omega), a5⟩
    | true =>
      refine ⟨s4, η3, μ4, _, rfl, S3.go x4 R4, hk4, fun ev μ5 v s5 hk5 x5 R5 r5 f5 => ?_⟩
      have x15 := x14.trans x5 fun n hn => R4.here hn
      have rD5 := rD4.ext x5
      obtain ⟨p, ws, e0, a2, a3, a4, a5⟩ := rD5
      cases e0
      -- made still
      have hDd : s5.H D ≠ none := by rw [a2]; simp
      have f5' : Frsh s4.H v ev := f5
      have base : ∃ d μ6 F' O', Inv (i + 1) (acc ++ [d]) (μ6.take μ1.length) ∧ μ6.length = μ5.length ∧ Rep X.K { s5 with F := F', O := O' } μ6 ∧ Ext s4 μ4.length { s5 with F := F', O := O' } μ6.length ∧ DR X.K F' v d := still R5 x5 r5 f5' hk5
      obtain ⟨d, μ6, F', O', k6, len6, R6, x6, r6⟩ := base
      have x16 := x14.trans x6 fun n hn => R4.here hn
      have rD6 := rD4.ext x6
      obtain ⟨p, ws, e0, a2, a3, a4, a5⟩ := rD6
      cases e0
      have e6 : (μ6.take μ1.length).length = μ1.length := by rw [List.length_take]; have := x16.le; omega
      have hDm : NL { s5 with F := F', O := O' } (μ6.take μ1.length).length D := fun m hm => a4 m (by rw [List.length_take] at hm; omega)
      refine ⟨ws, a2, Nat.lt_of_lt_of_le (show ws.length < 100001 by have := a5.length; omega) (by decide), { s5 with F := F', O := O', H := upd s5.H D (.lst (ws ++ [v])) }, acc ++ [d], μ6.take μ1.length, rfl, ?_, ?_, ?_, k6⟩
      · rw [e6]
        exact (x16.poke hD).take (Nat.le_refl _) x16.le
      · exact (R6.take _).poke a3 hDm
      · exact ⟨D, ws ++ [v], rfl, upd_same, a3, hDm, a5.append (.cons r6 .nil)⟩
  · have e : i = items.length := by omega
    subst e
    refine .inl ⟨wstop, l (.new acc) μ' (.ref D) s' (hd acc μ' iv) (x1.trans x' fun n hn => R1.here hn) R' rD fun p hp => ?_⟩
    cases hp
    exact hD0
theorem de_lc {elt tg iter : Expr} {ifs : List Expr} {scope : Scope} {own : List (Str × Nat)} {is : List Nat} {ti : TDI} {g : TDG} {tt : TDT} (hc : X.calm = true) (hN : X.N.Nodup) (hi : DI X W tg iter ti) (ok : BlkOk X.N X.env.scope scope own) (his : ∀ i ∈ is, i ∈ own.map (·.2))
    (hg : ∀ (s : Shared) (H : Hp) (C : Addr) (cl : List (Str × Addr)) (fp : List Addr), DG (X.blk s H scope (compEnvC scope cl C X.env) fp) tg is g)
    (ht : ∀ (s : Shared) (H : Hp) (C : Addr) (cl : List (Str × Addr)) (fp : List Addr), DTs (X.blk s H scope (compEnvC scope cl C X.env) fp) WF ifs tt)
    (he : ∀ (s : Shared) (H : Hp) (C : Addr) (cl : List (Str × Addr)) (fp : List Addr), DE (X.blk s H scope (compEnvC scope cl C X.env) fp) WF elt te) (hs : ∀ x, foldedSetIterable iter X.env x = pure x := by intro _; rfl) :
    DE X W (.ListComp elt [⟨tg, iter, ifs, 0⟩] scope pos) (dLc ti g tt te (own.map (·.2))) := by
  obtain ⟨wi, p1, g1⟩ := hi.ex
  exact de_pe (pe_lc (g := upG X.K is g) (tt := upT X.K tt) (te := upE X.K te) hc hN p1 ok (fun s H C cl fp => (hg s H C cl fp).up) (fun s H C cl fp => (ht s H C cl fp).up) (fun s H C cl fp => (he s H C cl fp).up) hs) (lc_ok his g1)
/-- name = [..] in one row -/
theorem ds_setLc {i : Nat} {y : Str} {py : Pos} {elt tg iter : Expr} {ifs : List Expr} {scope : Scope} {own : List (Str × Nat)} {spos : Pos} {is : List Nat} {ti : TDI} {g : TDG} {tt : TDT} {k : TDE → TDE} (hc : X.calm = true) (hN : X.N.Nodup) (hy : X.N[i]? = some y) (hyl : X.env.scope.names.lookup y = some .local)
    (hs' : swapsWith (.ListComp elt [⟨tg, iter, ifs, 0⟩] scope pos) (some (.Name y py)) spos.line X.env = pure true)
    (hk : k = dFrz ∨ k = dCell)
    (hi : DI X W tg iter ti) (ok : BlkOk X.N X.env.scope scope own) (his : ∀ i ∈ is, i ∈ own.map (·.2))
    (hg : ∀ (s : Shared) (H : Hp) (C : Addr) (cl : List (Str × Addr)) (fp : List Addr), DG (X.blk s H scope (compEnvC scope cl C X.env) fp) tg is g)
    (ht : ∀ (s : Shared) (H : Hp) (C : Addr) (cl : List (Str × Addr)) (fp : List Addr), DTs (X.blk s H scope (compEnvC scope cl C X.env) fp) WF ifs tt)
    (he : ∀ (s : Shared) (H : Hp) (C : Addr) (cl : List (Str × Addr)) (fp : List Addr), DE (X.blk s H scope (compEnvC scope cl C X.env) fp) WF elt te) (hs : ∀ x, foldedSetIterable iter X.env x = pure x := by intro _; rfl) :
    DS X W (.Assign [.Name y py] (.ListComp elt [⟨tg, iter, ifs, 0⟩] scope pos) spos) (sAsg (k (dLc ti g tt te (own.map (·.2)))) (gNm i)) := by
  obtain ⟨wi, p1, g1⟩ := hi.ex
  have g2 : SemE X.K W (tLc wi (upG X.K is g) (upT X.K tt) (upE X.K te) (own.map (·.2))) (k (dLc ti g tt te (own.map (·.2)))) := by
    rcases hk with rfl | rfl
    · exact sem_frz (lc_ok his g1)
    · exact sem_cell (lc_ok his g1)
  refine ⟨_, ps_setLc (g := upG X.K is g) (tt := upT X.K tt) (te := upE X.K te) hc hN hy hyl hs' p1 ok (fun s H C cl fp => (hg s H C cl fp).up) (fun s H C cl fp => (ht s H C cl fp).up) (fun s H C cl fp => (he s H C cl fp).up) hs, fun s σ η μ D d E S hq l => ?_⟩
  refine g2 s σ η μ _ _ E S hq (fun ev μ1 v s1 hk x R r f => ?_) (l.lx σ)
  exact l.nx _ μ1 _ s1 hk.2 x ⟨R, (S.go x R).er.set i r⟩
end
end DL
set_option Elab.async false
set_option linter.all false
set_option maxRecDepth 100000
set_option maxHeartbeats 4000000
namespace DL
open PySem L2 PyProof.Rows
/-! ### contracts of defs -/
/-- a contract: the arguments, the store, what is wanted of the answer, of an exception -/
abbrev SpD := List EV → Mu → PQ → XQ → Prop
inductive VL (K : PySem.W.Frag) (s : Wd) (N : Nat) : List V → List EV → Prop
  | nil : VL K s N [] []
  | cons {v : V} {vs : List V} {e : EV} {es : List EV} : VR K s N v e → VL K s N vs es → VL K s N (v :: vs) (e :: es)
theorem VL.len {K : PySem.W.Frag} {s : Wd} {N : Nat} {vs : List V} {es : List EV} (h : VL K s N vs es) : vs.length = es.length := by
  induction h with
  | nil => rfl
  | cons _ _ ih => rw [List.length_cons, List.length_cons, ih]
theorem VL.get {K : PySem.W.Frag} {s : Wd} {N : Nat} : ∀ {vs : List V} {es : List EV} {i : Nat} {e : EV}, VL K s N vs es → es[i]? = some e → ∃ v, vs[i]? = some v ∧ VR K s N v e
  | _, _, _, _, .nil, e => by simp at e
  | _, _, 0, _, .cons h _, e => by simp at e; subst e; exact ⟨_, rfl, h⟩
  | _, _, i + 1, d, .cons _ hs, e => by
    obtain ⟨v, h1, h2⟩ := VL.get (i := i) (e := d) hs (by simpa using e)
    exact ⟨v, by simpa using h1, h2⟩
theorem VRs.vl {K : PySem.W.Frag} {s : Wd} {N : Nat} {H0 : Hp} {vs : List V} {es : List EV} (h : VRs K s N H0 vs es) : VL K s N vs es := by
  induction h with
  | nil => exact .nil
  | cons a _ _ ih => exact .cons a ih
theorem VL.append {K : PySem.W.Frag} {s : Wd} {N : Nat} {vs ws : List V} {es fs : List EV} (h : VL K s N vs es) (h' : VL K s N ws fs) : VL K s N (vs ++ ws) (es ++ fs) := by
  induction h with
  | nil => exact h'
  | cons a _ ih => exact .cons a ih
def spOf (K : PySem.W.Frag) (n : Nat) (sp : SpD) : Sp := fun vs H Q E => vs.length = n ∧ ∃ (s : Wd) (μ : Mu) (es : List EV) (q : PQ) (x : XQ), s.H = H ∧ Rep K s μ ∧ VL K s μ.length vs es ∧ sp es μ q x ∧ LE K s μ.length q Q ∧
  ∀ (y : Exn) (μ' : Mu) (cls : Value) (d : Option Addr) (s' : Wd), x y μ' → Ext s μ.length s' μ'.length → Rep K s' μ' → XR K s' cls d y → E cls d s'.H
/-- what goes out of a def: its own cells are forgotten, the answer's one is kept -/
def exitQ (N : Nat) (q : PQ) : PQ := fun e μ => match e with
  | .loc n => if n < N then q (.loc n) (μ.take N) else match μ[n]? with
    | some (.lst xs) => q (.new xs) (μ.take N)
    | some (.frz xs) => q (.dat (.list xs)) (μ.take N)
    | some (.dct kvs) => q (.newd kvs) (μ.take N)
    | some (.dck kvs) => q (.newk kvs) (μ.take N)
    | _ => False
  | .at n p b => if n < N then q (.at n p b) (μ.take N) else match nodeAt μ n p with
    | some (.nod k b' ts) => b' = b ∧ q (.newo (.nod k b ts)) (μ.take N)
    | _ => False
  | e => q e (μ.take N)
theorem exit_gen {K : PySem.W.Frag} {s : Wd} {N : Nat} {q : PQ} {κ : V → Wd → Prop} (l : ∀ (e : EV) (μ' : Mu) (v : V) (s' : Wd), q e μ' → Ext s N s' μ'.length → Rep K s' μ' → VR K s' μ'.length v e → Frsh s.H v e → κ v s') (hN : ∀ n, n < N → s.H (s.L n) ≠ none) :
    ∀ (e : EV) (μ' : Mu) (v : V) (s' : Wd), exitQ N q e μ' → Ext s N s' μ'.length → Rep K s' μ' → VR K s' μ'.length v e → Frsh s.H v e → κ v s' := by
  intro e μ' v s' hq x R r f
  have e1 : (μ'.take N).length = N := by rw [List.length_take]; have := x.le; omega
  have xt : Ext s N s' (μ'.take N).length := by rw [e1]; exact x.take (Nat.le_refl _) x.le
  have Rt := R.take N
  cases e with
  | dat d => exact l _ _ v s' hq xt Rt r trivial
  | raw d => exact l _ _ v s' hq xt Rt r trivial
  | exc d => exact l _ _ v s' hq xt Rt r trivial
  | ro d => exact l _ _ v s' hq xt Rt r trivial
  | newd xs =>
    obtain ⟨p, vs, a1, a2, a3, a4, a5⟩ := r
    exact l _ _ v s' hq xt Rt ⟨p, vs, a1, a2, a3, fun m hm => a4 m (by rw [e1] at hm; have := x.le; omega), a5⟩ f
  | newk xs =>
    obtain ⟨p, vs, a1, a2, a3, a4, a5⟩ := r
    exact l _ _ v s' hq xt Rt ⟨p, vs, a1, a2, a3, fun m hm => a4 m (by rw [e1] at hm; have := x.le; omega), a5⟩ f
  | new xs =>
    obtain ⟨p, vs, a1, a2, a3, a4, a5⟩ := r
    exact l _ _ v s' hq xt Rt ⟨p, vs, a1, a2, a3, fun m hm => a4 m (by rw [e1] at hm; have := x.le; omega), a5⟩ f
  | loc n =>
    obtain ⟨hn, rfl⟩ := r
    unfold exitQ at hq
    simp only at hq
    by_cases hlt : n < N
    · rw [if_pos hlt] at hq
      exact l _ _ _ s' hq xt Rt ⟨by rw [e1]; exact hlt, rfl⟩ trivial
    · rw [if_neg hlt] at hq
      have h0 : s.H (s'.L n) = none := x.lnew n (Nat.le_of_not_lt hlt) hn
      have ne : NL s' (μ'.take N).length (s'.L n) := fun m hm e => by
        rw [e1] at hm
        have := R.dis m n _ (by have := x.le; omega) hn e (R.root n hn)
        omega
      cases hc : μ'[n]? with
      | none => rw [hc] at hq; exact hq.elim
      | some c =>
        rw [hc] at hq
        have C := R.cell n c hc
        cases c with
        | lst xs =>
          obtain ⟨hf, vs, hv, hd⟩ := C
          exact l _ _ _ s' hq xt Rt ⟨s'.L n, vs, rfl, hv, hf, ne, hd⟩ (fun p hp => by cases hp; exact h0)
        | frz xs =>
          obtain ⟨vs, hv, hd⟩ := C
          exact l _ _ _ s' hq xt Rt (.lst hv hd) trivial
        | dct kvs =>
          obtain ⟨hf, ks, hv, hk, hd⟩ := C
          exact l _ _ _ s' hq xt Rt ⟨s'.L n, ks, rfl, hv, hf, ne, hk, hd⟩ (fun p hp => by cases hp; exact h0)
        | dck kvs =>
          obtain ⟨hf, ks, hv, hk, hd⟩ := C
          exact l _ _ _ s' hq xt Rt ⟨s'.L n, ks, rfl, hv, hf, ne, hk, hd⟩ (fun p hp => by cases hp; exact h0)
        | abs P => exact hq.elim
        | tab P nm => exact hq.elim
        | own t => exact hq.elim
        | dead => exact hq.elim
  | per d => exact l _ _ v s' hq xt Rt r trivial
  | newo t =>
    obtain ⟨a1, a2, a3, a4⟩ := r
    exact l _ _ v s' hq xt Rt ⟨a1, a2, a3, fun a ha m hm => a4 a ha m (by rw [e1] at hm; have := x.le; omega)⟩ f
  | «at» n p b =>
    unfold exitQ at hq
    simp only at hq
    by_cases hlt : n < N
    · rw [if_pos hlt] at hq
      exact l _ _ _ s' hq xt Rt r trivial
    · rw [if_neg hlt] at hq
      split at hq
      · rename_i k b' ts hc
        obtain ⟨rfl, hq⟩ := hq
        obtain ⟨t, ht, hp⟩ := nodeAt_ex hc
        have hn := (List.getElem?_eq_some_iff.mp ht).1
        have T := R.tree n _ ht
        obtain ⟨vs, h1, h2, h3⟩ := node_is R hc
        have rv : v = .ref b' := r
        subst rv
        have ow : ∀ a ∈ addrs (.nod k b' ts), s'.O n a := fun a ha => T.own a (addrs_get hp a ha)
        refine l _ _ _ s' hq xt Rt ⟨⟨b', rfl, by rw [addrs_nod]; exact List.mem_cons_self⟩, .nod h1 h2 h3, nodup_get T.nd hp, fun a ha m hm e => ?_⟩ (fun a ha => ?_)
        · rw [e1] at hm
          have := R.dis m n a (by have := x.le; omega) hn e (ow a ha)
          omega
        · rcases x.onew n a hn (ow a ha) with h | ⟨h, _⟩
          · exact h
          · exact absurd h hlt
      · exact hq.elim
theorem exit_ok {K : PySem.W.Frag} {s : Wd} {N : Nat} {q : PQ} {Q : VK} (l : LE K s N q Q) (hN : ∀ n, n < N → s.H (s.L n) ≠ none) : LE K s N (exitQ N q) Q := exit_gen l hN
def startD (N : List Str) (es : List EV) : DEnv := es.map some ++ List.replicate (N.length - es.length) none
theorem er_start {K : PySem.W.Frag} {s : Wd} {M : Nat} {N : List Str} {vs : List V} {es : List EV} (h : VL K s M vs es) : ER K s M (L2.start N vs) (startD N es) := by
  have hl := h.len
  refine ⟨by simp [L2.start, startD, hl], fun i e q => ?_⟩
  unfold startD at q
  by_cases hi : i < es.length
  · rw [List.getElem?_append_left (by simpa using hi), List.getElem?_map] at q
    cases hg : es[i]? with
    | none => rw [hg] at q; cases q
    | some e0 =>
      rw [hg] at q
      cases q
      obtain ⟨v, h1, h2⟩ := h.get hg
      refine ⟨v, ?_, h2⟩
      unfold L2.start
      rw [List.getElem?_append_left (by simp [hl]; exact hi), List.getElem?_map, h1]
      rfl
  · rw [List.getElem?_append_right (by simpa using Nat.le_of_not_lt hi)] at q
    rw [List.getElem?_replicate] at q
    split at q <;> cases q
section
variable {P : Program} {w : World} {K : PySem.W.Frag} {mg : Str → Option Value} {base : Heap}
/-- THE RULE for a def: its body's data reading, and that the contract gives it -/
theorem fd_of {x qual : Str} {st : Stmt} {f : Addr} {fd : FuncData} {N ps : List Str} {k : Nat} {sp : SpD} {td : TDS} (F : Fun K x qual st f fd) (S : FnScope N ps (defScope st))
    (body : ∀ (cdv : Value) (A : Around) (outer : List Env) (s : Shared) (H : Hp) (E : XK), Room k (A.deeper (envOfC qual (defScope st) s.heap.objs.size f cdv)) →
      DSs (cxOf (L2.CX P w) P w K mg base N qual (defScope st) f cdv A outer s H E) (fun cls d _ H => E cls d H) (defBody st) td)
    (h : ∀ (es : List EV) (μ : Mu) (q : PQ) (x : XQ), es.length = ps.length → sp es μ q x → td { nx := fun _ μ' => exitQ μ.length q (.dat .none) μ', rt := exitQ μ.length q } (fun y μ' => x y (μ'.take μ.length)) (startD N es) μ) :
    FnOk P w K mg base (L2.CX P w) (k + 1) f fd ps (spOf K ps.length sp) := by
  refine F.okX S (fun vs H Q E hs => hs.1) fun cdv A outer sh H vs Q E hr hs => ?_
  obtain ⟨hl, s, μ, es, q, x, rfl, R, hv, hsp, l, lx⟩ := hs
  obtain ⟨t, p, g⟩ := (body cdv A outer sh s.H E hr).ex
  have l' := exit_ok l fun n hn => R.here hn
  refine ⟨t, p, g s _ (startD N es) μ _ _ _ ⟨R, er_start hv⟩ (h es μ q x (by rw [← hv.len]; exact hl) hsp) ⟨fun η' μ' σ' s' hq x' S' => ?_, l', fun _ _ _ _ z => z.elim, fun _ _ _ _ z => z.elim, fun y μ' cls dd σ' s' hq x' R' r => ?_⟩⟩
  · exact l' (.dat .none) μ' .non s' hq x' S'.rep .non trivial
  · have e1 : (μ'.take μ.length).length = μ.length := by rw [List.length_take]; have := x'.le; omega
    exact lx y _ cls dd s' hq (by rw [e1]; exact x'.take (Nat.le_refl _) x'.le) (R'.take _) r
end
/-- what stands at a def's name -/
structure DefAt (P : Program) (w : World) (K : PySem.W.Frag) (mg : Str → Option Value) (base : Heap) (x : Str) (k : Nat) (ps : List Str) (dvs : List V) (ds : List Value) (sp : SpD) : Prop where
  ex : ∃ (f : Addr) (fd : FuncData), FnOk P w K mg base (L2.CX P w) k f fd ps (spOf K ps.length sp) ∧ mg x = some (.ref f) ∧ PySem.W.keepIn K (.ref f) = true ∧ Binds K fd ps ds
  dv : Vals dvs ds
section
variable {X : Cx} {W : WX} {x : Str} {p pos : Pos} {k j : Nat} {ps : List Str} {dvs : List V} {ds : List Value} {sp : SpD} {e : Expr} {es : List Expr} {t : TDA}
def allOld : List EV → Bool
  | [] => true
  | e :: es => noNew e && allOld es
/-- f(e, ..), an own def; the defaults des fill up -/
def dCall (n : Nat) (sp : SpD) (des : List EV) (t : TDA) : TDE := fun η μ q E => t η μ (fun es μ1 => allOld es = true ∧ (es ++ des).length = n ∧ sp (es ++ des) μ1 q E) E
theorem de_call {des : List EV} (F : DefAt X.prog X.w X.K X.mg X.base x k ps dvs ds sp) (hr : Room j X.A) (hj : k ≤ j) (hg : Gl X x) (tk : Takes X W) (hn : ∀ (s : Wd) (N : Nat), VL X.K s N dvs des) (ha : DA X W (e :: es) t)
    (hdb : (x == ("__debug__" : Str)) = false := by decide) (he : starEach (e :: es) X.env = (false, eval e X.env) :: starEach es X.env := by rfl) (hpl : (backTo pos (starEach es X.env)).any (·.1) = false := by rfl) :
    DE X W (.Call (.Name x p) (e :: es) [] pos) (dCall ps.length sp des t) := by
  obtain ⟨f, fd, G, hm, hk, hb⟩ := F.ex
  obtain ⟨t1, p1, g1⟩ := ha.ex
  refine de_pe (pe_callSD (E := WE W) G (hr.mono hj) hg hm hk hb F.dv (fun σ => passAt tk σ) p1 hdb he hpl) fun s σ η μ Q q E S hq l lx => g1 s σ η μ _ _ E S hq (fun es' μ1 vs s1 hk1 x1 R1 r1 => ?_) lx
  obtain ⟨ho, hl, hk1⟩ := hk1
  have hv := r1.vl.append (hn s1 μ1.length)
  exact ⟨hv.len.trans hl, s1, μ1, es' ++ des, q, E, rfl, R1, hv, hk1, l.go x1 R1, lx.go x1 R1⟩
end
end DL
set_option Elab.async false
set_option linter.all false
set_option maxRecDepth 100000
set_option maxHeartbeats 4000000
namespace DL
open PySem L2 PyProof.Rows
/-! ### what is read of a value -/
def lstOf (μ : Mu) : EV → Option (List PyData)
  | .dat (.list xs) => some xs
  | .new xs => some xs
  | .loc n => match μ[n]? with
    | some (.lst xs) => some xs
    | some (.frz xs) => some xs
    | _ => none
  | .at n p b => match nodeAt μ n p with
    | some (.nod .lst b' ts) => if b' = b then flatT ts else none
    | _ => none
  | _ => none
def tupOf : EV → Option (List PyData)
  | .dat (.tuple xs) => some xs
  | _ => none
def roOf : EV → Option (List PyData)
  | .ro xs => some xs
  | _ => none
def seqOf (μ : Mu) (e : EV) : Option (List PyData) := match tupOf e with
  | some xs => some xs
  | none => match roOf e with
    | some xs => some xs
    | none => lstOf μ e
def datOf (μ : Mu) : EV → Option PyData
  | .dat d => some d
  | .at n p b => match nodeAt μ n p with
    | some (.nod k b' ts) => if b' = b then datT (.nod k b' ts) else none
    | _ => none
  | e => (lstOf μ e).map .list
section
variable {K : PySem.W.Frag} {s s0 : Wd} {N0 : Nat} {μ : Mu} {v : V} {e : EV}
theorem lst_ok {xs : List PyData} (R : Rep K s μ) (r : VR K s μ.length v e) (h : lstOf μ e = some xs) : ∃ a vs, v = .ref a ∧ s.H a = some (.lst vs) ∧ DRs K s.F vs xs := by
  unfold lstOf at h
  split at h
  · cases h
    have r' : DR K s.F v (.list xs) := r
    cases r' with
    | lst h hs => exact ⟨_, _, rfl, R.sub _ _ h, hs⟩
  · cases h
    obtain ⟨p, vs, a1, a2, a3, a4, a5⟩ := r
    exact ⟨p, vs, a1, a2, a5⟩
  · rename_i n
    obtain ⟨hn, rfl⟩ := r
    cases hc : μ[n]? with
    | none => rw [hc] at h; cases h
    | some c =>
      rw [hc] at h
      have C := R.cell n c hc
      cases c with
      | lst ys => cases h; obtain ⟨_, vs, a1, a2⟩ := C; exact ⟨_, vs, rfl, a1, a2⟩
      | frz ys => cases h; obtain ⟨vs, a1, a2⟩ := C; exact ⟨_, vs, rfl, R.sub _ _ a1, a2⟩
      | dct _ => cases h
      | dck _ => cases h
      | abs _ => cases h
      | tab _ _ => cases h
      | own _ => cases h
      | dead => cases h
  · split at h
    · rename_i hn
      split at h
      · rename_i e1
        subst e1
        obtain ⟨vs, h1, _, h3⟩ := node_is R hn
        exact ⟨_, vs, r, h1, flatT_ok h3 h⟩
      · cases h
    · cases h
  · cases h
theorem tup_ok {xs : List PyData} (R : Rep K s μ) (r : VR K s μ.length v e) (h : tupOf e = some xs) : ∃ a vs, v = .ref a ∧ SqT K s.H a vs ∧ DRs K s.F vs xs := by
  unfold tupOf at h
  split at h
  · cases h
    have r' : DR K s.F v (.tuple xs) := r
    cases r' with
    | tup h hs => exact ⟨_, _, rfl, SqT.of (R.sub _ _ h), hs⟩
  · cases h
theorem seq_ok {xs : List PyData} (R : Rep K s μ) (r : VR K s μ.length v e) (h : seqOf μ e = some xs) : ∃ a vs, v = .ref a ∧ (SqL K s.H a vs ∨ SqT K s.H a vs) ∧ DRs K s.F vs xs := by
  unfold seqOf at h
  split at h
  · rename_i ys hy
    cases h
    obtain ⟨a, vs, h1, h2, h3⟩ := tup_ok R r hy
    exact ⟨a, vs, h1, .inr h2, h3⟩
  · split at h
    · rename_i ys hy
      cases h
      unfold roOf at hy
      split at hy
      · cases hy
        obtain ⟨a, vs, h1, h2, h3⟩ := r
        exact ⟨a, vs, h1, .inl (R.sub.seq h2), h3⟩
      · cases hy
    · obtain ⟨a, vs, h1, h2, h3⟩ := lst_ok R r h
      exact ⟨a, vs, h1, .inl (SqL.of h2), h3⟩
theorem dat_ok {d : PyData} (R : Rep K s μ) (r : VR K s μ.length v e) (h : datOf μ e = some d) (hn : noD d = true) : Dp K s.H v d ∧ d.canLay0 = true := by
  have key : ∀ xs, lstOf μ e = some xs → noDs xs = true → Dp K s.H v (.list xs) ∧ (PyData.list xs).canLay0 = true := fun xs hx hn => by
    obtain ⟨a, vs, rfl, h2, h3⟩ := lst_ok R r hx
    exact ⟨.lst (SqL.of h2) ((h3.mono R.sub).dp hn), by simp [PyData.canLay0, h3.lay hn]⟩
  cases e with
  | dat d' =>
    cases h
    have r' : DR K s.F v d := r
    exact ⟨(r'.mono R.sub).dp hn, r'.lay hn⟩
  | new xs =>
    cases h
    exact key _ rfl (by simpa [noD] using hn)
  | loc n =>
    have h' : (lstOf μ (.loc n)).map PyData.list = some d := h
    cases q : lstOf μ (.loc n) with
    | none => rw [q] at h'; cases h'
    | some xs =>
      rw [q] at h'
      cases h'
      exact key _ q (by simpa [noD] using hn)
  | raw u => cases h
  | exc x => cases h
  | ro x => cases h
  | newd x => cases h
  | newk x => cases h
  | «at» n p b =>
    unfold datOf at h
    simp only at h
    split at h
    · rename_i k b' ts hn'
      split at h
      · rename_i e1
        subst e1
        obtain ⟨t, h1, h2⟩ := nodeAt_ex hn'
        obtain ⟨w, r'⟩ := (R.tree n t h1).is.get h2
        have e2 := r'.node.1
        subst e2
        have er : v = .ref b' := r
        subst er
        exact datT_dp R.sub r' h hn
      · cases h
    · cases h
  | newo _ => cases h
  | per _ => cases h
/-- a new list is answered -/
theorem ans_new {vs : List V} {ds : List PyData} {q : PQ} {Q : VK} {p : Addr} (R : Rep K s μ) (x : Ext s0 N0 s μ.length) (l : LE K s0 N0 q Q) (hq : q (.new ds) μ) (hd : DRs K s.F vs ds) (hp : s.H p = none) : Q (.ref p) (upd s.H p (.lst vs)) :=
  l (.new ds) μ (.ref p) { s with H := upd s.H p (.lst vs) } hq (x.put R hp) (R.put hp) ⟨p, vs, rfl, upd_same, R.notF hp, R.notL hp, hd⟩ (fun y hy => by cases hy; exact x.fresh R hp)
theorem ans_tup {vs : List V} {ds : List PyData} {q : PQ} {Q : VK} {p : Addr} (R : Rep K s μ) (x : Ext s0 N0 s μ.length) (l : LE K s0 N0 q Q) (hq : q (.dat (.tuple ds)) μ) (hd : DRs K s.F vs ds) (hp : s.H p = none) : Q (.ref p) (upd s.H p (.tup vs)) := by
  have kF : Same s.F (upd s.F p (.tup vs)) := fun a u q => by rw [upd_ne (ne_of_none q (R.notF hp))]; exact q
  exact l (.dat (.tuple ds)) μ (.ref p) { s with H := upd s.H p (.tup vs), F := upd s.F p (.tup vs) } hq (x.putF R hp) (R.putF hp) (.tup upd_same (hd.mono kF)) trivial
theorem ans {d : PyData} {q : PQ} {Q : VK} (R : Rep K s μ) (x : Ext s0 N0 s μ.length) (l : LE K s0 N0 q Q) (hq : q (.dat d) μ) (hd : DR K s.F v d) : Q v s.H := l (.dat d) μ v s hq x R hd trivial
end
section
variable {X : Cx}
/-! ### + -/
def oAdd : OD := fun x y μ q => match x, y with
  | .dat (.int i), .dat (.int j) => q (.dat (.int (i + j))) μ
  | .dat (.str a), .dat (.str b) => a.length + b.length ≤ 100000 ∧ q (.dat (.str (a ++ b))) μ
  | .dat (.tuple a), .dat (.tuple b) => a.length + b.length ≤ 100000 ∧ q (.dat (.tuple (a ++ b))) μ
  | x, y => match lstOf μ x, lstOf μ y with
    | some a, some b => a.length + b.length ≤ 100000 ∧ q (.new (a ++ b)) μ
    | _, _ => False
abbrev rAddA (K : PySem.W.Frag) : R2 := fun x y H Q => rI0 (fun i j => V.int (i + j)) x y H Q ∨ ((∃ i j, x = .str i ∧ y = .str j ∧ i.length + j.length ≤ sizeLine ∧ Q (.str (i ++ j)) H) ∨ (rCatA K x y H Q ∨ rCat x y H Q))
theorem opA_add : OpR X (binaryOp .Add) (rAddA X.K) := op_add.or (op_add_str.or (op_catA.or op_cat))
theorem strOk_app {a b : Str} (h1 : PyData.strOk a = true) (h2 : PyData.strOk b = true) : PyData.strOk (a ++ b) = true := by
  unfold PyData.strOk at *
  show (a.cps ++ b.cps).all _ = true
  rw [Array.all_append, h1, h2]
  rfl
theorem os_add {K : PySem.W.Frag} : OpS K (rAddA K) oAdd := by
  intro s0 N0 s μ x y ex ey q Q R xt rx fx ry fy h l
  unfold oAdd at h
  split at h
  · exact .inl ⟨_, _, vr_i rx, vr_i ry, ans R xt l h (.int _)⟩
  · have r1 : DR K s.F x _ := rx
    have r2 : DR K s.F y _ := ry
    cases r1 with
    | str _ h1 =>
      cases r2 with
      | str _ h2 => exact .inr (.inl ⟨_, _, rfl, rfl, line_of h.1, ans R xt l h.2 (.str _ (strOk_app h1 h2))⟩)
  · rename_i a b
    obtain ⟨p, vs, rfl, hp, hv⟩ := tup_ok R rx (e := .dat (.tuple a)) rfl
    obtain ⟨p2, ws, rfl, hp2, hw⟩ := tup_ok R ry (e := .dat (.tuple b)) rfl
    refine .inr (.inr (.inl ⟨_, _, vs, ws, rfl, rfl, hp, hp2, line_of (by rw [hv.length, hw.length]; exact h.1), fun e => ?_, fun _ e => ?_, fun _ _ p3 hp3 => ?_⟩))
    · subst e
      cases hv
      exact ans R xt l h.2 ry
    · subst e
      cases hw
      rw [List.append_nil] at h
      exact ans R xt l h.2 rx
    · exact ans_tup R xt l h.2 (hv.append hw) hp3
  · split at h
    · rename_i a b ha hb
      obtain ⟨p, vs, rfl, hp, hv⟩ := lst_ok R rx ha
      obtain ⟨p2, ws, rfl, hp2, hw⟩ := lst_ok R ry hb
      exact .inr (.inr (.inr ⟨_, _, vs, ws, rfl, rfl, hp, hp2, line_of (by rw [hv.length, hw.length]; exact h.1), fun p3 hp3 => ans_new R xt l h.2 (hv.append hw) hp3⟩))
    · exact h.elim
/-! ### operators of ints -/
def oI (C : Int → Int → Prop) (g : Int → Int → PyData) : OD := fun x y μ q => match x, y with
  | .dat (.int i), .dat (.int j) => C i j ∧ q (.dat (g i j)) μ
  | _, _ => False
theorem os_I {K : PySem.W.Frag} {C : Int → Int → Prop} {g : Int → Int → V} {g' : Int → Int → PyData} (hg : ∀ F i j, DR K F (g i j) (g' i j)) : OpS K (rI C g) (oI C g') := by
  intro s0 N0 s μ x y ex ey q Q R xt rx fx ry fy h l
  unfold oI at h
  split at h
  · exact ⟨_, _, vr_i rx, vr_i ry, h.1, ans R xt l h.2 (hg _ _ _)⟩
  · exact h.elim
def oI0 (g : Int → Int → PyData) : OD := fun x y μ q => match x, y with
  | .dat (.int i), .dat (.int j) => q (.dat (g i j)) μ
  | _, _ => False
theorem os_I0 {K : PySem.W.Frag} {g : Int → Int → V} {g' : Int → Int → PyData} (hg : ∀ F i j, DR K F (g i j) (g' i j)) : OpS K (rI0 g) (oI0 g') := by
  intro s0 N0 s μ x y ex ey q Q R xt rx fx ry fy h l
  unfold oI0 at h
  split at h
  · exact ⟨_, _, vr_i rx, vr_i ry, ans R xt l h (hg _ _ _)⟩
  · exact h.elim
abbrev oSub : OD := oI0 fun i j => .int (i - j)
theorem os_sub {K : PySem.W.Frag} : OpS K (rI0 fun i j => V.int (i - j)) oSub := os_I0 fun _ _ _ => .int _
abbrev oMod : OD := oI (fun _ j => 0 < j) fun i j => .int (i % j)
theorem os_mod {K : PySem.W.Frag} : OpS K (rI (fun _ j => 0 < j) fun i j => V.int (i % j)) oMod := os_I fun _ _ _ => .int _
abbrev oDiv : OD := oI CDiv fun i j => .int (i / j)
theorem os_div {K : PySem.W.Frag} : OpS K (rI CDiv fun i j => V.int (i / j)) oDiv := os_I fun _ _ _ => .int _
abbrev oPow : OD := oI CPow fun i j => .int (i ^ j.toNat)
theorem os_pow {K : PySem.W.Frag} : OpS K (rI CPow fun i j => V.int (i ^ j.toNat)) oPow := os_I fun _ _ _ => .int _
abbrev oShr : OD := oI (fun _ j => 0 ≤ j) fun i j => .int (i / 2 ^ j.toNat)
theorem os_shr {K : PySem.W.Frag} : OpS K (rI (fun _ j => 0 ≤ j) fun i j => V.int (i / 2 ^ j.toNat)) oShr := os_I fun _ _ _ => .int _
abbrev oAnd : OD := oI0 fun i j => .int (Builtin.bitAnd i j)
theorem os_and {K : PySem.W.Frag} : OpS K (rI0 fun i j => V.int (Builtin.bitAnd i j)) oAnd := os_I0 fun _ _ _ => .int _
abbrev oOr : OD := oI0 fun i j => .int (Builtin.bitOr i j)
theorem os_or {K : PySem.W.Frag} : OpS K (rI0 fun i j => V.int (Builtin.bitOr i j)) oOr := os_I0 fun _ _ _ => .int _
abbrev oXor : OD := oI0 fun i j => .int (Builtin.bitXor i j)
theorem os_xor {K : PySem.W.Frag} : OpS K (rI0 fun i j => V.int (Builtin.bitXor i j)) oXor := os_I0 fun _ _ _ => .int _
def oNeg : UD := fun x μ q => match x with
  | .dat (.int i) => q (.dat (.int (-i))) μ
  | _ => False
theorem us_neg {K : PySem.W.Frag} : UnS K (rU fun i => V.int (-i)) oNeg := by
  intro s0 N0 s μ x ex q Q R xt rx fx h l
  unfold oNeg at h
  split at h
  · exact ⟨_, vr_i rx, ans R xt l h (.int _)⟩
  · exact h.elim
def oInv : UD := fun x μ q => match x with
  | .dat (.int i) => q (.dat (.int (Builtin.bitNot i))) μ
  | _ => False
theorem us_inv {K : PySem.W.Frag} : UnS K (rU fun i => V.int (Builtin.bitNot i)) oInv := by
  intro s0 N0 s μ x ex q Q R xt rx fx h l
  unfold oInv at h
  split at h
  · exact ⟨_, vr_i rx, ans R xt l h (.int _)⟩
  · exact h.elim
/-! ### * -/
def oMul : OD := fun x y μ q => match x, y with
  | .dat (.int i), .dat (.int j) => CMul i j ∧ q (.dat (.int (i * j))) μ
  | .dat (.tuple a), .dat (.int k) => (a ≠ [] ∧ 2 ≤ k ∧ k ≤ 1000 ∧ a.length ≤ 1000) ∧ q (.dat (.tuple (List.replicate k.toNat a).flatten)) μ
  | x, .dat (.int k) => match lstOf μ x with
    | some a => (-1000 ≤ k ∧ k ≤ 1000 ∧ a.length ≤ 1000) ∧ q (.new (List.replicate k.toNat a).flatten) μ
    | none => False
  | _, _ => False
abbrev rMulA (K : PySem.W.Frag) : R2 := fun x y H Q => rI CMul (fun i j => V.int (i * j)) x y H Q ∨ (rRepT K x y H Q ∨ rRep x y H Q)
theorem opA_mul : OpR X (binaryOp .Mult) (rMulA X.K) := op_mul.or (op_repT.or op_rep)
theorem DRs.rep {K : PySem.W.Frag} {F : Hp} {vs : List V} {ds : List PyData} (h : DRs K F vs ds) : ∀ k : Nat, DRs K F (List.replicate k vs).flatten (List.replicate k ds).flatten
  | 0 => .nil
  | k + 1 => by
    rw [List.replicate_succ, List.replicate_succ, List.flatten_cons, List.flatten_cons]
    exact h.append (h.rep k)
theorem os_mul {K : PySem.W.Frag} : OpS K (rMulA K) oMul := by
  intro s0 N0 s μ x y ex ey q Q R xt rx fx ry fy h l
  unfold oMul at h
  split at h
  · exact .inl ⟨_, _, vr_i rx, vr_i ry, h.1, ans R xt l h.2 (.int _)⟩
  · rename_i a k
    obtain ⟨p, vs, rfl, hp, hv⟩ := tup_ok R rx (e := .dat (.tuple a)) rfl
    obtain ⟨⟨h1, h2, h3, h4⟩, h⟩ := h
    exact .inr (.inl ⟨_, _, vs, rfl, vr_i ry, hp, fun e => h1 (by subst e; cases hv; rfl), h2, h3, by rw [hv.length]; exact h4, fun p3 hp3 => ans_tup R xt l h (hv.rep _) hp3⟩)
  · rename_i k _ _
    split at h
    · rename_i a ha
      obtain ⟨p, vs, rfl, hp, hv⟩ := lst_ok R rx ha
      obtain ⟨⟨h1, h2, h4⟩, h⟩ := h
      refine .inr (.inr ⟨_, _, vs, rfl, vr_i ry, hp, by omega, by omega, Nat.le_trans ?_ (show 1000 * 1000 ≤ sizeLine by decide), fun p3 hp3 => ans_new R xt l h (hv.rep _) hp3⟩)
      rw [hv.length]
      have : k.toNat ≤ 1000 := by omega
      exact Nat.mul_le_mul h4 this
    · exact h.elim
  · exact h.elim
/-! ### comparisons -/
def oEq : OD := fun x y μ q => match datOf μ x, datOf μ y with
  | some d, some e => (noD d = true ∧ noD e = true) ∧ min d.depth e.depth ≤ 64 ∧ q (.dat (.bool (PyData.eqv d e))) μ
  | _, _ => False
def oNe : OD := fun x y μ q => match datOf μ x, datOf μ y with
  | some d, some e => (noD d = true ∧ noD e = true) ∧ min d.depth e.depth ≤ 64 ∧ q (.dat (.bool (!PyData.eqv d e))) μ
  | _, _ => False
abbrev rEqR (K : PySem.W.Frag) : R2 := fun x y H Q => ∃ d e, Dp K H x d ∧ Dp K H y e ∧ d.canLay0 = true ∧ e.canLay0 = true ∧ min d.depth e.depth ≤ 64 ∧ Q (.bl (PyData.eqv d e)) H
abbrev rNeR (K : PySem.W.Frag) : R2 := fun x y H Q => ∃ d e, Dp K H x d ∧ Dp K H y e ∧ d.canLay0 = true ∧ e.canLay0 = true ∧ min d.depth e.depth ≤ 64 ∧ Q (.bl (!PyData.eqv d e)) H
theorem opA_eq (hu : X.A.units + 64 < cLine) : OpR X (compareOp .Eq) (rEqR X.K) := by
  intro pins s σ H x y v u Q I rx ry h
  obtain ⟨d, e, hd, he, sd, se, hm, q⟩ := h
  obtain ⟨as, r1⟩ := Dp.reads I d x v hd rx
  obtain ⟨bs, r2⟩ := Dp.reads I e y u he ry
  exact SeqAt.compareEq_reads r1 r2 sd se (by omega) ⟨.bl _, H, I, rfl, q⟩
theorem opA_ne (hu : X.A.units + 64 < cLine) : OpR X (compareOp .NotEq) (rNeR X.K) := by
  intro pins s σ H x y v u Q I rx ry h
  obtain ⟨d, e, hd, he, sd, se, hm, q⟩ := h
  obtain ⟨as, r1⟩ := Dp.reads I d x v hd rx
  obtain ⟨bs, r2⟩ := Dp.reads I e y u he ry
  exact SeqAt.compareNe_reads r1 r2 sd se (by omega) ⟨.bl _, H, I, rfl, q⟩
theorem os_eq {K : PySem.W.Frag} : OpS K (rEqR K) oEq := by
  intro s0 N0 s μ x y ex ey q Q R xt rx fx ry fy h l
  unfold oEq at h
  split at h
  · rename_i d e hd he
    obtain ⟨⟨n1, n2⟩, h⟩ := h
    obtain ⟨a1, a2⟩ := dat_ok R rx hd n1
    obtain ⟨b1, b2⟩ := dat_ok R ry he n2
    exact ⟨d, e, a1, b1, a2, b2, h.1, ans R xt l h.2 (.bl _)⟩
  · exact h.elim
theorem os_ne {K : PySem.W.Frag} : OpS K (rNeR K) oNe := by
  intro s0 N0 s μ x y ex ey q Q R xt rx fx ry fy h l
  unfold oNe at h
  split at h
  · rename_i d e hd he
    obtain ⟨⟨n1, n2⟩, h⟩ := h
    obtain ⟨a1, a2⟩ := dat_ok R rx hd n1
    obtain ⟨b1, b2⟩ := dat_ok R ry he n2
    exact ⟨d, e, a1, b1, a2, b2, h.1, ans R xt l h.2 (.bl _)⟩
  · exact h.elim
abbrev oLt : OD := oI0 fun i j => .bool (decide (i < j))
theorem os_lt {K : PySem.W.Frag} : OpS K (rI0 fun i j => V.bl (decide (i < j))) oLt := os_I0 fun _ _ _ => .bl _
abbrev oLe : OD := oI0 fun i j => .bool (decide (i ≤ j))
theorem os_le {K : PySem.W.Frag} : OpS K (rI0 fun i j => V.bl (decide (i ≤ j))) oLe := os_I0 fun _ _ _ => .bl _
abbrev oGt : OD := oI0 fun i j => .bool (decide (j < i))
theorem os_gt {K : PySem.W.Frag} : OpS K (rI0 fun i j => V.bl (decide (j < i))) oGt := os_I0 fun _ _ _ => .bl _
abbrev oGe : OD := oI0 fun i j => .bool (decide (j ≤ i))
theorem os_ge {K : PySem.W.Frag} : OpS K (rI0 fun i j => V.bl (decide (j ≤ i))) oGe := os_I0 fun _ _ _ => .bl _
/-- is None -/
def isNon : EV → Bool
  | .dat .none => true
  | _ => false
def isRaw : EV → Bool
  | .raw _ => true
  | .per _ => true
  | _ => false
def oIsN : OD := fun x y μ q => isRaw x = false ∧ isNon y = true ∧ q (.dat (.bool (isNon x))) μ
def oNotN : OD := fun x y μ q => isRaw x = false ∧ isNon y = true ∧ q (.dat (.bool (!isNon x))) μ
theorem non_iff {K : PySem.W.Frag} {s : Wd} {μ : Mu} {v : V} {e : EV} (r : VR K s μ.length v e) (h : isRaw e = false) : decide (v = .non) = isNon e := by
  cases e with
  | dat d =>
    have r' : DR K s.F v d := r
    cases r' <;> rfl
  | loc n => obtain ⟨_, rfl⟩ := r; rfl
  | new xs => obtain ⟨p, vs, rfl, _⟩ := r; rfl
  | raw u => cases h
  | exc x => obtain ⟨a, _, rfl, _⟩ := r; rfl
  | ro x => obtain ⟨a, vs, rfl, _⟩ := r; rfl
  | newd x => obtain ⟨a, vs, rfl, _⟩ := r; rfl
  | newk x => obtain ⟨a, vs, rfl, _⟩ := r; rfl
  | «at» _ _ _ => cases r; rfl
  | newo _ => obtain ⟨⟨p, rfl, _⟩, _⟩ := r; rfl
  | per _ => cases h
theorem isNon_ok {K : PySem.W.Frag} {s : Wd} {μ : Mu} {v : V} {e : EV} (r : VR K s μ.length v e) (h : isNon e = true) : v = .non := by
  unfold isNon at h
  split at h
  · exact vr_n r
  · cases h
theorem os_isN {K : PySem.W.Frag} : OpS K (fun x y H Q => y = .non ∧ Q (.bl (decide (x = .non))) H) oIsN := by
  intro s0 N0 s μ x y ex ey q Q R xt rx fx ry fy h l
  obtain ⟨h1, h2, h3⟩ := h
  refine ⟨isNon_ok ry h2, ?_⟩
  rw [non_iff rx h1]
  exact ans R xt l h3 (.bl _)
theorem os_notN {K : PySem.W.Frag} : OpS K (fun x y H Q => y = .non ∧ Q (.bl (!decide (x = .non))) H) oNotN := by
  intro s0 N0 s μ x y ex ey q Q R xt rx fx ry fy h l
  obtain ⟨h1, h2, h3⟩ := h
  refine ⟨isNon_ok ry h2, ?_⟩
  rw [non_iff rx h1]
  exact ans R xt l h3 (.bl _)
/-! ### subscripts, slices -/
def oIx : OD := fun x y μ q => match y with
  | .dat (.int i) => match x with
    | .dat (.str z) => z.length ≤ 100000 ∧ ∃ c, atI z.cps.toList i = some c ∧ q (.dat (.str ⟨#[c]⟩)) μ
    | x => match seqOf μ x with
      | some ds => ∃ d, atI ds i = some d ∧ q (.dat d) μ
      | none => False
  | _ => False
theorem atI_len {α β : Type} {xs : List α} {ys : List β} (h : xs.length = ys.length) {i : Int} {y : β} (e : atI ys i = some y) : ∃ j, ixN xs.length i = some j ∧ ys[j]? = some y := by
  unfold atI at e
  rw [h]
  cases q : ixN ys.length i with
  | none => rw [q] at e; cases e
  | some j => rw [q] at e; exact ⟨j, rfl, e⟩
theorem DRs.atI {K : PySem.W.Frag} {F : Hp} {vs : List V} {ds : List PyData} {i : Int} {d : PyData} (h : DRs K F vs ds) (e : L2.atI ds i = some d) : ∃ v, L2.atI vs i = some v ∧ DR K F v d := by
  obtain ⟨j, h1, h2⟩ := atI_len h.length e
  obtain ⟨v, h3, h4⟩ := h.get h2
  refine ⟨v, ?_, h4⟩
  unfold L2.atI
  rw [h1]
  exact h3
theorem strOk_at {z : Str} {c : Nat} (h : PyData.strOk z = true) (hc : c ∈ z.cps.toList) : PyData.strOk ⟨#[c]⟩ = true := by
  unfold PyData.strOk at *
  rw [Array.all_eq_true_iff_forall_mem] at h
  have := h c (by simpa using hc)
  simpa using this
theorem atI_mem {α : Type} {xs : List α} {i : Int} {c : α} (h : L2.atI xs i = some c) : c ∈ xs := by
  unfold L2.atI at h
  cases q : ixN xs.length i with
  | none => rw [q] at h; cases h
  | some j => rw [q] at h; exact List.mem_of_getElem? h
theorem os_ix {K : PySem.W.Frag} : OpS K (rIx K) oIx := by
  intro s0 N0 s μ x y ex ey q Q R xt rx fx ry fy h l
  unfold oIx at h
  split at h
  · split at h
    · obtain ⟨hz, c, hc, h⟩ := h
      have r1 : DR K s.F x _ := rx
      cases r1 with
      | str _ h1 => exact .inr (.inr ⟨_, _, c, rfl, vr_i ry, line_of hz, hc, ans R xt l h (.str _ (strOk_at h1 (atI_mem hc)))⟩)
    · split at h
      · rename_i ds hds
        obtain ⟨d, hd, h⟩ := h
        obtain ⟨a, vs, rfl, hs, hv⟩ := seq_ok R rx hds
        obtain ⟨v, h1, h2⟩ := hv.atI hd
        rcases hs with hs | hs
        · exact .inl ⟨_, vs, _, v, rfl, vr_i ry, hs, h1, ans R xt l h h2⟩
        · exact .inr (.inl ⟨_, vs, _, v, rfl, vr_i ry, hs, h1, ans R xt l h h2⟩)
      · exact h.elim
  · exact h.elim
def cutD (ds : List PyData) (lo hi : Option Int) : List PyData := (ds.drop (HT.sIx ds.length 0 lo)).take (HT.sIx ds.length ds.length hi - HT.sIx ds.length 0 lo)
theorem DRs.cut {K : PySem.W.Frag} {F : Hp} {vs : List V} {ds : List PyData} (h : DRs K F vs ds) (lo hi : Option Int) : DRs K F (cutV vs lo hi) (cutD ds lo hi) := by
  unfold cutV cutD
  rw [h.length]
  exact (h.drop _).take _
abbrev rSlAny (K : PySem.W.Frag) : V → Option Int → Option Int → Hp → VK → Prop := fun x lo hi H Q => rSlL K x lo hi H Q ∨ (rSlA K x lo hi H Q ∨ rSlS x lo hi H Q)
theorem slA : SlR X (rSlAny X.K) := sl_list.or (sl_tupA.or sl_str)
def oSl : SD := fun x lo hi μ q => match x with
  | .dat (.str z) => z.length ≤ 100000 ∧ q (.dat (.str (cutS z lo hi))) μ
  | .dat (.tuple ds) => q (.dat (.tuple (cutD ds lo hi))) μ
  | .ro ds => q (.new (cutD ds lo hi)) μ
  | x => match lstOf μ x with
    | some ds => q (.new (cutD ds lo hi)) μ
    | none => False
theorem cutD_whole {ds : List PyData} {lo hi : Option Int} (h1 : HT.sIx ds.length 0 lo = 0) (h2 : HT.sIx ds.length ds.length hi = ds.length) : cutD ds lo hi = ds := by
  unfold cutD
  rw [h1, h2]
  simp
theorem strOk_cut {z : Str} {lo hi : Option Int} (h : PyData.strOk z = true) : PyData.strOk (cutS z lo hi) = true := by
  unfold PyData.strOk cutS at *
  rw [Array.all_eq_true_iff_forall_mem] at *
  intro c hc
  refine h c ?_
  have h1 : c ∈ (z.cps.toList.drop (HT.sIx z.length 0 lo)).take (HT.sIx z.length z.length hi - HT.sIx z.length 0 lo) := by simpa using hc
  exact Array.mem_toList_iff.mp (List.mem_of_mem_drop (List.mem_of_mem_take h1))
theorem os_sl {K : PySem.W.Frag} : SlS K (rSlAny K) oSl := by
  intro s0 N0 s μ x ex lo hi q Q R xt rx fx h l
  unfold oSl at h
  split at h
  · have r1 : DR K s.F x _ := rx
    cases r1 with
    | str _ h1 => exact .inr (.inr ⟨_, rfl, line_of h.1, ans R xt l h.2 (.str _ (strOk_cut h1))⟩)
  · rename_i ds
    obtain ⟨p, vs, rfl, hp, hv⟩ := tup_ok R rx (e := .dat (.tuple ds)) rfl
    refine .inr (.inl ⟨p, vs, rfl, hp, fun e => ?_, fun _ p3 hp3 => ans_tup R xt l h (hv.cut lo hi) hp3⟩)
    rw [hv.length] at e
    rw [cutD_whole e.1 e.2] at h
    exact ans R xt l h rx
  · obtain ⟨p, vs, rfl, hp, hv⟩ := rx
    exact .inl ⟨p, vs, rfl, R.sub.seq hp, fun p3 hp3 => ans_new R xt l h (hv.cut lo hi) hp3⟩
  · split at h
    · rename_i ds hds
      obtain ⟨p, vs, rfl, hp, hv⟩ := lst_ok R rx hds
      exact .inl ⟨p, vs, rfl, SqL.of hp, fun p3 hp3 => ans_new R xt l h (hv.cut lo hi) hp3⟩
    · exact h.elim
/-! ### built-ins -/
/-- len -/
def oLen : CD := fun es μ q => match es with
  | [.dat (.str z)] => z.length ≤ 100000 ∧ q (.dat (.int z.length)) μ
  | [e] => match seqOf μ e with
    | some ds => q (.dat (.int ds.length)) μ
    | none => False
  | _ => False
theorem cs_len {K : PySem.W.Frag} : CallS K (fun xs H Q => ∃ x n, xs = [x] ∧ LenV K x H n ∧ Q (.int n) H) oLen := by
  intro s0 N0 s μ xs es q Q R xt r h l
  unfold oLen at h
  split at h
  · cases r with
    | cons rx fx rr =>
      cases rr
      exact ⟨_, _, rfl, by rw [vr_s rx]; exact ⟨line_of h.1, rfl⟩, ans R xt l h.2 (.int _)⟩
  · cases r with
    | cons rx fx rr =>
      cases rr
      split at h
      · rename_i ds hds
        obtain ⟨a, vs, rfl, hs, hv⟩ := seq_ok R rx hds
        refine ⟨_, ds.length, rfl, ?_, ans R xt l h (.int _)⟩
        rcases hs with hs | hs
        · exact .inl ⟨vs, hs, hv.length.symm⟩
        · exact .inr ⟨vs, hs, hv.length.symm⟩
      · exact h.elim
  · exact h.elim
/-- list(x), tuple(x) of a list or a tuple -/
def oList : CD := fun es μ q => match es with
  | [e] => match seqOf μ e with
    | some ds => q (.new ds) μ
    | none => False
  | _ => False
theorem cs_list {K : PySem.W.Frag} : CallS K (fun xs H Q => ∃ p ys, xs = [.ref p] ∧ (SqL K H p ys ∨ SqT K H p ys) ∧ ∀ l, H l = none → Q (.ref l) (upd H l (.lst ys))) oList := by
  intro s0 N0 s μ xs es q Q R xt r h l
  unfold oList at h
  split at h
  · cases r with
    | cons rx fx rr =>
      cases rr
      split at h
      · rename_i ds hds
        obtain ⟨a, vs, rfl, hs, hv⟩ := seq_ok R rx hds
        exact ⟨a, vs, rfl, hs, fun p hp => ans_new R xt l h hv hp⟩
      · exact h.elim
  · exact h.elim
def oTuple : CD := fun es μ q => match es with
  | [e] => match seqOf μ e with
    | some ds => q (.dat (.tuple ds)) μ
    | none => False
  | _ => False
theorem cs_tuple {K : PySem.W.Frag} : CallS K (fun xs H Q => ∃ p ys, xs = [.ref p] ∧ ((SqL K H p ys ∧ ∀ l, H l = none → Q (.ref l) (upd H l (.tup ys))) ∨ (SqT K H p ys ∧ Q (.ref p) H))) oTuple := by
  intro s0 N0 s μ xs es q Q R xt r h l
  unfold oTuple at h
  split at h
  · rename_i e
    cases r with
    | cons rx fx rr =>
      cases rr
      unfold seqOf at h
      cases ht : tupOf e with
      | some ds =>
        rw [ht] at h
        obtain ⟨a, vs, rfl, hs, hv⟩ := tup_ok R rx ht
        have : e = .dat (.tuple ds) := by
          unfold tupOf at ht
          split at ht
          · cases ht; rfl
          · cases ht
        subst this
        exact ⟨a, vs, rfl, .inr ⟨hs, ans R xt l h rx⟩⟩
      | none =>
        rw [ht] at h
        cases hr : roOf e with
        | some ds =>
          rw [hr] at h
          cases e with
          | ro ys =>
            cases hr
            obtain ⟨a, vs, rfl, hs, hv⟩ := rx
            exact ⟨a, vs, rfl, .inl ⟨R.sub.seq hs, fun p hp => ans_tup R xt l h hv hp⟩⟩
          | _ => cases hr
        | none =>
        rw [hr] at h
        cases hl : lstOf μ e with
        | none => rw [hl] at h; exact h.elim
        | some ds =>
          rw [hl] at h
          obtain ⟨a, vs, rfl, hs, hv⟩ := lst_ok R rx hl
          exact ⟨a, vs, rfl, .inl ⟨SqL.of hs, fun p hp => ans_tup R xt l h hv hp⟩⟩
  · exact h.elim
/-- max, min of two -/
def oMax2 : CD := fun es μ q => match es with
  | [.dat (.int i), .dat (.int j)] => q (.dat (.int (if j > i then j else i))) μ
  | _ => False
def oMin2 : CD := fun es μ q => match es with
  | [.dat (.int i), .dat (.int j)] => q (.dat (.int (if j < i then j else i))) μ
  | _ => False
theorem cs_max2 {K : PySem.W.Frag} : CallS K (fun xs H Q => ∃ i j, xs = [.int i, .int j] ∧ Q (.int (if j > i then j else i)) H) oMax2 := by
  intro s0 N0 s μ xs es q Q R xt r h l
  unfold oMax2 at h
  split at h
  · cases r with
    | cons rx fx rr =>
      cases rr with
      | cons ry fy rr =>
        cases rr
        exact ⟨_, _, by rw [vr_i rx, vr_i ry], ans R xt l h (.int _)⟩
  · exact h.elim
theorem cs_min2 {K : PySem.W.Frag} : CallS K (fun xs H Q => ∃ i j, xs = [.int i, .int j] ∧ Q (.int (if j < i then j else i)) H) oMin2 := by
  intro s0 N0 s μ xs es q Q R xt r h l
  unfold oMin2 at h
  split at h
  · cases r with
    | cons rx fx rr =>
      cases rr with
      | cons ry fy rr =>
        cases rr
        exact ⟨_, _, by rw [vr_i rx, vr_i ry], ans R xt l h (.int _)⟩
  · exact h.elim
/-- all, any of a list of truths -/
def boolsOf : List PyData → Option (List Bool)
  | [] => some []
  | .bool b :: r => (boolsOf r).map (b :: ·)
  | _ :: _ => none
theorem bools_map (bs : List Bool) : boolsOf (bs.map .bool) = some bs := by
  induction bs with
  | nil => rfl
  | cons b r ih => show (boolsOf (r.map .bool)).map _ = _; rw [ih]; rfl
theorem bools_ok {K : PySem.W.Frag} {F : Hp} : ∀ {vs : List V} {ds : List PyData} {bs : List Bool}, DRs K F vs ds → boolsOf ds = some bs → vs = bs.map V.bl
  | _, _, _, .nil, h => by cases h; rfl
  | _, _, _, .cons (ds := ds) r rs, h => by
    cases r with
    | bl b =>
      unfold boolsOf at h
      cases q : boolsOf ds with
      | none => rw [q] at h; cases h
      | some cs =>
        rw [q] at h
        cases h
        rw [bools_ok rs q]
        rfl
    | _ => cases h
def oAll (f : List Bool → Bool) : CD := fun es μ q => match es with
  | [e] => match lstOf μ e with
    | some ds => match boolsOf ds with
      | some bs => q (.dat (.bool (f bs))) μ
      | none => False
    | none => False
  | _ => False
theorem cs_all {K : PySem.W.Frag} : CallS K (rAll K) (oAll fun bs => bs.all id) := by
  intro s0 N0 s μ xs es q Q R xt r h l
  unfold oAll at h
  split at h
  · cases r with
    | cons rx fx rr =>
      cases rr
      split at h
      · rename_i ds hds
        split at h
        · rename_i bs hbs
          obtain ⟨a, vs, rfl, hs, hv⟩ := lst_ok R rx hds
          obtain rfl := bools_ok hv hbs
          exact ⟨a, bs, rfl, SqL.of hs, ans R xt l h (.bl _)⟩
        · exact h.elim
      · exact h.elim
  · exact h.elim
theorem cs_any {K : PySem.W.Frag} : CallS K (rAny K) (oAll fun bs => bs.any id) := by
  intro s0 N0 s μ xs es q Q R xt r h l
  unfold oAll at h
  split at h
  · cases r with
    | cons rx fx rr =>
      cases rr
      split at h
      · rename_i ds hds
        split at h
        · rename_i bs hbs
          obtain ⟨a, vs, rfl, hs, hv⟩ := lst_ok R rx hds
          obtain rfl := bools_ok hv hbs
          exact ⟨a, bs, rfl, SqL.of hs, ans R xt l h (.bl _)⟩
        · exact h.elim
      · exact h.elim
  · exact h.elim
/-- isinstance with a built-in class -/
def tyOf : PyData → String
  | .none => "NoneType"
  | .bool _ => "bool"
  | .int _ => "int"
  | .str _ => "str"
  | .list _ => "list"
  | .tuple _ => "tuple"
  | .dict _ => "dict"
def tyK : Knd → String
  | .lst => "list"
  | .tup => "tuple"
  | .dck _ => "dict"
  | .dct _ => "dict"
  | .ins _ _ => ""
  | .gho => ""
def tyE (μ : Mu) : EV → String
  | .dat d => tyOf d
  | .new _ => "list"
  | .newd _ => "dict"
  | .newk _ => "dict"
  | .loc n => match μ[n]? with
    | some (.lst _) => "list"
    | some (.frz _) => "list"
    | some (.dct _) => "dict"
    | some (.dck _) => "dict"
    | _ => ""
  | .at n p b => match nodeAt μ n p with
    | some (.nod k b' _) => if b' = b then tyK k else ""
    | _ => ""
  | _ => ""
def isT (a b : String) : Bool := a == b || (a == "bool" && b == "int")
def oIsi : CD := fun es μ q => match es with
  | [e, .raw (.ty b)] => (tyE μ e ∈ ["NoneType", "bool", "int", "str", "list", "tuple", "dict"] ∧ b ∈ ["bool", "int", "str", "list", "tuple", "dict"]) ∧ q (.dat (.bool (isT (tyE μ e) b))) μ
  | _ => False
/-- a value's class; a locked dict too -/
def TyY (K : PySem.W.Frag) (H : Hp) (x : V) (t : Value) : Prop := TyX K H x t ∨ ∃ (a : Addr) (o : Obj) (kvs : List (List Key × V)), x = .ref a ∧ H a = some (.frz o (.dT kvs)) ∧ t = .type "dict"
def rIsiY (K : PySem.W.Frag) : List V → Hp → VK → Prop := fun xs H Q => ∃ (x c : V) (t u : Value) (b : Bool), xs = [x, c] ∧ ClsV c u ∧ TyY K H x t ∧ PySem.W.kitOne K t u = some b ∧ Q (.bl b) H
theorem call_isiY {X : Cx} : CallR X (.builtin "isinstance") (rIsiY X.K) := by
  intro pins s σ H xs us Q I r h
  obtain ⟨x, c, t, u, b, rfl, k, ty, e, q⟩ := h
  rcases ty with ty | ⟨a, ob, kvs, rfl, ea, rfl⟩
  · exact call_isi pins s σ H _ us Q I r ⟨x, c, t, u, b, rfl, k, ty, e, q⟩
  · obtain ⟨u1, u2, rfl, r1, r2⟩ := vals2 r
    have e2 := k.eq r2
    subst e2
    cases (show u1 = Value.ref a from r1)
    obtain ⟨_, _, _, xs, _, o, es, ep, h1, h2, _⟩ := (show ObjOk X.prog X.w H s.heap a (.frz ob (.dT kvs)) from I.hok a _ ea)
    exact PySem.W.kia_one PySem.W.kitx_dict I.kIn (show ∃ o, _ from ⟨o, h1, h2.1⟩) e (fun z => nomatch z) fun tk => ⟨.bl b, H, I.tok tk, rfl, q⟩
theorem ty_ok {K : PySem.W.Frag} {s : Wd} {μ : Mu} {v : V} {e : EV} (R : Rep K s μ) (r : VR K s μ.length v e) (h : tyE μ e ∈ ["NoneType", "bool", "int", "str", "list", "tuple", "dict"]) : TyY K s.H v (.type (tyE μ e)) := by
  cases e with
  | dat d =>
    have r' : DR K s.F v d := r
    cases r' with
    | non => exact .inl (.base .non)
    | bl b => exact .inl (.base (.bl b))
    | int i => exact .inl (.base (.int i))
    | str x _ => exact .inl (.base (.str x))
    | lst h1 _ => exact .inl (.base (.lst (R.sub _ _ h1)))
    | tup h1 _ => exact .inl (.base (.tup (R.sub _ _ h1)))
    | dcT h1 _ _ _ => exact .inr ⟨_, _, _, rfl, R.sub _ _ h1, rfl⟩
    | dcK h1 _ _ _ _ => exact .inl (.fDict (R.sub _ _ h1))
  | new xs => obtain ⟨p, vs, rfl, a2, _⟩ := r; exact .inl (.base (.lst a2))
  | loc n =>
    obtain ⟨hn, rfl⟩ := r
    unfold tyE at h ⊢
    simp only at h ⊢
    cases hc : μ[n]? with
    | none => rw [hc] at h; simp at h
    | some c =>
      rw [hc] at h
      have C := R.cell n c hc
      cases c with
      | lst xs => obtain ⟨_, vs, a2, _⟩ := C; exact .inl (.base (.lst a2))
      | frz xs => obtain ⟨vs, a2, _⟩ := C; exact .inl (.base (.lst (R.sub _ _ a2)))
      | dct kvs =>
        obtain ⟨_, ks, a2, _⟩ := C
        exact .inl (.base (.dT a2))
      | dck kvs =>
        obtain ⟨_, ks, a2, _⟩ := C
        exact .inl (.base (.dK a2))
      | abs _ => simp at h
      | tab _ _ => simp at h
      | own _ => simp at h
      | dead => simp at h
  | raw u => simp [tyE] at h
  | exc x => simp [tyE] at h
  | ro x => simp [tyE] at h
  | newd x => obtain ⟨p, vs, rfl, a2, _⟩ := r; exact .inl (.base (.dT a2))
  | newk x => obtain ⟨p, vs, rfl, a2, _⟩ := r; exact .inl (.base (.dK a2))
  | «at» n p b =>
    unfold tyE at h ⊢
    simp only at h ⊢
    split at h
    · rename_i k b' ts hn
      split at h
      · rename_i e1
        subst e1
        obtain ⟨vs, h1, _, _⟩ := node_is R hn
        have rv : v = .ref b' := r
        subst rv
        rw [if_pos rfl]
        cases k with
        | lst => exact .inl (.base (.lst h1))
        | tup => exact .inl (.base (.tup h1))
        | dck ks => exact .inl (.base (.dK h1.1))
        | dct ks => exact .inl (.base (.dT h1.1))
        | ins C fs => simp [tyK] at h
        | gho => simp [tyK] at h
      · simp at h
    · simp at h
  | newo _ => simp [tyE] at h
  | per _ => simp [tyE] at h
theorem kit_all : ∀ a ∈ ["NoneType", "bool", "int", "str", "list", "tuple", "dict"], ∀ b ∈ ["bool", "int", "str", "list", "tuple", "dict"], kitB a b = some (isT a b) := by decide +kernel
theorem cs_isi {K : PySem.W.Frag} : CallS K (rIsiY K) oIsi := by
  intro s0 N0 s μ xs es q Q R xt r h l
  unfold oIsi at h
  split at h
  · rename_i e b
    cases r with
    | cons rx fx rr =>
      cases rr with
      | cons ry fy rr =>
        cases rr
        have ry' : _ = V.ty b := ry
        subst ry'
        exact ⟨_, _, _, _, _, rfl, .ty b, ty_ok R rx h.1.1, kit_ty (kit_all _ h.1.1 _ h.1.2), ans R xt l h.2 (.bl _)⟩
  · exact h.elim
/-! ### what is walked -/
theorem walkL {K : PySem.W.Frag} {s0 : Wd} {N0 : Nat} {a : Addr} {xs : List PyData} {G : Mu → Prop} (hd : ∀ s μ, Ext s0 N0 s μ.length → Rep K s μ → G μ → ∃ vs, SqL K s.H a vs ∧ DRs K s.F vs xs) : WalkS K (Itl K a) s0 N0 (xs.map .dat) G := by
  intro n s μ x R g
  obtain ⟨vs, h1, h2⟩ := hd s μ x R g
  have hl := h2.length
  refine ⟨fun hn => ?_, ⟨vs, h1, by simp [hl]⟩, fun v H' hn hy => ?_⟩
  · have hn' : n < vs.length := by simpa [hl] using hn
    exact ⟨vs, vs[n], h1, by simp [hn']⟩
  · obtain ⟨e1, e2⟩ := hy
    obtain ⟨d, h3, h4⟩ := h2.getV (e2 vs h1)
    exact ⟨s, .dat d, e1.symm, by rw [List.getElem?_map, h3]; rfl, rfl, Ext.refl _ _, R, h4⟩
theorem walkT {K : PySem.W.Frag} {s0 : Wd} {N0 : Nat} {a : Addr} {vs : List V} {xs : List PyData} {G : Mu → Prop} (hd : ∀ s μ, Ext s0 N0 s μ.length → Rep K s μ → G μ → SqT K s.H a vs ∧ DRs K s.F vs xs) : WalkS K (Itt K a) s0 N0 (xs.map .dat) G := by
  intro n s μ x R g
  obtain ⟨h1, h2⟩ := hd s μ x R g
  have hl := h2.length
  refine ⟨fun hn => ?_, ⟨vs, h1, by simp [hl]⟩, fun v H' hn hy => ?_⟩
  · have hn' : n < vs.length := by simpa [hl] using hn
    exact ⟨vs, vs[n], h1, by simp [hn']⟩
  · obtain ⟨e1, e2⟩ := hy
    obtain ⟨d, h3, h4⟩ := h2.getV (e2 vs h1)
    exact ⟨s, .dat d, e1.symm, by rw [List.getElem?_map, h3]; rfl, rfl, Ext.refl _ _, R, h4⟩
theorem walkZ {K : PySem.W.Frag} {s0 : Wd} {N0 : Nat} {z : Str} {F : Hp} {v0 : V} (r0 : DR K F v0 (.str z)) {G : Mu → Prop} : WalkS K (Its z) s0 N0 (z.cps.toList.map fun c => .dat (.str ⟨#[c]⟩)) G := by
  have hz : PyData.strOk z = true := by cases r0; assumption
  intro n s μ x R g
  refine ⟨fun hn => (by simpa using hn : n < z.cps.size), ?_, fun v H' hn hy => ?_⟩
  · show z.cps.size ≤ _
    simp
  · obtain ⟨e1, c, hc, rfl⟩ := hy
    have hc' : z.cps.toList[n]? = some c := by simpa using hc
    refine ⟨s, .dat (.str ⟨#[c]⟩), e1.symm, by rw [List.getElem?_map, hc']; rfl, rfl, Ext.refl _ _, R, .str _ (strOk_at hz (List.mem_of_getElem? hc'))⟩
end
end DL
set_option Elab.async false
set_option linter.all false
set_option maxRecDepth 100000
set_option maxHeartbeats 4000000
namespace DL
open PySem L2 PyProof.Rows
/-! ### range -/
def rngItems (lo : Int) (n : Nat) : List EV := (List.range n).map fun k => .dat (.int (lo + (k : Nat)))
theorem walkR {K : PySem.W.Frag} {s0 : Wd} {N0 : Nat} {lo : Int} {n : Nat} {G : Mu → Prop} : WalkS K (Itr lo n) s0 N0 (rngItems lo n) G := by
  intro m s μ x R g
  refine ⟨fun hn => (by simpa [rngItems] using hn : m < n), ?_, fun v H' hn hy => ?_⟩
  · show n ≤ _
    simp [rngItems]
  · obtain ⟨e1, rfl⟩ := hy
    have hn' : m < n := by simpa [rngItems] using hn
    refine ⟨s, .dat (.int (lo + (m : Nat))), e1.symm, by simp [rngItems, hn'], rfl, Ext.refl _ _, R, .int _⟩
def iRange1 (t : TDA) : TDI := fun η μ r E => t η μ (fun es μ1 => match es with
  | [.dat (.int j)] => (-1000000 ≤ j ∧ j ≤ 1000000) ∧ r (rngItems 0 j.toNat) (fun _ => True) μ1
  | _ => False) E
section
variable {X : Cx} {W : WX} {tg a b : Expr} {t : TDA} {p pos : Pos}
theorem di_range1 (hg : Gl X "range") (hm : X.mg "range" = none) (ha : DA X W [a] t) (hs : starEach [a] X.env = [(false, eval a X.env)] := by rfl) : DI X W tg (.Call (.Name "range" p) [a] [] pos) (iRange1 t) := by
  obtain ⟨t1, p1, g1⟩ := ha.ex
  refine ⟨_, pi_range1 hg hm p1 hs, fun s σ η μ R r E S hq l lx => g1 s σ η μ _ _ E S hq (fun es μ1 vs s1 hk x1 R1 rv => ?_) lx⟩
  split at hk
  · cases rv with
    | cons rx fx rr =>
      cases rr
      obtain ⟨⟨h1, h2⟩, hk⟩ := hk
      exact ⟨_, by rw [vr_i rx], by omega, by omega, l _ _ _ μ1 s1 hk x1 R1 walkR⟩
  · exact hk.elim
end
/-! ### methods of built-in types -/
abbrev MD := EV → List EV → Mu → PQ → Prop
def MtS (K : PySem.W.Frag) (r : V → List V → Hp → VK → Prop) (o : MD) : Prop := ∀ (s0 : Wd) (N0 : Nat) (s : Wd) (μ : Mu) (x : V) (xs : List V) (ex : EV) (es : List EV) (q : PQ) (Q : VK), Rep K s μ → Ext s0 N0 s μ.length → VR K s μ.length x ex → Frsh s0.H x ex → VRs K s μ.length s0.H xs es →
  o ex es μ q → LE K s0 N0 q Q → r x xs s.H Q
/-- the receiver's type -/
def RcS (K : PySem.W.Frag) (T : String) (ty : EV → Mu → Prop) : Prop := ∀ (s : Wd) (μ : Mu) (x : V) (ex : EV), Rep K s μ → VR K s μ.length x ex → ty ex μ → tyV K T x s.H
def isLstE : EV → Mu → Prop := fun e μ => (lstOf μ e).isSome = true
theorem rc_lst {K : PySem.W.Frag} : RcS K "list" isLstE := by
  intro s μ x ex R r h
  unfold isLstE at h
  obtain ⟨ds, hds⟩ := Option.isSome_iff_exists.mp h
  obtain ⟨a, vs, rfl, h1, h2⟩ := lst_ok R r hds
  exact .inl ⟨rfl, vs, SqL.of h1⟩
def dBM (ty : EV → Mu → Prop) (o : MD) (to : TDE) (t : TDA) : TDE := fun η μ q E => to η μ (fun x μ1 => ty x μ1 ∧ t η μ1 (fun es μ2 => o x es μ2 q) E) E
section
variable {X : Cx} {W : WX} {eo e : Expr} {es : List Expr} {to : TDE} {t : TDA} {name : Str} {apos cpos : Pos} {T id : String} {r : V → List V → Hp → VK → Prop} {ty : EV → Mu → Prop} {o : MD}
theorem de_bm (pa : PlainAttrs T) (slot : Slot T name id) (hty : typeOf (.builtin id) = pure (.type "method_descriptor")) (hm : MtR X id r) (rc : RcS X.K T ty) (ms : MtS X.K r o) (ho : DE X W eo to) (ha : DA X W (e :: es) t)
    (hbase : attributeBase eo name X.env (eval eo X.env) = eval eo X.env := by rfl)
    (hfew : ((backTo cpos (starEach (e :: es) X.env)).all (fun x => !x.1) && (backToKw cpos (keywordEach [] X.env)).all (fun x => x.1.isSome)
      && decide ((e :: es).length + ([] : List Keyword).length + (if ([] : List Keyword).isEmpty then 0 else 1) < 30)) = true := by rfl)
    (hline : (apos.endLine == cpos.line) = true := by rfl) (hs : starEach (e :: es) X.env = (false, eval e X.env) :: starEach es X.env := by rfl) (hplain : (backTo cpos (starEach es X.env)).any (·.1) = false := by rfl) :
    DE X W (.Call (.Attribute eo name apos) (e :: es) [] cpos) (dBM ty o to t) := by
  obtain ⟨t1, p1, g1⟩ := ho.ex
  obtain ⟨t2, p2, g2⟩ := ha.ex
  refine de_pe (pe_bm pa slot hty hm p1 p2 hbase hfew hline hs hplain) fun s σ η μ Q q E S hq l lx => g1 s σ η μ _ _ E S hq (fun ex μ1 x s1 hk1 x1 R1 r1 f1 => ?_) lx
  refine ⟨rc s1 μ1 x ex R1 r1 hk1.1, g2 s1 σ η μ1 _ _ E (S.go x1 R1) hk1.2 (fun es' μ2 vs s2 hk2 x2 R2 r2 => ?_) (lx.go x1 R1)⟩
  have h1 := fun n (hn : n < μ1.length) => R1.here hn
  exact ms s _ s2 μ2 x vs ex es' q Q R2 (x1.trans x2 h1) (r1.ext x2) f1 (r2.back x1 h1) hk2 l
end
/-! join -/
/-! ### lists that change -/
theorem mut_ok {K : PySem.W.Frag} {s0 s : Wd} {N0 n : Nat} {μ : Mu} {xs ys : List PyData} {ws : List V} (R : Rep K s μ) (x : Ext s0 N0 s μ.length) (hn : μ[n]? = some (.lst xs)) (hd : DRs K s.F ws ys) :
    Rep K { s with H := upd s.H (s.L n) (.lst ws) } (μ.set n (.lst ys)) ∧ Ext s0 N0 { s with H := upd s.H (s.L n) (.lst ws) } (μ.set n (.lst ys)).length := by
  obtain ⟨hf, vs, hp, hv⟩ := R.cell n _ hn
  have hlt := (List.getElem?_eq_some_iff.mp hn).1
  exact mut_g R x hlt hf ⟨hf, ws, upd_same, hd⟩ (fun t z => nomatch z)
def withL (μ : Mu) (e : EV) (k : Nat → List PyData → Prop) : Prop := match e with
  | .loc n => match μ[n]? with
    | some (.lst xs) => k n xs
    | _ => False
  | _ => False
theorem withL_ex {μ : Mu} {e : EV} {k : Nat → List PyData → Prop} (h : withL μ e k) : ∃ n xs, e = .loc n ∧ μ[n]? = some (.lst xs) ∧ k n xs := by
  unfold withL at h
  split at h
  · split at h
    · exact ⟨_, _, rfl, by assumption, h⟩
    · exact h.elim
  · exact h.elim
def oAppend : MD := fun x es μ q => withL μ x fun n xs => match es with
  | [.dat d] => xs.length < 100000 ∧ q (.dat .none) (μ.set n (.lst (xs ++ [d])))
  | _ => False
theorem line_lt {n : Nat} (h : n < 100000) : n < sizeLine := Nat.lt_of_lt_of_le h (by decide)
theorem ms_append {K : PySem.W.Frag} : MtS K rAppend oAppend := by
  intro s0 N0 s μ x xs ex es q Q R xt rx fx r h l
  obtain ⟨n, ys, rfl, hn, h⟩ := withL_ex h
  obtain ⟨hlt, rfl⟩ := rx
  split at h
  · cases r with
    | cons ry fy rr =>
      cases rr
      obtain ⟨hf, vs, hp, hv⟩ := R.cell n _ hn
      obtain ⟨a1, a2⟩ := mut_ok R xt hn (hv.append (.cons ry .nil))
      exact ⟨_, vs, _, rfl, rfl, hp, line_lt (by rw [hv.length]; exact h.1), l (.dat .none) _ .non _ h.2 a2 a1 .non trivial⟩
  · exact h.elim
/-- xs[i] = v -/
def oSetL : SetD := fun x y z μ q => withL μ x fun n xs => match y, z with
  | .dat (.int k), .dat d => ∃ j, ixN xs.length k = some j ∧ q (μ.set n (.lst (xs.set j d)))
  | _, _ => False
theorem ss_list {K : PySem.W.Frag} : SetS K rSetL oSetL := by
  intro s0 N0 s μ x y z ex ey ez q Q R xt rx ry rz h l
  obtain ⟨n, ys, rfl, hn, h⟩ := withL_ex h
  obtain ⟨hlt, rfl⟩ := rx
  split at h
  · obtain ⟨j, hj, h⟩ := h
    obtain ⟨hf, vs, hp, hv⟩ := R.cell n _ hn
    obtain ⟨a1, a2⟩ := mut_ok R xt hn (hv.set rz j)
    exact ⟨_, vs, _, j, rfl, vr_i ry, hp, by rw [hv.length]; exact hj, l _ _ h a2 a1⟩
  · exact h.elim
end DL
set_option Elab.async false
set_option linter.all false
set_option maxRecDepth 100000
set_option maxHeartbeats 4000000
namespace DL
open PySem L2 PyProof.Rows
/-! ### words for whole programs -/
/-- a new list, a new dict becomes still, all else is as it is -/
def stlK (q : PQ) : PQ := fun e μ1 => match e with
  | .new xs => q (.dat (.list xs)) μ1
  | .newd kvs => q (.dat (.dict (kvT kvs))) μ1
  | .newk kvs => kvs ≠ [] ∧ q (.dat (.dict (kvK kvs))) μ1
  | e => q e μ1
def dStl (t : TDE) : TDE := fun η μ q E => t η μ (stlK q) E
/-- what is told may be locked for good -/
def tLk (t : TE) : TE := fun σ H Q => t σ H fun v H1 => Q v H1 ∨ ∃ d u, H1 d = some u ∧ Mut (some u) ∧ ∀ od, Q v (upd H1 d (.frz od u))
theorem pe_lk {X : Cx} {e : Expr} {t : TE} (h : PE X e t) : PE X e (tLk t) := by
  refine ⟨fun pins s σ H Q I hw => ?_⟩
  refine thn (h.run pins s σ _ _ I hw) fun v s1 ⟨x, H1, I2, r, q⟩ => ?_
  rcases q with q | ⟨d, u, hd, mu, q⟩
  · exact ⟨x, H1, I2, r, q⟩
  · obtain ⟨od, I3⟩ := I2.lock hd mu
    exact ⟨x, _, I3, r, q od⟩
theorem still_O {K : PySem.W.Frag} {s0 s : Wd} {N0 : Nat} {μ : Mu} {p : Addr} {o : HO} (R : Rep K s μ) (x : Ext s0 N0 s μ.length) (hf : s.F p = none) (hl : NL s μ.length p) (h0 : s0.H p = none) :
    Rep K { s with H := upd s.H p o, F := upd s.F p o } μ ∧ Ext s0 N0 { s with H := upd s.H p o, F := upd s.F p o } μ.length ∧ Same s.F (upd s.F p o) := by
  have e : Same s.F (upd s.F p o) := fun y o' q => by rw [upd_ne (ne_of_none q hf)]; exact q
  have R1 := R.poke (o := o) hf hl
  refine ⟨R.of rfl (fun a u q => ?_) (fun n c q => cell_still (R1.cell n c q) (R.rootNe hl n (List.getElem?_eq_some_iff.mp q).1) hf) (fun a h => upd_live h) (R.beside e fun n a hn ha => keeps_putF fun z => hl n hn (z ▸ ha)), ⟨fun a u q => e a u (x.f a u q), x.l, x.le, fun a u q hn => ?_, fun a h1 h2 h3 h4 => ?_, x.lnew, x.onew, fun a h => upd_live (x.alive a h)⟩, e⟩
  · have q' : upd s.F p o a = some u := q
    show upd s.H p o a = some u
    by_cases ha : a = p
    · subst ha
      rw [upd_same] at q' ⊢
      exact q'
    · rw [upd_ne ha] at q' ⊢
      exact R.sub a u q'
  · show upd s.H p o a = some u
    rw [upd_ne (ne_of_none q h0)]
    exact x.keep a u q hn
  · show upd s.F p o a = none
    rw [upd_ne (fun z => h3 (by rw [z]; exact h0))]
    exact x.fnew a h1 h2 h3 h4
section
variable {X : Cx} {W : WX} {e : Expr} {te : TDE} {pos : Pos}
theorem sem_stl {K : PySem.W.Frag} {t : TE} {td : TDE} (g : SemE K W t td) : SemE K W (tLk t) (dStl td) := fun s σ η μ Q q E S hq l lx => g s σ η μ _ _ E S hq (fun e μ' v s' hk x R r f => by
  cases e with
  | new xs =>
    obtain ⟨p, vs, rfl, h1, h2, h3, h4⟩ := r
    obtain ⟨a1, a2, a3⟩ := still_new R x h1 h2 h3 h4 (f p rfl)
    exact .inl (l _ _ _ { s' with F := upd s'.F p (.lst vs) } hk a2 a1 a3 trivial)
  | newd kvs =>
    obtain ⟨p, ks, rfl, h1, h2, h3, h4, h5⟩ := r
    refine .inr ⟨p, _, h1, trivial, fun od => ?_⟩
    obtain ⟨a1, a2, a3⟩ := still_O (o := .frz od (.dT ks)) R x h2 h3 (f p rfl)
    exact l _ _ _ _ hk a2 a1 (.dcT upd_same h4 (h5.mono a3) rfl) trivial
  | newk kvs =>
    obtain ⟨p, ks, rfl, h1, h2, h3, h4, h5⟩ := r
    refine .inr ⟨p, _, h1, trivial, fun od => ?_⟩
    obtain ⟨a1, a2, a3⟩ := still_O (o := .frz od (.dK ks)) R x h2 h3 (f p rfl)
    exact l _ _ _ _ hk.2 a2 a1 (.dcK upd_same h4 (h5.mono a3) rfl hk.1) trivial
  | dat d => exact .inl (l _ _ _ _ hk x R r f)
  | loc d => exact .inl (l _ _ _ _ hk x R r f)
  | raw d => exact .inl (l _ _ _ _ hk x R r f)
  | exc d => exact .inl (l _ _ _ _ hk x R r f)
  | «at» _ _ _ => exact .inl (l _ _ _ _ hk x R r f)
  | newo _ => exact .inl (l _ _ _ _ hk x R r f)
  | per _ => exact .inl (l _ _ _ _ hk x R r f)
  | ro d => exact .inl (l _ _ _ _ hk x R r f)) lx
theorem de_stl (h : DE X W e te) : DE X W e (dStl te) := by
  obtain ⟨t, hp, g⟩ := h.ex
  exact de_pe (pe_lk hp) (sem_stl g)
/-- a slot -/
theorem dv (i : Nat) {x : Str} (hN : X.N[i]? = some x := by rfl) (hv : Vis X.env.scope x := by first | exact Or.inl rfl | exact Or.inr (Or.inl rfl) | exact Or.inr (Or.inr rfl)) (hd : (x == ("__debug__" : Str)) = false := by decide)
    (hcd : (x == ("__classdict__" : Str)) = false := by decide) : DE X W (.Name x pos) (dVar i) := de_var (pv i hN hv hd hcd)
/-- a module's constants -/
theorem de_gint {x : Str} {n : Int} (hm : ∃ t, X.mg x = some (.int n t)) (hg : Gl X x := by rfl) (hd : (x == ("__debug__" : Str)) = false := by decide) : DE X W (.Name x pos) (dC (.int n)) := by
  obtain ⟨t, hm⟩ := hm
  exact de_c (pe_glob (v := .int n) hg hm ⟨t, rfl⟩ hd) fun _ _ => .int n
/-- a built-in class as a value -/
theorem de_ty {x : Str} {T : String} (hm : X.mg x = none) (hv : bootBuiltins x = some (.type T)) (hg : Gl X x := by rfl) (hn : x ≠ "__name__" := by decide) (hd : (x == ("__debug__" : Str)) = false := by decide) : DE X W (.Name x pos) (dRaw (.ty T)) :=
  de_raw (pe_bltn hg hm hv rfl hn hd)
end
theorem bt_int : bootBuiltins "int" = some (.type "int") := by decide +kernel
theorem bt_bool : bootBuiltins "bool" = some (.type "bool") := by decide +kernel
theorem bt_list : bootBuiltins "list" = some (.type "list") := by decide +kernel
theorem bt_tuple : bootBuiltins "tuple" = some (.type "tuple") := by decide +kernel
theorem bb_len : bootBuiltins "len" = some (.builtin "len") := by decide +kernel
theorem bb_max : bootBuiltins "max" = some (.builtin "max") := by decide +kernel
theorem bb_min : bootBuiltins "min" = some (.builtin "min") := by decide +kernel
theorem bb_all : bootBuiltins "all" = some (.builtin "all") := by decide +kernel
theorem bb_any : bootBuiltins "any" = some (.builtin "any") := by decide +kernel
theorem bb_isinstance : bootBuiltins "isinstance" = some (.builtin "isinstance") := by decide +kernel
theorem bb_divmod : bootBuiltins "divmod" = some (.builtin "divmod") := by decide +kernel
section
variable {P : Program} {w : World} {K : PySem.W.Frag} {mg : Str → Option Value} {base : Heap}
/-- a def by its body, with its contract -/
theorem def_ok {x qual : Str} {st : Stmt} {f : Addr} {fd : FuncData} {N ps : List Str} {k : Nat} {td : TDS} (sp : SpD) (F : Fun K x qual st f fd) (S : FnScope N ps (defScope st)) (hm : mg x = some (.ref f)) (hb : Binds K fd ps [])
    (body : ∀ (cdv : Value) (A : Around) (outer : List Env) (s : Shared) (H : Hp) (E : XK), Room k (A.deeper (envOfC qual (defScope st) s.heap.objs.size f cdv)) →
      Takes (cxOf (L2.CX P w) P w K mg base N qual (defScope st) f cdv A outer s H E) (fun cls d _ H => E cls d H) →
      PassesOwn (model P w) (A.deeper (envOfC qual (defScope st) s.heap.objs.size f cdv)) (envOfC qual (defScope st) s.heap.objs.size f cdv) (cxOf (L2.CX P w) P w K mg base N qual (defScope st) f cdv A outer s H E).xe →
      DSs (cxOf (L2.CX P w) P w K mg base N qual (defScope st) f cdv A outer s H E) (fun cls d _ H => E cls d H) (defBody st) td)
    (h : ∀ (es : List EV) (μ : Mu) (q : PQ) (x : XQ), es.length = ps.length → sp es μ q x → td { nx := fun _ μ' => exitQ μ.length q (.dat .none) μ', rt := exitQ μ.length q } (fun y μ' => x y (μ'.take μ.length)) (startD N es) μ) :
    DefAt P w K mg base x (k + 1) ps [] [] sp :=
  ⟨⟨f, fd, fd_of F S (fun cdv A outer s H E hr => body cdv A outer s H E hr (takes_of rfl rfl rfl rfl) (passes_of rfl)) h, hm, F.kp, hb⟩, .nil⟩
end
theorem tk0 {X : Cx} : Takes X WF := takes0
/-- the law's own contract: the script is handed in, True comes out -/
def spLawD : SpD := fun es μ q _ => ∃ ns : List Int, es = [.ro (ns.map .int)] ∧ ns.length ≤ 63 ∧ μ = [] ∧ ∀ μ', q (.dat (.bool true)) μ'
def spLaw (K : PySem.W.Frag) : Sp := fun vs H Q _ => ∃ (a : Addr) (ns : List Int), vs = [.ref a] ∧ SqL K H a (ns.map V.int) ∧ ns.length ≤ 63 ∧ ∀ H', Q (.bl true) H'
theorem drs_ints {K : PySem.W.Frag} {F : Hp} : ∀ ns : List Int, DRs K F (ns.map V.int) (ns.map .int)
  | [] => .nil
  | n :: r => .cons (.int n) (drs_ints r)
theorem law_sp {K : PySem.W.Frag} {vs : List V} {H : Hp} {Q : VK} {E : XK} (h : spLaw K vs H Q E) : spOf K 1 spLawD vs H Q E := by
  obtain ⟨a, ns, rfl, hs, hl, k⟩ := h
  refine ⟨rfl, ⟨H, fun b => if b = a then H a else none, fun _ => 0, fun _ _ => False⟩, [], [.ro (ns.map .int)], fun e _ => e = .dat (.bool true), fun _ _ => False, rfl, ⟨fun b o q => ?_, fun n c q => by simp at q, fun m n a hm => absurd hm (Nat.not_lt_zero _), fun n hn => absurd hn (Nat.not_lt_zero _), fun n a hn => absurd hn (Nat.not_lt_zero _), fun n t q => by simp at q⟩, .cons ⟨a, ns.map V.int, rfl, ?_, drs_ints ns⟩ .nil, ⟨ns, rfl, hl, rfl, fun _ => rfl⟩, fun e μ' v s' hq x R r f => ?_, fun _ _ _ _ _ z => z.elim⟩
  · have q' : (if b = a then H a else none) = some o := q
    split at q'
    · rename_i e
      rw [e]
      exact q'
    · cases q'
  · rcases hs with (h | ⟨o, h⟩) | h
    · exact .inl (.inl (show (if a = a then H a else none) = _ by rw [if_pos rfl]; exact h))
    · exact .inl (.inr ⟨o, show (if a = a then H a else none) = _ by rw [if_pos rfl]; exact h⟩)
    · exact .inr h
  · subst hq
    rw [vr_b r]
    exact k s'.H
end DL
set_option Elab.async false
set_option linter.all false
set_option maxRecDepth 100000
set_option maxHeartbeats 4000000
namespace DL
open PySem L2 PyProof.Rows
/-! ### words for proofs over data readings -/
section
variable {N : Nat} {q : PQ} {μ : Mu}
theorem exitQ_dat {d : PyData} : DL.exitQ N q (.dat d) μ = q (.dat d) (μ.take N) := Eq.trans rfl rfl
theorem exitQ_new {d : List PyData} : DL.exitQ N q (.new d) μ = q (.new d) (μ.take N) := Eq.trans rfl rfl
end
def isIntD : PyData → Bool
  | .int _ => true
  | .bool _ => true
  | _ => false
def isBoolD : PyData → Bool
  | .bool _ => true
  | _ => false
def isListD : PyData → Bool
  | .list _ => true
  | _ => false
def isTupD : PyData → Bool
  | .tuple _ => true
  | _ => false
section
variable {d : PyData} {q : PQ} {μ : Mu}
theorem isi_int : oIsi [.dat d, .raw (.ty "int")] μ q = q (.dat (.bool (isIntD d))) μ := by
  cases d <;> simp [oIsi, tyE, tyOf, isT, isIntD]
theorem isi_bool : oIsi [.dat d, .raw (.ty "bool")] μ q = q (.dat (.bool (isBoolD d))) μ := by
  cases d <;> simp [oIsi, tyE, tyOf, isT, isBoolD]
theorem isi_list : oIsi [.dat d, .raw (.ty "list")] μ q = q (.dat (.bool (isListD d))) μ := by
  cases d <;> simp [oIsi, tyE, tyOf, isT, isListD]
theorem isi_tuple : oIsi [.dat d, .raw (.ty "tuple")] μ q = q (.dat (.bool (isTupD d))) μ := by
  cases d <;> simp [oIsi, tyE, tyOf, isT, isTupD]
end
section
variable {q : PQ} {μ : Mu} {z z' : Str} {xs ys : List PyData} {n : Nat} {i j : Int} {x y : EV}
theorem ix_tupD : oIx (.dat (.tuple xs)) (.dat (.int i)) μ q = (∃ d, atI xs i = some d ∧ q (.dat d) μ) := Eq.trans rfl rfl
theorem ix_lstD : oIx (.dat (.list xs)) (.dat (.int i)) μ q = (∃ d, atI xs i = some d ∧ q (.dat d) μ) := Eq.trans rfl rfl
theorem ix_new : oIx (.new xs) (.dat (.int i)) μ q = (∃ d, atI xs i = some d ∧ q (.dat d) μ) := Eq.trans rfl rfl
theorem ix_ro : oIx (.ro xs) (.dat (.int i)) μ q = (∃ d, atI xs i = some d ∧ q (.dat d) μ) := Eq.trans rfl rfl
theorem at_nn {α : Type} {as : List α} {k : Int} (h : 0 ≤ k) : atI as k = as[k.toNat]? := by
  unfold atI ixN
  rw [if_pos h]
  split
  · rfl
  · rename_i hk
    rw [List.getElem?_eq_none (by omega)]
    rfl
theorem ixN_nn {m : Nat} {k : Int} (h : 0 ≤ k) (h2 : k < m) : ixN m k = some k.toNat := by
  unfold ixN
  rw [if_pos h, if_pos h2]
theorem add_int : oAdd (.dat (.int i)) (.dat (.int j)) μ q = q (.dat (.int (i + j))) μ := Eq.trans rfl rfl
theorem add_lst (hx : lstOf μ x = some xs) (hy : lstOf μ y = some ys) : oAdd x y μ q = (xs.length + ys.length ≤ 100000 ∧ q (.new (xs ++ ys)) μ) := by
  unfold oAdd
  split
  · cases hx
  · cases hx
  · cases hx
  · rw [hx, hy]
theorem add_ln : oAdd (.dat (.list xs)) (.new ys) μ q = (xs.length + ys.length ≤ 100000 ∧ q (.new (xs ++ ys)) μ) := add_lst rfl rfl
theorem add_nn : oAdd (.new xs) (.new ys) μ q = (xs.length + ys.length ≤ 100000 ∧ q (.new (xs ++ ys)) μ) := add_lst rfl rfl
theorem mul_int : oMul (.dat (.int i)) (.dat (.int j)) μ q = (CMul i j ∧ q (.dat (.int (i * j))) μ) := Eq.trans rfl rfl
theorem sl_tupD {lo hi : Option Int} : oSl (.dat (.tuple xs)) lo hi μ q = q (.dat (.tuple (cutD xs lo hi))) μ := Eq.trans rfl rfl
theorem sl_lstD {lo hi : Option Int} : oSl (.dat (.list xs)) lo hi μ q = q (.new (cutD xs lo hi)) μ := Eq.trans rfl rfl
theorem stl_dat {d : PyData} : stlK q (.dat d) μ = q (.dat d) μ := Eq.trans rfl rfl
theorem stl_new : stlK q (.new xs) μ = q (.dat (.list xs)) μ := Eq.trans rfl rfl
theorem stl_loc : stlK q (.loc n) μ = q (.loc n) μ := Eq.trans rfl rfl
theorem stl_ro : stlK q (.ro xs) μ = q (.ro xs) μ := Eq.trans rfl rfl
theorem stl_exc {y : Exn} : stlK q (.exc y) μ = q (.exc y) μ := Eq.trans rfl rfl
theorem cel_new : cellK q (.new xs) μ = q (.loc μ.length) (μ ++ [.lst xs]) := Eq.trans rfl rfl
theorem cel_loc : cellK q (.loc n) μ = q (.loc n) μ := Eq.trans rfl rfl
theorem nN_dat {d : PyData} : noNew (.dat d) = true := Eq.trans rfl rfl
theorem nN_loc : noNew (.loc n) = true := Eq.trans rfl rfl
theorem nN_ro : noNew (.ro xs) = true := Eq.trans rfl rfl
theorem nN_exc {y : Exn} : noNew (.exc y) = true := Eq.trans rfl rfl
theorem aO_nil : allOld [] = true := Eq.trans rfl rfl
theorem aO_cons {e : EV} {es : List EV} : allOld (e :: es) = (noNew e && allOld es) := Eq.trans rfl rfl
theorem wB_b {b : Bool} {k : Bool → Prop} : withB (.dat (.bool b)) k = k b := Eq.trans rfl rfl
theorem oI_ii {C : Int → Int → Prop} {g : Int → Int → PyData} : oI C g (.dat (.int i)) (.dat (.int j)) μ q = (C i j ∧ q (.dat (g i j)) μ) := Eq.trans rfl rfl
theorem oI0_ii {g : Int → Int → PyData} : oI0 g (.dat (.int i)) (.dat (.int j)) μ q = q (.dat (g i j)) μ := Eq.trans rfl rfl
theorem neg_i : oNeg (.dat (.int i)) μ q = q (.dat (.int (-i))) μ := Eq.trans rfl rfl
theorem inv_i : oInv (.dat (.int i)) μ q = q (.dat (.int (Builtin.bitNot i))) μ := Eq.trans rfl rfl
theorem eq_dd {d e : PyData} : oEq (.dat d) (.dat e) μ q = ((noD d = true ∧ noD e = true) ∧ min d.depth e.depth ≤ 64 ∧ q (.dat (.bool (PyData.eqv d e))) μ) := Eq.trans rfl rfl
theorem ne_dd {d e : PyData} : oNe (.dat d) (.dat e) μ q = ((noD d = true ∧ noD e = true) ∧ min d.depth e.depth ≤ 64 ∧ q (.dat (.bool (!PyData.eqv d e))) μ) := Eq.trans rfl rfl
theorem ne_nd {d : PyData} : oNe (.new xs) (.dat d) μ q = ((noD (.list xs) = true ∧ noD d = true) ∧ min (PyData.list xs).depth d.depth ≤ 64 ∧ q (.dat (.bool (!PyData.eqv (.list xs) d))) μ) := Eq.trans rfl rfl
theorem ne_nn : oNe (.new xs) (.new ys) μ q = ((noD (.list xs) = true ∧ noD (.list ys) = true) ∧ min (PyData.list xs).depth (PyData.list ys).depth ≤ 64 ∧ q (.dat (.bool (!PyData.eqv (.list xs) (.list ys)))) μ) := Eq.trans rfl rfl
theorem max_ii : oMax2 [.dat (.int i), .dat (.int j)] μ q = q (.dat (.int (if j > i then j else i))) μ := Eq.trans rfl rfl
theorem min_ii : oMin2 [.dat (.int i), .dat (.int j)] μ q = q (.dat (.int (if j < i then j else i))) μ := Eq.trans rfl rfl
theorem wD_dat {d : PyData} {k : PyData → Mu → Prop} : withDat μ (.dat d) k = k d μ := Eq.trans rfl rfl
theorem wD_new {k : PyData → Mu → Prop} : withDat μ (.new xs) k = k (.list xs) μ := Eq.trans rfl rfl
end
theorem eqv_int {i j : Int} : PyData.eqv (.int i) (.int j) = decide (i = j) := by
  rw [PyData.eqv]
  exact Bool.beq_eq_decide_eq i j
theorem eqv_str {i j : Str} : PyData.eqv (.str i) (.str j) = decide (i = j) := by
  rw [PyData.eqv]
  exact Bool.beq_eq_decide_eq i j
theorem dep_int {i : Int} : (PyData.int i).depth = 0 := by rw [PyData.depth]
theorem dep_none : PyData.none.depth = 0 := by rw [PyData.depth]
/-! ### statements, one by one -/
section
variable {t u v : TDS} {te : TDE} {ta : TDA} {tc : TDT} {g : TDG} {ti : TDI} {d : DEnds} {E : XQ} {η : DEnv} {μ : Mu} {i j : Nat} {o : OD}
theorem q_next (h : v d E η μ) : sSeq sNext v d E η μ := h
theorem q_asg (h : te η μ (fun e μ1 => g e η μ1 fun η' μ' => v d E η' μ') E) : sSeq (sAsg te g) v d E η μ := h
theorem q_set (h : te η μ (fun e μ1 => noNew e = true ∧ v d E (η.set i (some e)) μ1) E) : sSeq (sAsg te (gNm i)) v d E η μ := h
theorem q_par (h : ta η μ (fun es μ1 => match es with
  | [e1, e2] => noNew e1 = true ∧ noNew e2 = true ∧ v d E ((η.set i (some e1)).set j (some e2)) μ1
  | _ => False) E) : sSeq (sPar i j ta) v d E η μ := h
theorem q_drop (h : te η μ (fun _ μ1 => v d E η μ1) E) : sSeq (sDrop te) v d E η μ := h
theorem q_ret (h : te η μ d.rt E) : sSeq (sRet te) v d E η μ := h
theorem q_retN (h : d.rt (.dat .none) μ) : sSeq sRetN v d E η μ := h
theorem q_if (h : tc η μ (fun b μ1 => if b = true then t { d with nx := v d E } E η μ1 else u { d with nx := v d E } E η μ1) E) : sSeq (sIf tc t u) v d E η μ := h
/-- .. an if without else -/
theorem q_when (h : tc η μ (fun b μ1 => if b = true then t { d with nx := v d E } E η μ1 else v d E η μ1) E) : sSeq (sIf tc t sNext) v d E η μ := h
theorem q_ifB (b : Bool) (h : ∀ K : Bool → Mu → Prop, K b μ → tc η μ K E) (h1 : b = true → t { d with nx := v d E } E η μ) (h2 : b = false → u { d with nx := v d E } E η μ) : sSeq (sIf tc t u) v d E η μ :=
  h _ (by cases b with
    | true => exact h1 rfl
    | false => exact h2 rfl)
theorem s_next (h : d.nx η μ) : sNext d E η μ := h
theorem s_asg (h : te η μ (fun e μ1 => g e η μ1 d.nx) E) : sAsg te g d E η μ := h
theorem s_set (h : te η μ (fun e μ1 => noNew e = true ∧ d.nx (η.set i (some e)) μ1) E) : sAsg te (gNm i) d E η μ := h
theorem s_drop (h : te η μ (fun _ μ1 => d.nx η μ1) E) : sDrop te d E η μ := h
theorem s_ret (h : te η μ d.rt E) : sRet te d E η μ := h
theorem s_retN (h : d.rt (.dat .none) μ) : sRetN d E η μ := h
theorem s_if (h : tc η μ (fun b μ1 => if b = true then t d E η μ1 else u d E η μ1) E) : sIf tc t u d E η μ := h
theorem s_when (h : tc η μ (fun b μ1 => if b = true then t d E η μ1 else d.nx η μ1) E) : sIf tc t sNext d E η μ := h
theorem q_whenB (b : Bool) (h : ∀ K : Bool → Mu → Prop, K b μ → tc η μ K E) (h1 : b = true → t { d with nx := v d E } E η μ) (h2 : b = false → v d E η μ) : sSeq (sIf tc t sNext) v d E η μ := q_ifB b h h1 h2
end
/-- what a comprehension asks of its items -/
def LcG (g : TDG) (tt : TDT) (te : TDE) (vs : List Nat) (η : DEnv) (q : PQ) (items : List EV) (G : Mu → Prop) (μ1 : Mu) : Prop := items.length ≤ 100000 ∧ ∃ Inv : Nat → List PyData → Mu → Prop, Inv 0 [] μ1 ∧ (∀ i acc μ, Inv i acc μ → G μ ∧ acc.length ≤ i) ∧
  (∀ (i : Nat) (e : EV) acc μ, items[i]? = some e → Inv i acc μ → g e (wipeD η vs) μ fun η2 μ2 => tt η2 μ2 (fun b μ3 => if b = true then te η2 μ3 (fun ev μ4 => withDat μ4 ev fun d μ5 => Inv (i + 1) (acc ++ [d]) (μ5.take μ1.length)) EF else Inv (i + 1) acc (μ3.take μ1.length)) EF) ∧
  ∀ acc μ, Inv items.length acc μ → q (.new acc) μ
/-- over items told by a list, every one kept, the store as it was -/
theorem lc_map {α : Type} {as : List α} {h : α → EV} {G : Mu → Prop} {g : TDG} {te : TDE} {vs : List Nat} {η : DEnv} {q : PQ} {μ1 : Mu} (f : α → PyData) (hz : as.length ≤ 100000) (hG : G μ1)
    (hs : ∀ (a : α) (K : PyData → Mu → Prop), a ∈ as → K (f a) μ1 → g (h a) (wipeD η vs) μ1 fun η2 μ2 => te η2 μ2 (fun ev μ4 => withDat μ4 ev fun d μ5 => K d (μ5.take μ1.length)) EF)
    (hq : q (.new (as.map f)) μ1) : LcG g tYesD te vs η q (as.map h) G μ1 := by
  refine ⟨by rw [List.length_map]; exact hz, fun i acc μ => μ = μ1 ∧ acc = (as.take i).map f, ⟨rfl, rfl⟩, ?_, ?_, ?_⟩
  · rintro i acc μ ⟨rfl, rfl⟩
    refine ⟨hG, ?_⟩
    rw [List.length_map, List.length_take]
    omega
  · rintro i e acc μ hi ⟨rfl, rfl⟩
    obtain ⟨a, ha, rfl⟩ : ∃ a, as[i]? = some a ∧ e = h a := by
      rw [List.getElem?_map] at hi
      cases q : as[i]? with
      | none => rw [q] at hi; cases hi
      | some a => rw [q] at hi; exact ⟨a, rfl, (Option.some.inj hi).symm⟩
    refine hs a (fun d μ' => μ' = μ ∧ (as.take i).map f ++ [d] = (as.take (i + 1)).map f) (List.mem_of_getElem? ha) ⟨rfl, ?_⟩
    rw [List.take_add_one, ha, List.map_append]
    rfl
  · rintro acc μ ⟨rfl, rfl⟩
    rw [List.length_map, List.take_length]
    exact hq
/-- .. with a test -/
theorem lc_filter {α : Type} {as : List α} {h : α → EV} {G : Mu → Prop} {g : TDG} {tt : TDT} {te : TDE} {vs : List Nat} {η : DEnv} {q : PQ} {μ1 : Mu} (p : α → Bool) (f : α → PyData) (hz : as.length ≤ 100000) (hG : G μ1)
    (hs : ∀ (a : α) (K : PyData → Mu → Prop) (K' : Mu → Prop), a ∈ as → (p a = true → K (f a) μ1) → (p a = false → K' μ1) → g (h a) (wipeD η vs) μ1 fun η2 μ2 => tt η2 μ2 (fun b μ3 => if b = true then te η2 μ3 (fun ev μ4 => withDat μ4 ev fun d μ5 => K d (μ5.take μ1.length)) EF else K' (μ3.take μ1.length)) EF)
    (hq : q (.new ((as.filter p).map f)) μ1) : LcG g tt te vs η q (as.map h) G μ1 := by
  refine ⟨by rw [List.length_map]; exact hz, fun i acc μ => μ = μ1 ∧ acc = ((as.take i).filter p).map f, ⟨rfl, rfl⟩, ?_, ?_, ?_⟩
  · rintro i acc μ ⟨rfl, rfl⟩
    refine ⟨hG, ?_⟩
    have := List.length_filter_le p (as.take i)
    rw [List.length_map]
    rw [List.length_take] at this
    omega
  · rintro i e acc μ hi ⟨rfl, rfl⟩
    obtain ⟨a, ha, rfl⟩ : ∃ a, as[i]? = some a ∧ e = h a := by
      rw [List.getElem?_map] at hi
      cases q : as[i]? with
      | none => rw [q] at hi; cases hi
      | some a => rw [q] at hi; exact ⟨a, rfl, (Option.some.inj hi).symm⟩
    refine hs a (fun d μ' => μ' = μ ∧ ((as.take i).filter p).map f ++ [d] = ((as.take (i + 1)).filter p).map f) (fun μ' => μ' = μ ∧ ((as.take i).filter p).map f = ((as.take (i + 1)).filter p).map f) (List.mem_of_getElem? ha) (fun hp => ⟨rfl, ?_⟩) (fun hp => ⟨rfl, ?_⟩)
    · rw [List.take_add_one, ha, List.filter_append, List.map_append]
      simp [hp]
    · rw [List.take_add_one, ha, List.filter_append, List.map_append]
      simp [hp]
  · rintro acc μ ⟨rfl, rfl⟩
    rw [List.length_map, List.take_length]
    exact hq
/-- over items, by an invariant of the store and what was made -/
theorem lc_inv {α : Type} {as : List α} {h : α → EV} {G : Mu → Prop} {g : TDG} {tt : TDT} {te : TDE} {vs : List Nat} {η : DEnv} {q : PQ} {μ1 : Mu} (Inv : Nat → List PyData → Mu → Prop) (hz : as.length ≤ 100000) (h0 : Inv 0 [] μ1) (hG : ∀ i acc μ, Inv i acc μ → G μ ∧ acc.length ≤ i)
    (hs : ∀ (i : Nat) (a : α) acc μ, as[i]? = some a → Inv i acc μ → g (h a) (wipeD η vs) μ fun η2 μ2 => tt η2 μ2 (fun b μ3 => if b = true then te η2 μ3 (fun ev μ4 => withDat μ4 ev fun d μ5 => Inv (i + 1) (acc ++ [d]) (μ5.take μ1.length)) EF else Inv (i + 1) acc (μ3.take μ1.length)) EF)
    (hd : ∀ acc μ, Inv as.length acc μ → q (.new acc) μ) : LcG g tt te vs η q (as.map h) G μ1 := by
  refine ⟨by rw [List.length_map]; exact hz, Inv, h0, hG, fun i e acc μ hi iv => ?_, fun acc μ iv => hd acc μ (by rw [List.length_map] at iv; exact iv)⟩
  obtain ⟨a, ha, rfl⟩ : ∃ a, as[i]? = some a ∧ e = h a := by
    rw [List.getElem?_map] at hi
    cases q : as[i]? with
    | none => rw [q] at hi; cases hi
    | some a => rw [q] at hi; exact ⟨a, rfl, (Option.some.inj hi).symm⟩
  exact hs i a acc μ ha iv
theorem map_get {α β : Type} {as : List α} {h : α → β} {i : Nat} {e : β} (x : (as.map h)[i]? = some e) : ∃ a, as[i]? = some a ∧ e = h a := by
  rw [List.getElem?_map] at x
  cases q : as[i]? with
  | none => rw [q] at x; cases x
  | some a => rw [q] at x; exact ⟨a, rfl, (Option.some.inj x).symm⟩
theorem get_lt {α : Type} {as : List α} {i : Nat} {a : α} (x : as[i]? = some a) : i < as.length := (List.getElem?_eq_some_iff.mp x).1
/-! ### the law's drawing -/
/-- a drawing state at n -/
def StAt (μ : Mu) (n : Nat) : Prop := ∃ a b : Int, μ[n]? = some (.lst [.int a, .int b]) ∧ 0 ≤ a ∧ a < 2147483648
/-- drawn from -/
def Stp (μ : Mu) (n : Nat) (μ' : Mu) : Prop := ∃ a b : Int, μ' = μ.set n (.lst [.int a, .int b]) ∧ 0 ≤ a ∧ a < 2147483648
theorem StAt.lt {μ : Mu} {n : Nat} (h : StAt μ n) : n < μ.length := let ⟨_, _, e, _⟩ := h; get_lt e
theorem Stp.len {μ μ' : Mu} {n : Nat} (h : Stp μ n μ') : μ'.length = μ.length := by
  obtain ⟨a, b, rfl, _⟩ := h
  exact List.length_set
theorem Stp.at {μ μ' : Mu} {n : Nat} (h : Stp μ n μ') (s : StAt μ n) : StAt μ' n := by
  have hl := s.lt
  obtain ⟨a, b, rfl, h1, h2⟩ := h
  exact ⟨a, b, by rw [List.getElem?_set_self hl], h1, h2⟩
theorem Stp.trans {μ μ1 μ2 : Mu} {n : Nat} (h : Stp μ n μ1) (h' : Stp μ1 n μ2) : Stp μ n μ2 := by
  obtain ⟨a, b, rfl, h1, h2⟩ := h
  obtain ⟨a', b', rfl, h3, h4⟩ := h'
  exact ⟨a', b', List.set_set .., h3, h4⟩
theorem Stp.take {μ μ' : Mu} {n : Nat} (h : Stp μ n μ') : μ'.take μ.length = μ' := by
  rw [← h.len]
  exact List.take_length
theorem pick {α : Type} {xs : List α} {r : Int} (h0 : 0 ≤ r) (h1 : r < xs.length) : ∃ d, xs[r.toNat]? = some d ∧ d ∈ xs := by
  have h : r.toNat < xs.length := by omega
  exact ⟨xs[r.toNat], List.getElem?_eq_getElem h, List.getElem_mem h⟩
def sp_cell : SpD := fun es μ q _ => ∃ (ns : List Int) (k : Int), es = [.ro (ns.map .int), .dat (.int k)] ∧ 0 ≤ k ∧ k ≤ 1000 ∧ ns.length ≤ 63 ∧ ∀ r : Int, q (.dat (.int r)) μ
def sp_state : SpD := fun es μ q _ => ∃ c k : Int, es = [.dat (.int c), .dat (.int k)] ∧ 0 ≤ k ∧ k ≤ 1000 ∧ ∀ a b : Int, 0 ≤ a → a < 2147483648 → q (.new [.int a, .int b]) μ
def sp_next : SpD := fun es μ q _ => ∃ (n : Nat) (k : Int), es = [.loc n, .dat (.int k)] ∧ StAt μ n ∧ 0 < k ∧ k < 1073741824 ∧ ∀ (r : Int) (μ' : Mu), 0 ≤ r → r < k → Stp μ n μ' → q (.dat (.int r)) μ'
end DL
set_option Elab.async false
set_option linter.all false
set_option maxRecDepth 100000
set_option maxHeartbeats 4000000
namespace DL
open PySem L2 PyProof.Rows
/-! ### words for proofs over data readings -/
/-- an old reading -/
def oldK (q : PQ) : PQ := fun e μ => match e with
  | .new _ => False
  | .newd _ => False
  | .newk _ => False
  | .newo _ => False
  | e => q e μ
theorem old_dat {q : PQ} {d : PyData} {μ : Mu} : oldK q (.dat d) μ = q (.dat d) μ := Eq.trans rfl rfl
theorem old_loc {q : PQ} {d : Nat} {μ : Mu} : oldK q (.loc d) μ = q (.loc d) μ := Eq.trans rfl rfl
theorem old_exc {q : PQ} {d : Exn} {μ : Mu} : oldK q (.exc d) μ = q (.exc d) μ := Eq.trans rfl rfl
theorem old_ro {q : PQ} {d : List PyData} {μ : Mu} : oldK q (.ro d) μ = q (.ro d) μ := Eq.trans rfl rfl
theorem dVar_0 {v : EV} {η : DEnv} {μ : Mu} {q : PQ} {E : XQ} : dVar 0 (some v :: η) μ q E = oldK q v μ := by
  cases v <;> rfl
theorem dVar_1 {a0 : Option EV} {v : EV} {η : DEnv} {μ : Mu} {q : PQ} {E : XQ} : dVar 1 (a0 :: some v :: η) μ q E = oldK q v μ := by
  cases v <;> rfl
theorem dVar_2 {a0 a1 : Option EV} {v : EV} {η : DEnv} {μ : Mu} {q : PQ} {E : XQ} : dVar 2 (a0 :: a1 :: some v :: η) μ q E = oldK q v μ := by
  cases v <;> rfl
theorem dVar_3 {a0 a1 a2 : Option EV} {v : EV} {η : DEnv} {μ : Mu} {q : PQ} {E : XQ} : dVar 3 (a0 :: a1 :: a2 :: some v :: η) μ q E = oldK q v μ := by
  cases v <;> rfl
theorem dVar_4 {a0 a1 a2 a3 : Option EV} {v : EV} {η : DEnv} {μ : Mu} {q : PQ} {E : XQ} : dVar 4 (a0 :: a1 :: a2 :: a3 :: some v :: η) μ q E = oldK q v μ := by
  cases v <;> rfl
theorem dVar_5 {a0 a1 a2 a3 a4 : Option EV} {v : EV} {η : DEnv} {μ : Mu} {q : PQ} {E : XQ} : dVar 5 (a0 :: a1 :: a2 :: a3 :: a4 :: some v :: η) μ q E = oldK q v μ := by
  cases v <;> rfl
theorem dVar_6 {a0 a1 a2 a3 a4 a5 : Option EV} {v : EV} {η : DEnv} {μ : Mu} {q : PQ} {E : XQ} : dVar 6 (a0 :: a1 :: a2 :: a3 :: a4 :: a5 :: some v :: η) μ q E = oldK q v μ := by
  cases v <;> rfl
theorem dVar_7 {a0 a1 a2 a3 a4 a5 a6 : Option EV} {v : EV} {η : DEnv} {μ : Mu} {q : PQ} {E : XQ} : dVar 7 (a0 :: a1 :: a2 :: a3 :: a4 :: a5 :: a6 :: some v :: η) μ q E = oldK q v μ := by
  cases v <;> rfl
theorem dVar_8 {a0 a1 a2 a3 a4 a5 a6 a7 : Option EV} {v : EV} {η : DEnv} {μ : Mu} {q : PQ} {E : XQ} : dVar 8 (a0 :: a1 :: a2 :: a3 :: a4 :: a5 :: a6 :: a7 :: some v :: η) μ q E = oldK q v μ := by
  cases v <;> rfl
theorem dVar_9 {a0 a1 a2 a3 a4 a5 a6 a7 a8 : Option EV} {v : EV} {η : DEnv} {μ : Mu} {q : PQ} {E : XQ} : dVar 9 (a0 :: a1 :: a2 :: a3 :: a4 :: a5 :: a6 :: a7 :: a8 :: some v :: η) μ q E = oldK q v μ := by
  cases v <;> rfl
theorem wDs_nil {k : List PyData → Prop} : withDats [] k = k [] := by simp [withDats, datsOf]
theorem wDs_cons {d : PyData} {es : List EV} {k : List PyData → Prop} : withDats (.dat d :: es) k = withDats es fun ds => k (d :: ds) := by
  have h : datsOf (.dat d :: es) = (datsOf es).map (d :: ·) := Eq.trans rfl rfl
  unfold withDats
  rw [h]
  cases datsOf es <;> rfl
theorem x_dC {d : PyData} {η : DEnv} {μ : Mu} {q : PQ} {E : XQ} : dC d η μ q E = q (.dat d) μ := Eq.trans rfl rfl
theorem x_dRaw {v : V} {η : DEnv} {μ : Mu} {q : PQ} {E : XQ} : dRaw v η μ q E = q (.raw v) μ := Eq.trans rfl rfl
theorem x_dFrz {t : TDE} {η : DEnv} {μ : Mu} {q : PQ} {E : XQ} : dFrz t η μ q E = t η μ (fun e μ1 => withDat μ1 e fun d μ2 => q (.dat d) μ2) E := Eq.trans rfl rfl
theorem x_dCell {t : TDE} {η : DEnv} {μ : Mu} {q : PQ} {E : XQ} : dCell t η μ q E = t η μ (cellK q) E := Eq.trans rfl rfl
theorem x_dStl {t : TDE} {η : DEnv} {μ : Mu} {q : PQ} {E : XQ} : dStl t η μ q E = t η μ (stlK q) E := Eq.trans rfl rfl
theorem x_aNil  {η : DEnv} {μ : Mu} {q : List EV → Mu → Prop} {E : XQ} : aNil η μ q E = q [] μ := Eq.trans rfl rfl
theorem x_aCons {t : TDE} {u : TDA} {η : DEnv} {μ : Mu} {q : List EV → Mu → Prop} {E : XQ} : aCons t u η μ q E = t η μ (fun e μ1 => u η μ1 (fun es μ2 => q (e :: es) μ2) E) E := Eq.trans rfl rfl
theorem x_dLst {t : TDA} {η : DEnv} {μ : Mu} {q : PQ} {E : XQ} : dLst t η μ q E = t η μ (fun es μ1 => withDats es fun ds => ds.length ≤ 100000 ∧ q (.new ds) μ1) E := Eq.trans rfl rfl
theorem x_dTup {t : TDA} {η : DEnv} {μ : Mu} {q : PQ} {E : XQ} : dTup t η μ q E = t η μ (fun es μ1 => withDats es fun ds => ds.length ≤ 100000 ∧ q (.dat (.tuple ds)) μ1) E := Eq.trans rfl rfl
theorem x_tVal {t : TDE} {η : DEnv} {μ : Mu} {q : Bool → Mu → Prop} {E : XQ} : tVal t η μ q E = t η μ (fun e μ1 => withB e fun b => q b μ1) E := Eq.trans rfl rfl
theorem x_tOrD {t u : TDT} {η : DEnv} {μ : Mu} {q : Bool → Mu → Prop} {E : XQ} : tOrD t u η μ q E = t η μ (fun b μ1 => if b = true then q true μ1 else u η μ1 q E) E := Eq.trans rfl rfl
theorem x_tNotD {t : TDT} {η : DEnv} {μ : Mu} {q : Bool → Mu → Prop} {E : XQ} : tNotD t η μ q E = t η μ (fun b μ1 => q (!b) μ1) E := Eq.trans rfl rfl
theorem x_dAndV {t u : TDE} {η : DEnv} {μ : Mu} {q : PQ} {E : XQ} : dAndV t u η μ q E = t η μ (fun e μ1 => withB e fun b => if b = true then u η μ1 q E else q (.dat (.bool false)) μ1) E := Eq.trans rfl rfl
theorem x_dNotV {t : TDE} {η : DEnv} {μ : Mu} {q : PQ} {E : XQ} : dNotV t η μ q E = t η μ (fun e μ1 => withB e fun b => q (.dat (.bool (!b))) μ1) E := Eq.trans rfl rfl
theorem x_dOp {o : OD} {ta tb : TDE} {η : DEnv} {μ : Mu} {q : PQ} {E : XQ} : dOp o ta tb η μ q E = ta η μ (fun x μ1 => tb η μ1 (fun y μ2 => o x y μ2 q) E) E := Eq.trans rfl rfl
theorem x_dUn {o : UD} {ta : TDE} {η : DEnv} {μ : Mu} {q : PQ} {E : XQ} : dUn o ta η μ q E = ta η μ (fun x μ1 => o x μ1 q) E := Eq.trans rfl rfl
theorem x_dCB {o : CD} {t : TDA} {η : DEnv} {μ : Mu} {q : PQ} {E : XQ} : dCB o t η μ q E = t η μ (fun es μ1 => o es μ1 q) E := Eq.trans rfl rfl
theorem x_dChain {o o' : OD} {ta tb tc : TDE} {η : DEnv} {μ : Mu} {q : PQ} {E : XQ} : dChain o o' ta tb tc η μ q E = ta η μ (fun x μ1 => tb η μ1 (fun y μ2 => noNew x = true ∧ noNew y = true ∧ o x y μ2 fun z μ3 => withB z fun k => if k = true then tc η μ3 (fun w μ4 => o' y w μ4 q) E else q (.dat (.bool false)) μ3) E) E := Eq.trans rfl rfl
def intK (k : Int → Prop) (e : EV) : Prop := match e with
  | .dat (.int i) => k i
  | _ => False
theorem intK_i {k : Int → Prop} {i : Int} : intK k (.dat (.int i)) = k i := Eq.trans rfl rfl
theorem x_oNo  {η : DEnv} {μ : Mu} {q : Option Int → Mu → Prop} {E : XQ} : oNo η μ q E = q none μ := Eq.trans rfl rfl
theorem x_oSome {t : TDE} {η : DEnv} {μ : Mu} {q : Option Int → Mu → Prop} {E : XQ} : oSome t η μ q E = t η μ (fun e μ1 => intK (fun i => q (some i) μ1) e) E := Eq.trans rfl rfl
theorem x_dSl {o : SD} {te : TDE} {tl th : TDO} {η : DEnv} {μ : Mu} {q : PQ} {E : XQ} : dSl o te tl th η μ q E = te η μ (fun x μ1 => tl η μ1 (fun l μ2 => th η μ2 (fun h μ3 => o x l h μ3 q) E) E) E := Eq.trans rfl rfl
theorem x_gNm {i : Nat} {e : EV} {η : DEnv} {μ : Mu} {q : DEnv → Mu → Prop} : gNm i e η μ q = (noNew e = true ∧ q (η.set i (some e)) μ) := Eq.trans rfl rfl
theorem x_gNl0  {η : DEnv} {μ : Mu} {q : DEnv → Mu → Prop} : gNl [] η μ q = q η μ := by
  simp [gNl]
theorem x_gCn {t : TDG} {u : TDGs} {d : PyData} {r : List PyData} {η : DEnv} {μ : Mu} {q : DEnv → Mu → Prop} : gCn t u (d :: r) η μ q = t (.dat d) η μ (fun η' μ' => u r η' μ' q) := Eq.trans rfl rfl
theorem x_gTp {n : Nat} {t : TDGs} {ds : List PyData} {η : DEnv} {μ : Mu} {q : DEnv → Mu → Prop} : gTp n t (.dat (.tuple ds)) η μ q = (ds.length = n ∧ t ds η μ q) := Eq.trans rfl rfl
theorem x_gSb {to ti : TDE} {o : SetD} {e : EV} {η : DEnv} {μ : Mu} {q : DEnv → Mu → Prop} : gSb to ti o e η μ q = to η μ (fun x μ1 => ti η μ1 (fun y μ2 => o x y e μ2 fun μ3 => q η μ3) fun _ _ => False) fun _ _ => False := Eq.trans rfl rfl
theorem x_dCall {n : Nat} {sp : SpD} {des : List EV} {t : TDA} {η : DEnv} {μ : Mu} {q : PQ} {E : XQ} : dCall n sp des t η μ q E = t η μ (fun es μ1 => allOld es = true ∧ (es ++ des).length = n ∧ sp (es ++ des) μ1 q E) E := Eq.trans rfl rfl
abbrev RI := List EV → (Mu → Prop) → Mu → Prop
def seqK (r : RI) (e : EV) (μ1 : Mu) : Prop := match e with
  | .loc n => match μ1[n]? with
    | some (.lst xs) => r (xs.map .dat) (fun μ => μ[n]? = some (.lst xs) ∨ μ[n]? = some (.frz xs)) μ1
    | some (.frz xs) => r (xs.map .dat) (fun _ => True) μ1
    | _ => False
  | .dat (.tuple xs) => r (xs.map .dat) (fun _ => True) μ1
  | .dat (.list xs) => r (xs.map .dat) (fun _ => True) μ1
  | .new xs => r (xs.map .dat) (fun _ => True) μ1
  | .dat (.str z) => r (z.cps.toList.map fun c => .dat (.str ⟨#[c]⟩)) (fun _ => True) μ1
  | .ro xs => r (xs.map .dat) (fun _ => True) μ1
  | _ => False
theorem seqK_str {r : RI} {z : Str} {μ : Mu} : seqK r (.dat (.str z)) μ = r (z.cps.toList.map fun c => .dat (.str ⟨#[c]⟩)) (fun _ => True) μ := Eq.trans rfl rfl
def rng1K (r : RI) (es : List EV) (μ1 : Mu) : Prop := match es with
  | [.dat (.int j)] => (-1000000 ≤ j ∧ j ≤ 1000000) ∧ r (rngItems 0 j.toNat) (fun _ => True) μ1
  | _ => False
theorem rng1_i {r : RI} {j : Int} {μ : Mu} : rng1K r [.dat (.int j)] μ = ((-1000000 ≤ j ∧ j ≤ 1000000) ∧ r (rngItems 0 j.toNat) (fun _ => True) μ) := Eq.trans rfl rfl
theorem x_iRange1 {t : TDA} {η : DEnv} {μ : Mu} {r : RI} {E : XQ} : iRange1 t η μ r E = t η μ (fun es μ1 => rng1K r es μ1) E := Eq.trans rfl rfl
theorem x_dBM {ty : EV → Mu → Prop} {o : MD} {to : TDE} {t : TDA} {η : DEnv} {μ : Mu} {q : PQ} {E : XQ} : dBM ty o to t η μ q E = to η μ (fun x μ1 => ty x μ1 ∧ t η μ1 (fun es μ2 => o x es μ2 q) E) E := Eq.trans rfl rfl
def boolsK (ds : List PyData) (k : List Bool → Prop) : Prop := match boolsOf ds with
  | some bs => k bs
  | none => False
theorem bools_k {bs : List Bool} {k : List Bool → Prop} : boolsK (bs.map .bool) k = k bs := by simp [boolsK, bools_map]
def lstK (μ : Mu) (e : EV) (k : List PyData → Prop) : Prop := match lstOf μ e with
  | some ds => k ds
  | none => False
def sqK (μ : Mu) (e : EV) (k : List PyData → Prop) : Prop := match seqOf μ e with
  | some ds => k ds
  | none => False
theorem lstK_new {xs : List PyData} {k : List PyData → Prop} {μ : Mu} : lstK μ (.new xs) k = k xs := Eq.trans rfl rfl
theorem sqK_lst {xs : List PyData} {k : List PyData → Prop} {μ : Mu} : sqK μ (.dat (.list xs)) k = k xs := Eq.trans rfl rfl
theorem sqK_new {xs : List PyData} {k : List PyData → Prop} {μ : Mu} : sqK μ (.new xs) k = k xs := Eq.trans rfl rfl
theorem x_oAll {f : List Bool → Bool} {e : EV} {μ : Mu} {q : PQ} : oAll f [e] μ q = lstK μ e fun ds => boolsK ds fun bs => q (.dat (.bool (f bs))) μ := Eq.trans rfl rfl
theorem x_oTuple {e : EV} {μ : Mu} {q : PQ} : oTuple [e] μ q = sqK μ e fun ds => q (.dat (.tuple ds)) μ := Eq.trans rfl rfl
theorem x_oIsN {x y : EV} {μ : Mu} {q : PQ} : oIsN x y μ q = (isRaw x = false ∧ isNon y = true ∧ q (.dat (.bool (isNon x))) μ) := Eq.trans rfl rfl
theorem x_oNotN {x y : EV} {μ : Mu} {q : PQ} : oNotN x y μ q = (isRaw x = false ∧ isNon y = true ∧ q (.dat (.bool (!isNon x))) μ) := Eq.trans rfl rfl
theorem x_lc {ti : TDI} {g : TDG} {tt : TDT} {te : TDE} {vs : List Nat} {η : DEnv} {μ : Mu} {q : PQ} {E : XQ} : dLc ti g tt te vs η μ q E = ti η μ (LcG g tt te vs η q) E := Eq.trans rfl rfl
theorem cl_nil {N : Nat} : clean N [] = [] := Eq.trans rfl rfl
theorem cl_none {N : Nat} {η : DEnv} : clean N (none :: η) = none :: clean N η := Eq.trans rfl rfl
theorem cl_dat {N : Nat} {η : DEnv} {d : PyData} : clean N (some (.dat d) :: η) = some (.dat d) :: clean N η := Eq.trans rfl rfl
theorem cl_ro {N : Nat} {η : DEnv} {d : List PyData} : clean N (some (.ro d) :: η) = some (.ro d) :: clean N η := Eq.trans rfl rfl
theorem cl_loc {N n : Nat} {η : DEnv} (h : n < N) : clean N (some (.loc n) :: η) = some (.loc n) :: clean N η := by simp [clean, h]
/-- a law's call throws nothing -/
theorem cx_no {P : Program} {w : World} {o : List Env} {H : Hp} {s s' : Shared} {e : Value} (x : L2.CX P w o H s (fun _ _ _ => False) e s') : False := by
  obtain ⟨_, _, _, _, _, _, _, _, _, _, _, _, z⟩ := x
  exact z
end DL
set_option Elab.async false
set_option linter.all false
set_option maxRecDepth 100000
set_option maxHeartbeats 4000000
namespace DL
open PySem PySem.Spec PyProof.Rows L2
/-! ### exceptions: raised, caught, kept -/
section
variable {X : Cx} {pins : List (Addr × Obj)} {σ : L2.St} {H : Hp} {sI s' : Shared} {B : Heap}
/-- back on the ground, the exception's object tracked from now on -/
theorem landedK (I : Inv X pins σ H sI) (nb : ∀ b o, sI.heap.get? b = some o → b ∉ frs X.stack → B.get? b = some o) (st : B.StaysIn s'.heap) (up : sI.heap.UpToSlots s'.heap) (os : s'.os = sI.os) (ag : AllBare s'.gens)
    {a : Addr} {oe : Obj} {vs : Array Value} {cls : Value} {d : Option Addr} (hB : B.get? a = none) (na : H a = none) (nfr : a ∉ frs X.stack) (he : s'.heap.get? a = some oe) (hz : Zc cls d oe) (hd : oe.data = .fields vs) :
    Inv X pins σ (upd H a (excO a cls d)) s' := by
  have ha : sI.heap.get? a = none := by
    cases q : sI.heap.get? a with
    | none => rfl
    | some o => rw [nb a o q nfr] at hB; cases hB
  have nf : ∀ b ∈ frs X.stack, ∀ o, sI.heap.get? b = some o → ∃ sl, s'.heap.get? b = some { o with slots := sl } := fun b hb o e => by
    obtain ⟨_, o', e', hd⟩ := I.stack.mem hb
    rw [e] at e'; cases e'
    exact up b o e hd
  have ne : ∀ b o, sI.heap.get? b = some o → b ≠ a := fun b o e z => by rw [z, ha] at e; cases e
  have G : HOk X.prog X.w H s'.heap := (I.inGround nb).kept st
  have same : ∀ b u, H b = some u → upd H a (excO a cls d) b = some u := fun b u q => by rw [upd_ne (ne_of_none q na)]; exact q
  have J := I.call (ch := []) (h' := s'.heap) (g' := s'.gens) (t' := s'.toks) (d' := s'.drawn) (H' := upd H a (excO a cls d))
    ⟨fun b o e _ hb _ => st b o (nb b o e hb), fun b o e _ hb _ => nf b hb o e, fun b o e n _ => by rw [upd_ne (ne b o e)]; exact n, fun b o e _ => by
      by_cases hb : b ∈ frs X.stack
      · obtain ⟨sl, q⟩ := nf b hb o e
        exact ⟨_, q⟩
      · exact ⟨o, st b o (nb b o e hb)⟩, fun b xs e => same b _ e, fun b o u e => same b _ e, fun b ps e => ⟨#[], by rw [same b _ e]; simp⟩⟩
    (fun b u e => by
      by_cases hb : b = a
      · subst hb
        rw [upd_same] at e
        cases e
        exact ⟨⟨oe, vs, he, hz, hd⟩, ⟨oe, he⟩, fun h1 h2 ⟨o, ws, q, z⟩ k => ⟨o, ws, k o q, z⟩⟩
      · rw [upd_ne hb] at e
        exact (G b u e).stay (fun c v _ q => q) (fun c q => same c _ q) fun c xs q => same c _ q) ag (fun _ z => nomatch z)
  obtain ⟨a1, a2, a3, a4, a5⟩ := s'
  have e5 : a5 = sI.os := os
  subst e5
  exact J
theorem unsuiteK {a : Addr} (I : Inv (X.suite a (X.pn ++ pins)) [] σ H sI) (ok : X.Ok) : Inv X pins σ H sI :=
  ⟨ok, I.os, I.bare, I.base, I.loc, I.cell, I.free, I.freeC, fun p hp => I.pin p (by rw [List.append_nil]; exact hp), I.hok, I.len⟩
theorem suiteK {a : Addr} (I : Inv X pins σ H sI) : Inv (X.suite a (X.pn ++ pins)) [] σ H sI :=
  ⟨I.ok.suite _ _, I.os, I.bare, I.base, I.loc, I.cell, I.free, I.freeC, fun p hp => I.pin p (by rw [List.append_nil] at hp; exact hp), I.hok, I.len⟩
end
/-- what 'except x as n' wishes, the exception kept -/
def wKeep (K : PySem.W.Frag) (c : Value) (i : Nat) (ts : Addr → Value → Option Addr → TS) (Wout : WX) (D : Ends) : WX := fun cls d σ H =>
  ∃ b, PySem.W.exmOne K cls c = some b ∧ (b = true → ∀ a, H a = none → ts a cls d { nx := fun σ' H' => D.nx (σ'.set i none) H', rt := D.rt, bk := fun σ' H' => D.bk (σ'.set i none) H', ct := fun σ' H' => D.ct (σ'.set i none) H' } (σ.set i (some (.ref a))) (upd H a (excO a cls d))) ∧
    (b = false → Wout cls d σ H)
section
variable {X : Cx} {x n : Str} {c : Value} {i : Nat} {body suite : List Stmt} {b₀ : Stmt} {np pos pos' : Pos} {tb : WX → TS} {ts : Addr → Value → Option Addr → TS} {Wout : WX}
/-- out of a try's body, nothing raised -/
theorem outTry {pins : List (Addr × Obj)} {xe : Value → Shared → Prop} {D : Ends} {f : Flow} {s : Shared} (ok : X.Ok) (h : SP (X.tr (X.pn ++ pins) xe) [] D f s) : SP X pins D f s := by
  cases f <;> (try obtain ⟨u, t, r, I, j, k⟩ := h) <;> first
    | exact ⟨u, t, r, I.ofTry ok, j, k⟩
    | (obtain ⟨t, r, I, k⟩ := h; exact ⟨t, r, I.ofTry ok, k⟩)
/-- out of an except suite: the clause's name goes -/
theorem outSuite {pins : List (Addr × Obj)} {a : Addr} {D : Ends} {f : Flow} {s : Shared} (ok : X.Ok) (hN : X.N.Nodup) (hi : X.N[i]? = some n) (hln : X.env.kindOf n = some .local)
    (h : SP (X.suite a (X.pn ++ pins)) [] { nx := fun σ' H' => D.nx (σ'.set i none) H', rt := D.rt, bk := fun σ' H' => D.bk (σ'.set i none) H', ct := fun σ' H' => D.ct (σ'.set i none) H' } f s) :
    wpAny (model X.prog X.w) X.A (do bindName X.env n .none; unbindBehindTheSuite X.env n pos') (fun _ s7 => SP X pins D f s7) X.xe s := by
  cases f with
  | ret u =>
    obtain ⟨v, t, r, I, j, k⟩ := h
    exact gone_ok (unsuiteK I ok) hN hi hln fun s7 J => ⟨v, _, r, J, j, k⟩
  | _ =>
    obtain ⟨t, r, I, k⟩ := h
    exact gone_ok (unsuiteK I ok) hN hi hln fun s7 J => ⟨_, r, J, k⟩
/-- no clause takes it: on it flies -/
theorem flyOn {pins : List (Addr × Obj)} {σ : L2.St} {H : Hp} {sI s : Shared} {B : Heap} {a : Addr} {cls : Value} {d : Option Addr} {R : Flow → Shared → Prop} (hs : X.stack = X.env :: X.outer) (hf : X.env.frame = some X.env.locals) (tk : Takes X Wout)
    (I : Inv X pins σ H sI) (nb : ∀ b o, sI.heap.get? b = some o → b ∉ frs X.stack → B.get? b = some o) (up : sI.heap.UpToSlots s.heap) (fl : HandSPX.FlyingZ B (X.env :: X.outer) a (Zc cls d) s.heap) (na : H a = none) (os : s.os = sI.os) (ag : AllBare s.gens) (w : Wout cls d σ H) :
    wpAny (model X.prog X.w) X.A (handleBy (.ref a) X.env []) R X.xe s := by
  have e : wpAny (model X.prog X.w) X.A (setFlight (.ref a) X.env.frame) (fun _ s4 => wpAny (model X.prog X.w) X.A (throw (.ref a) : Sem Flow) R X.xe s4) X.xe s := by
    rw [hf]
    exact HandSPX.setFlight_upZ fl fun h4 q up' => wpAny_throw (tk _ _ ⟨a, B, sI, pins, σ, H, cls, d, rfl, I, nb, up.trans up', .inr (.inr (by rw [hs]; exact q)), na, os, ag, w⟩)
  obtain ⟨_, _, _, oe, vs, T, _, _, he, _, hd, h1, _⟩ := id fl
  refine wpAny_handleBy_nil ?_
  unfold PySem.passOn
  refine wpAny_bind (wpAny_field he hd h1 ?_)
  rw [if_neg (by simp)]
  first | exact wpAny_bind (wpAny_pure (wpAny_bind e)) | exact wpAny_bind e
theorem ps_try_keep (hs : X.stack = X.env :: X.outer) (hf : X.env.frame = some X.env.locals) (hN : X.N.Nodup) (hi : X.N[i]? = some n) (hln : X.env.kindOf n = some .local) (hc : Names X x c) (tk : Takes X Wout)
    (body_ : ∀ (W : WX) (pn : List (Addr × Obj)) (xe : Value → Shared → Prop), Takes (X.tr pn xe) W → PassesOwn (model X.prog X.w) X.A X.env xe → PSs (X.tr pn xe) body (tb W))
    (suite_ : ∀ (a : Addr) (cls : Value) (d : Option Addr) (pn : List (Addr × Obj)), PSs (X.suite a pn) (b₀ :: suite) (ts a cls d)) :
    PS X (.Try body [.ExceptHandler (some (.Name x np)) (some n) (b₀ :: suite) pos'] [] [] pos) (fun D σ H => tb (wKeep X.K c i ts Wout D) D σ H) := by
  refine ⟨fun pins s σ H D I h => wpAny_Try_except ?_⟩
  have ok := I.ok
  have fr0 : X.A.frames = some (X.env :: X.outer) := hs ▸ ok.frames
  have p := (body_ (wKeep X.K c i ts Wout D) (X.pn ++ pins) (fun e t => wpAny (model X.prog X.w) X.A (noteFrame e X.env) (fun _ t2 => wpAny (model X.prog X.w) X.A (setFlight e none) (fun _ t3 =>
    wpAny (model X.prog X.w) X.A (handleBy e X.env [.ExceptHandler (some (.Name x np)) (some n) (b₀ :: suite) pos']) (SP X pins D) X.xe t3) X.xe t2) X.xe t) (fun u t caught => ?_) PassesOwn.looking).run [] s σ H D (I.toTry _) h
  · refine wpAny_mono p (fun f t hsp => ?_) fun _ _ z => z
    have q := outTry ok hsp
    cases f with
    | next => exact wpAny_execs_nil q
    | _ => exact q
  · obtain ⟨a, B, sI, pins', σ', H', cls, d, rfl, J0, nb, up, sky, na, os, ag, b, hb, yes, no⟩ := caught
    have J := J0.ofTry ok
    refine Sky.land Zc.steady fr0 hf (hs ▸ sky : Sky B (X.env :: X.outer) a (Zc cls d) X.env.locals t.heap) fun h3 fl3 up3 => ?_
    have J3 : Inv X pins σ' H' { t with heap := h3 } := J.landed nb fl3.1 (up.trans up3) os ag
    have S3 := suiteK (a := a) J3
    obtain ⟨oe3, vs3, he3, hz3, hd3⟩ := fl3.there
    have out : a ∉ frs X.stack := by
      rw [hs]
      intro hm
      obtain ⟨_, o', e', z⟩ := fl3.2.2.1.mem hm
      cases he3.symm.trans e'
      exact z _ hd3
    have LT : PySem.W.Looks (model X.prog X.w) h3 (typeOf (.ref a)) cls := fun A Q E s k q => wpAny_typeOf_ref (k _ _ he3) (hz3.1 ▸ q)
    have sees : ∀ {Q E : Value → Shared → Prop}, Q c { t with heap := h3 } → wpAny (model X.prog X.w) (X.A.mark (some (.ref a))) (eval (.Name x np) X.env) Q E { t with heap := h3 } := fun q =>
      match hc with
      | ⟨hg, hd, .inl hm⟩ => ld_glob (X := X.suite a (X.pn ++ pins)) S3 hg hm q hd
      | ⟨hg, hd, .inr ⟨hm, hv, ne⟩⟩ => ld_blt (X := X.suite a (X.pn ++ pins)) S3 hg hm hv q ne hd
    refine wpAny_handleBy_cons (codeAny_handlers_test (sees ((PySem.W.exm_one (M := model X.prog X.w) J3.kIn LT hb).here ?_))) (by intro z; cases z)
    cases b with
    | false => exact flyOn hs hf tk J nb (up.trans up3) fl3 na os ag (no rfl)
    | true =>
      refine codeAny_handlers_suite_as (HandSPX.lands_againZ fl3 fun h4 fl4 up4 => ?_)
      obtain ⟨oe4, vs4, he4, hz4, hd4⟩ := fl4.there
      have J4 : Inv X pins σ' (upd H' a (excO a cls d)) { t with heap := h4 } := landedK (s' := { t with heap := h4 }) J nb fl4.1 ((up.trans up3).trans up4) os ag fl3.2.1 na out he4 hz4 hd4
      refine store_ok (X := X.suite a (X.pn ++ pins)) (v := .ref a) (suiteK J4) hN hi (.inl hln) rfl (fun s5 S5 => ?_) (.inr hln)
      exact wpAny_mono ((suite_ a cls d (X.pn ++ pins)).run [] s5 _ _ _ S5 (yes rfl a na)) (fun f s6 hsp => outSuite ok hN hi hln hsp) fun _ _ z => z.elim
end
end DL
set_option Elab.async false
set_option linter.all false
set_option maxRecDepth 100000
set_option maxHeartbeats 4000000
namespace DL
open PySem PySem.Spec PyProof.Rows L2
section
variable {K : PySem.W.Frag} {s : Wd} {μ : Mu}
/-- the world that holds an exception's object too -/
def Wd.trk (s : Wd) (a : Addr) (o : HO) : Wd := { s with H := upd s.H a o, F := upd s.F a o }
theorem trk_ok {a : Addr} {o : HO} (R : Rep K s μ) (na : s.H a = none) : Rep K (s.trk a o) μ ∧ Ext s μ.length (s.trk a o) μ.length := by
  have fa : s.F a = none := by
    cases q : s.F a with
    | none => rfl
    | some u => rw [R.sub a u q] at na; cases na
  have eF : Same s.F (upd s.F a o) := fun b u q => by rw [upd_ne (ne_of_none q fa)]; exact q
  have eH : ∀ b u, s.H b = some u → upd s.H a o b = some u := fun b u q => by rw [upd_ne (ne_of_none q na)]; exact q
  refine ⟨R.of rfl (fun b u q => ?_) (fun n c q => ?_) (fun b h => upd_live h) (R.beside eF fun n b hn hb => keeps_putF fun z => R.live n b hn hb (z ▸ na)), ⟨eF, fun _ _ => rfl, Nat.le_refl _, fun b u q _ => eH b u q, fun b h1 _ h3 _ => ?_, fun n h1 h2 => absurd h1 (Nat.not_le_of_lt h2), fun n a h1 h2 => .inr ⟨h1, h2⟩, fun b h => upd_live h⟩⟩
  · have q' : upd s.F a o b = some u := q
    show upd s.H a o b = some u
    by_cases hb : b = a
    · subst hb
      rw [upd_same] at q' ⊢
      exact q'
    · rw [upd_ne hb] at q' ⊢
      exact R.sub b u q'
  · have C := R.cell n c q
    have hn : s.L n ≠ a := fun e => R.here (List.getElem?_eq_some_iff.mp q).1 (by rw [e]; exact na)
    cases c with
    | lst xs =>
      obtain ⟨h1, ws, h2, h3⟩ := C
      exact ⟨(upd_ne hn).trans h1, ws, eH _ _ h2, h3.mono eF⟩
    | frz xs =>
      obtain ⟨ws, h2, h3⟩ := C
      exact ⟨ws, eF _ _ h2, h3.mono eF⟩
    | dct kvs =>
      obtain ⟨h1, ks, h2, h3, h4⟩ := C
      exact ⟨(upd_ne hn).trans h1, ks, eH _ _ h2, h3, h4.mono eF⟩
    | dck kvs =>
      obtain ⟨h1, ks, h2, h3, h4⟩ := C
      exact ⟨(upd_ne hn).trans h1, ks, eH _ _ h2, h3, h4.mono eF⟩
    | abs P =>
      obtain ⟨xs, hP, h1, ws, h2, h3⟩ := C
      exact ⟨xs, hP, (upd_ne hn).trans h1, ws, eH _ _ h2, h3.mono eF⟩
    | tab P nm => exact ⟨C.1, C.2.to eF ((upd_ne hn).trans C.2.nf) fun _ z => eH _ _ z⟩
    | own t => exact upd_live C
    | dead => exact upd_live C
  · show upd s.F a o b = none
    have : b ≠ a := fun e => h3 (by rw [e]; exact na)
    rw [upd_ne this]
    exact h1
end
/-- a block that raises, if it does, with the slots as they were ahead of it -/
structure DSx (X : Cx) (W : WX) (st : List Stmt) (td : TDS) : Prop where
  ex : ∃ t : TS, PSs X st t ∧ ∀ (s : Wd) (σ : L2.St) (η : DEnv) (μ : Mu) (D : Ends) (d : DEnds) (E : XQ), Sit X.K s μ σ η → td d E η μ → LS X.K s μ.length d EF D W → LX X.K s μ.length σ E W → t D σ s.H
def upS (K : PySem.W.Frag) (W : WX) (td : TDS) : TS := fun D σ H => ∃ (s : Wd) (η : DEnv) (μ : Mu) (d : DEnds) (E : XQ), s.H = H ∧ Sit K s μ σ η ∧ td d E η μ ∧ LS K s μ.length d EF D W ∧ LX K s μ.length σ E W
theorem up_dsx {X : Cx} {W : WX} {st : List Stmt} {td : TDS} (h : DSx X W st td) : PSs X st (upS X.K W td) := by
  obtain ⟨t, p, g⟩ := h.ex
  refine ⟨fun pins sh σ H D I hq => ?_⟩
  obtain ⟨s, η, μ, d, E, rfl, S, q, l, lx⟩ := hq
  exact p.run pins sh σ s.H D I (g s σ η μ D d E S q l lx)
theorem LS.none {K : PySem.W.Frag} {s : Wd} {N : Nat} {d : DEnds} {E : XQ} {D : Ends} {W W' : WX} (l : LS K s N d E D W) : LS K s N d EF D W' := ⟨l.nx, l.rt, l.bk, l.ct, fun _ _ _ _ _ _ z => z.elim⟩
def upN (K : PySem.W.Frag) (td : TDS) : TS := fun D σ H => ∃ (s : Wd) (η : DEnv) (μ : Mu) (d : DEnds), s.H = H ∧ Sit K s μ σ η ∧ td d EF η μ ∧ LS K s μ.length d EF D WF
theorem up_dss {X : Cx} {st : List Stmt} {td : TDS} (h : DSs X WF st td) : PSs X st (upN X.K td) := by
  obtain ⟨t, p, g⟩ := h.ex
  refine ⟨fun pins sh σ H D I hq => ?_⟩
  obtain ⟨s, η, μ, d, rfl, S, q, l⟩ := hq
  exact p.run pins sh σ s.H D I (g s σ η μ D d EF S q l)
section
variable {X : Cx} {W : WX} {e : Expr} {te : TDE} {pos : Pos}
theorem dsx_set {i : Nat} {x : Str} {pos' : Pos} (hN : X.N.Nodup) (hi : X.N[i]? = some x) (hx : Loc X.env.scope x) (he : DE X W e te) (hs : swapsWith e (some (.Name x pos')) pos.line X.env = pure false := by rfl) (hf : X.fn x = true ∨ X.env.scope.names.lookup x = some .local := by first | exact .inl rfl | exact .inr rfl | assumption) :
    DSx X W [.Assign [.Name x pos'] e pos] (sAsg te (gNm i)) := by
  obtain ⟨t1, p1, g1⟩ := he.ex
  refine ⟨_, pss_one (ps_set hN hi hx p1 hs hf), fun s σ η μ D d E S hq l lx => g1 s σ η μ _ _ E S hq (fun ev μ1 v s1 hk x R r f => ?_) lx⟩
  have S1 := S.go x R
  exact l.nx _ μ1 _ s1 hk.2 x ⟨R, S1.er.set i r⟩
end
/-- try: body, except C as n: suite; the exception stands in slot i -/
def sTry (K : PySem.W.Frag) (c : Value) (i : Nat) (tb ts : TDS) : TDS := fun d E η μ => tb d (fun x μ' => ∃ b, PySem.W.exmOne K (.ref x.c) c = some b ∧
  (b = true → ts { nx := fun η' μ2 => d.nx (η'.set i none) μ2, rt := d.rt, bk := fun η' μ2 => d.bk (η'.set i none) μ2, ct := fun η' μ2 => d.ct (η'.set i none) μ2 } EF (η.set i (some (.exc x))) μ') ∧ (b = false → E x μ')) η μ
section
variable {X : Cx} {W : WX} {x n : Str} {c : Value} {i : Nat} {body suite : List Stmt} {b₀ : Stmt} {np pos pos' : Pos} {tb ts : TDS}
theorem ds_try (hs : X.stack = X.env :: X.outer) (hf : X.env.frame = some X.env.locals) (hN : X.N.Nodup) (hi : X.N[i]? = some n) (hln : X.env.kindOf n = some .local) (hc : Names X x c) (tk : Takes X W)
    (hb : ∀ (W' : WX) (pn : List (Addr × Obj)) (xe : Value → Shared → Prop), Takes (X.tr pn xe) W' → PassesOwn (model X.prog X.w) X.A X.env xe → DSx (X.tr pn xe) W' body tb)
    (hsu : ∀ (a : Addr) (pn : List (Addr × Obj)), DSs (X.suite a pn) WF (b₀ :: suite) ts) :
    DS X W (.Try body [.ExceptHandler (some (.Name x np)) (some n) (b₀ :: suite) pos'] [] [] pos) (sTry X.K c i tb ts) := by
  refine ⟨_, ps_try_keep (tb := fun W' => upS X.K W' tb) (ts := fun _ _ _ => upN X.K ts) hs hf hN hi hln hc tk (fun W' pn xe tk' po => up_dsx (hb W' pn xe tk' po)) (fun a _ _ pn => up_dss (hsu a pn)), fun s σ η μ D d E S hq l => ?_⟩
  refine ⟨s, η, μ, d, _, rfl, S, hq, l.none, fun y μ' cls dd s' hE x' R r => ?_⟩
  obtain ⟨b, hb1, yes, no⟩ := hE
  obtain ⟨rfl, hr⟩ := id r
  refine ⟨b, hb1, fun h a na => ?_, fun h => l.xq y μ' _ dd σ s' (no h) x' R r⟩
  obtain ⟨R2, x2⟩ := trk_ok (o := excO a (.ref y.c) dd) R na
  have x3 := x'.trans x2 fun n hn => R.here hn
  have v : VR X.K (s'.trk a (excO a (.ref y.c) dd)) μ'.length (.ref a) (.exc y) := ⟨a, dd, rfl, upd_same, fun h => by
    rw [h] at hr
    cases dd with
    | none => rfl
    | some _ => exact hr.elim, fun fs h => by
    rw [h] at hr
    cases dd with
    | none => exact hr.elim
    | some e =>
      obtain ⟨ws, h1, h2, h3⟩ := hr
      exact ⟨e, ws, rfl, x2.f _ _ h1, h2, h3.mono x2.f⟩⟩
  have S2 : Sit X.K (s'.trk a (excO a (.ref y.c) dd)) μ' (σ.set i (some (.ref a))) (η.set i (some (.exc y))) := ⟨R2, (S.er.ext x3).set i v⟩
  have l2 := l.go x3 R2
  refine ⟨_, _, μ', _, rfl, S2, yes h, ⟨fun η' μ3 σ' s3 hk x4 S4 => ?_, l2.rt, fun η' μ3 σ' s3 hk x4 S4 => ?_, fun η' μ3 σ' s3 hk x4 S4 => ?_, fun _ _ _ _ _ _ z => z.elim⟩⟩
  · exact l2.nx _ μ3 _ s3 hk x4 ⟨S4.rep, S4.er.wipe1 i⟩
  · exact l2.bk _ μ3 _ s3 hk x4 ⟨S4.rep, S4.er.wipe1 i⟩
  · exact l2.ct _ μ3 _ s3 hk x4 ⟨S4.rep, S4.er.wipe1 i⟩
end
/-- raise C('m'), C without own __init__ -/
def sRaise (C : Addr) : TDS := fun _ E _ μ => E ⟨C, none⟩ μ
theorem ds_raise {X : Cx} {W : WX} {C : Addr} {bmB : List Value} {B newId initId : String} {x m : Str} {j : Nat} {p p2 pos pos' : Pos} (hc : X.calm = true) (tk : Takes X W) (F : ExcBaseFacts B newId initId bmB) (q : PySem.W.excIn X.K C bmB newId = true) (gC : X.mg x = some (.ref C)) (kC : PySem.W.keepIn X.K (.ref C) = true) (r : Raises X (.ref C)) (hg : Gl X x)
    (hdb : (x == ("__debug__" : Str)) = false := by decide) : DS X W (.Raise (some (.Call (.Name x p) [.Constant (.str m) j p2] [] pos)) none pos') (sRaise C) :=
  ⟨_, ps_raise hc tk (pmk_own F q gC kC r hg hdb), fun s σ η μ D d E S hq l => l.xq ⟨C, none⟩ μ (.ref C) none σ s hq (Ext.refl _ _) S.rep ⟨rfl, trivial⟩⟩
/-- isinstance of a caught one that is kept -/
def rIsK (K : PySem.W.Frag) : List V → Hp → VK → Prop := fun xs H Q => ∃ (a D : Addr) (c : V) (cv : Value) (b : Bool), xs = [.ref a, c] ∧ (H a = some (excO a (.ref D) none) ∨ ∃ dd fs, H a = some (excO a (.ref D) (some dd)) ∧ H dd = some (.xd fs)) ∧ ExcC K D ∧ (∀ u, RelV c u → u = cv) ∧ PySem.W.kitOne K (.ref D) cv = some b ∧ Q (.bl b) H
theorem call_isK {X : Cx} : CallR X (.builtin "isinstance") (rIsK X.K) := by
  intro pins s σ H xs us Q I r h
  obtain ⟨a, D, c, cv, b, rfl, hH, C, hcv, e, q⟩ := h
  cases r with
  | cons rx rr =>
    cases rr with
    | cons rt rr =>
      cases rr
      cases rx
      cases hcv _ rt
      rcases hH with hH | ⟨dd, fs, hH, hdd⟩
      case inr =>
        obtain ⟨⟨oe, vs, hget, hz, hv⟩, _, _⟩ := I.hok a _ hH
        have hx : ObjOk X.prog X.w H s.heap dd (.xd fs) := I.hok dd _ hdd
        obtain ⟨mA, hns, hr⟩ := hx
        obtain ⟨od, ho, hl⟩ := lookIn_ns hns
        have J : PySem.W.InstAt s.heap a oe D (some od) := ⟨hget, hz.1, by unfold PySem.W.notCls; rw [hv] <;> rfl, by rw [hz.2]; exact ho⟩
        obtain ⟨cd, hcd, _⟩ := PySem.W.any_some C.hd
        exact PySem.W.kia_one (PySem.W.kitx_exc (by rw [hcd]; rfl) C.hg C.hk C.hs C.ha C.hn C.ht C.hm) I.kIn J e (fun z => nomatch z) fun tk => ⟨.bl b, H, I.kept (t' := tk) fun _ _ z => z, rfl, q⟩
      obtain ⟨⟨oe, vs, hget, hz, hv⟩, _, _⟩ := I.hok a _ hH
      have J : PySem.W.InstAt s.heap a oe D none := by
        obtain ⟨oc, od, oda, osl⟩ := oe
        obtain ⟨h1, h2⟩ := hz
        dsimp only at h1 h2 hv
        subst h1 h2 hv
        exact ⟨hget, rfl, rfl, trivial⟩
      exact PySem.W.kia_one (PySem.W.handS_kitx_exc C.hg C.hk C.hs C.hd C.ha C.hn C.ht C.hm) I.kIn J e (fun z => nomatch z) fun tk => ⟨.bl b, H, I.kept (t' := tk) fun _ _ z => z, rfl, q⟩
/-- .. by data: the class is a value that is known -/
def oIsK (K : PySem.W.Frag) (D : Addr → Prop) : CD := fun es μ q => match es with
  | [.exc y, .raw v] => ExcC K y.c ∧ ∃ cv b, (∀ u, RelV v u → u = cv) ∧ PySem.W.kitOne K (.ref y.c) cv = some b ∧ q (.dat (.bool b)) μ
  | _ => False
theorem cs_isK {K : PySem.W.Frag} {D : Addr → Prop} : CallS K (rIsK K) (oIsK K D) := by
  intro s0 N0 s μ xs es q Q R xt r h l
  unfold oIsK at h
  split at h
  · rename_i y u
    obtain ⟨C, cv, b, h1, h2, hq⟩ := h
    cases r with
    | cons rx fx rr =>
      cases rr with
      | cons ry fy rr =>
        cases rr
        obtain ⟨a, d, rfl, e, hd, hd2⟩ := rx
        cases ry
        cases hf : y.fs with
        | none =>
          cases hd hf
          exact ⟨a, _, _, cv, b, rfl, .inl (R.sub _ _ e), C, h1, h2, l _ _ _ s hq xt R (.bl b) trivial⟩
        | some fs =>
          obtain ⟨dd, ws, rfl, g1, _, _⟩ := hd2 fs hf
          exact ⟨a, _, _, cv, b, rfl, .inr ⟨dd, ws, R.sub _ _ e, R.sub _ _ g1⟩, C, h1, h2, l _ _ _ s hq xt R (.bl b) trivial⟩
  · exact h.elim
end DL
set_option Elab.async false
set_option linter.all false
set_option maxRecDepth 100000
set_option maxHeartbeats 4000000
namespace DL
open PySem PySem.Spec PyProof.Rows L2
/-! ### in, sorted, int, classes as values -/
section
variable {X : Cx} {W : WX} {e : Expr} {te : TDE} {pos : Pos}
/-- a class of the program as a value -/
theorem de_gcls {x : Str} {C : Addr} (hm : X.mg x = some (.ref C)) (hg : Gl X x := by rfl) (hd : (x == ("__debug__" : Str)) = false := by decide) : DE X W (.Name x pos) (dRaw (.ref C)) := de_raw (pe_glob (v := .ref C) hg hm rfl hd)
end
/-- int(x) -/
def oInt : CD := fun es μ q => match es with
  | [.dat (.int i)] => q (.dat (.int i)) μ
  | [.dat (.bool b)] => q (.dat (.int (if b then 1 else 0))) μ
  | _ => False
theorem cs_int {K : PySem.W.Frag} : CallS K (fun xs H Q => (∃ i, xs = [.int i] ∧ Q (.int i) H) ∨ ∃ k, xs = [.bl k] ∧ Q (.int (if k then 1 else 0)) H) oInt := by
  intro s0 N0 s μ xs es q Q R xt r h l
  unfold oInt at h
  split at h
  · cases r with
    | cons rx fx rr =>
      cases rr
      cases (show DR K s.F _ (.int _) from rx)
      exact .inl ⟨_, rfl, ans R xt l h (.int _)⟩
  · cases r with
    | cons rx fx rr =>
      cases rr
      cases (show DR K s.F _ (.bool _) from rx)
      exact .inr ⟨_, rfl, ans R xt l h (.int _)⟩
  · exact h.elim
end DL
set_option Elab.async false
set_option linter.all false
set_option maxRecDepth 100000
set_option maxHeartbeats 4000000
namespace DL
open PySem L2 PyProof.Rows
section
variable {K : PySem.W.Frag} {c : Value} {C : Addr} {i : Nat} {tb ts v : TDS} {d : DEnds} {E : XQ} {η : DEnv} {μ : Mu} {q : PQ}
theorem s_raise (h : E ⟨C, none⟩ μ) : sRaise C d E η μ := h
theorem q_raise (h : E ⟨C, none⟩ μ) : sSeq (sRaise C) v d E η μ := h
theorem int_b {b : Bool} : oInt [.dat (.bool b)] μ q = q (.dat (.int (if b then 1 else 0))) μ := Eq.trans rfl rfl
theorem isK_e {D : Addr → Prop} {y : Exn} {u : V} : oIsK K D [.exc y, .raw u] μ q = (ExcC K y.c ∧ ∃ cv b, (∀ w, RelV u w → w = cv) ∧ PySem.W.kitOne K (.ref y.c) cv = some b ∧ q (.dat (.bool b)) μ) := Eq.trans rfl rfl
theorem rel_ref {C : Addr} : ∀ w, RelV (.ref C) w → w = .ref C := fun w h => by cases h; rfl
theorem rel_ty {z : String} : ∀ w, RelV (.ty z) w → w = .type z := fun w h => by cases h; rfl
theorem mul_ni {a : List PyData} {k : Int} : oMul (.new a) (.dat (.int k)) μ q = ((-1000 ≤ k ∧ k ≤ 1000 ∧ a.length ≤ 1000) ∧ q (.new (List.replicate k.toNat a).flatten) μ) := Eq.trans rfl rfl
end
/-- equality of data with itself -/
theorem bt_ValueError : bootBuiltins "ValueError" = some (.type "ValueError") := by decide +kernel
end DL
set_option Elab.async false
set_option linter.all false
set_option maxRecDepth 100000
set_option maxHeartbeats 4000000
namespace DL
open PySem L2 PyProof.Rows
/-! ### defs with defaults -/
section
variable {X : Cx} {W : WX} {x n : Str} {c : Value} {i : Nat} {body suite : List Stmt} {b₀ : Stmt} {np pos pos' : Pos} {tb ts : TDS}
theorem ds_tryK {K : PySem.W.Frag} (hK : X.K = K) (hs : X.stack = X.env :: X.outer) (hf : X.env.frame = some X.env.locals) (hN : X.N.Nodup) (hi : X.N[i]? = some n) (hln : X.env.kindOf n = some .local) (hc : Names X x c) (tk : Takes X W)
    (hb : ∀ (W' : WX) (pn : List (Addr × Obj)) (xe : Value → Shared → Prop), Takes (X.tr pn xe) W' → PassesOwn (model X.prog X.w) X.A X.env xe → DSx (X.tr pn xe) W' body tb)
    (hsu : ∀ (a : Addr) (pn : List (Addr × Obj)), DSs (X.suite a pn) WF (b₀ :: suite) ts) :
    DS X W (.Try body [.ExceptHandler (some (.Name x np)) (some n) (b₀ :: suite) pos'] [] [] pos) (sTry K c i tb ts) := by
  subst hK
  exact ds_try hs hf hN hi hln hc tk hb hsu
end
end DL
set_option Elab.async false
set_option linter.all false
set_option maxRecDepth 100000
set_option maxHeartbeats 4000000
namespace DL
open PySem L2 PyProof.Rows
/-! ### lists that are known by a property alone -/
section
variable {K : PySem.W.Frag} {s : Wd} {μ : Mu} {n : Nat} {P : List PyData → Prop} {xs : List PyData}
theorem Rep.cellSet (R : Rep K s μ) (c : Cell) (h : CellAt K s (s.L n) c) (ho : ∀ t, c ≠ .own t := by intro t z; cases z) : Rep K s (μ.set n c) :=
  R.of (by simp) R.sub (fun m c' q => by
    by_cases e : n = m
    · subst e
      by_cases hl : n < μ.length
      · rw [List.getElem?_set_self hl] at q
        cases q
        exact h
      · rw [List.getElem?_eq_none (by simpa using hl)] at q
        cases q
    · rw [List.getElem?_set_ne e] at q
      exact R.cell m c' q) (fun _ h => h) (fun m t q => by
    by_cases e : n = m
    · subst e
      by_cases hl : n < μ.length
      · rw [List.getElem?_set_self hl] at q
        cases q
        exact absurd rfl (ho t)
      · rw [List.getElem?_eq_none (by simpa using hl)] at q
        cases q
    · rw [List.getElem?_set_ne e] at q
      exact R.tree m t q)
theorem Rep.open (R : Rep K s μ) (h : μ[n]? = some (.abs P)) : ∃ xs, P xs ∧ Rep K s (μ.set n (.lst xs)) := by
  obtain ⟨xs, hP, c⟩ := R.cell n _ h
  exact ⟨xs, hP, R.cellSet (.lst xs) c⟩
theorem Rep.close (R : Rep K s μ) (h : μ[n]? = some (.lst xs)) (hP : P xs) : Rep K s (μ.set n (.abs P)) := R.cellSet (.abs P) ⟨xs, hP, R.cell n _ h⟩
theorem set_back {c c' : Cell} (h : μ[n]? = some c) : (μ.set n c').set n c = μ := by
  rw [List.set_set]
  obtain ⟨h1, h2⟩ := List.getElem?_eq_some_iff.mp h
  rw [← h2, List.set_getElem_self]
theorem spOf_abs {k : Nat} {spc spa : SpD} (h : ∀ es μ q x, spa es μ q x → ∃ n P, μ[n]? = some (.abs P) ∧ ∀ xs, P xs → spc es (μ.set n (.lst xs)) (fun e μ' => ∃ ys, P ys ∧ μ' = μ.set n (.lst ys) ∧ q e μ) (fun _ _ => False))
    {vs : List V} {H : Hp} {Q : VK} {E : XK} (hs : spOf K k spa vs H Q E) : spOf K k spc vs H Q E := by
  obtain ⟨hl, s, μ, es, q, x, rfl, R, hv, hsp, l, lx⟩ := hs
  obtain ⟨n, P, hn, hx⟩ := h es μ q x hsp
  obtain ⟨xs, hP, R'⟩ := R.open hn
  refine ⟨hl, s, μ.set n (.lst xs), es, _, _, rfl, R', by rw [List.length_set]; exact hv, hx xs hP, fun e μ' v s' hq x' R2 r f => ?_, fun _ _ _ _ _ z => z.elim⟩
  obtain ⟨ys, hP2, rfl, hq⟩ := hq
  have hlt := (List.getElem?_eq_some_iff.mp hn).1
  have R3 := R2.close (n := n) (xs := ys) (by rw [List.getElem?_set_self hlt]) hP2
  rw [set_back hn] at R3
  rw [List.length_set] at r
  rw [List.length_set, List.length_set] at x'
  exact l e μ v s' hq x' R3 r f
theorem DefAt.abs {Pr : Program} {w : World} {mg : Str → Option Value} {base : Heap} {x : Str} {k : Nat} {ps : List Str} {dvs : List V} {ds : List Value} {spc spa : SpD} (D : DefAt Pr w K mg base x k ps dvs ds spc)
    (h : ∀ es μ q x, spa es μ q x → ∃ n P, μ[n]? = some (.abs P) ∧ ∀ xs, P xs → spc es (μ.set n (.lst xs)) (fun e μ' => ∃ ys, P ys ∧ μ' = μ.set n (.lst ys) ∧ q e μ) (fun _ _ => False)) : DefAt Pr w K mg base x k ps dvs ds spa := by
  obtain ⟨f, fd, G, h1, h2, h3⟩ := D.ex
  exact ⟨⟨f, fd, G.imp fun vs H Q E hs => spOf_abs h hs, h1, h2, h3⟩, D.dv⟩
end
/-- a drawing state -/
def rngP (xs : List PyData) : Prop := ∃ a b : Int, xs = [.int a, .int b] ∧ 0 ≤ a ∧ a < 2147483648
def isR (μ : Mu) (n : Nat) : Prop := μ[n]? = some (.abs rngP)
theorem isR.lt {μ : Mu} {n : Nat} (h : isR μ n) : n < μ.length := get_lt h
theorem isR_app {μ ν : Mu} {n : Nat} (h : isR μ n) : isR (μ ++ ν) n = True := eq_true (by
  unfold isR
  rw [List.getElem?_append_left h.lt]
  exact h)
theorem isR_h {μ : Mu} {n : Nat} (h : isR μ n) : isR μ n = True := eq_true h
theorem isR_last {μ ν : Mu} : isR (μ ++ .abs rngP :: ν) μ.length = True := eq_true (by simp [isR])
def sp_nextA : SpD := fun es μ q _ => match es with
  | [.loc n, .dat (.int k)] => isR μ n ∧ 0 < k ∧ k < 1073741824 ∧ ∀ r : Int, 0 ≤ r → r < k → q (.dat (.int r)) μ
  | _ => False
theorem nextA_eq {n : Nat} {k : Int} {μ : Mu} {q : PQ} {x : XQ} : sp_nextA [.loc n, .dat (.int k)] μ q x = (isR μ n ∧ 0 < k ∧ k < 1073741824 ∧ ∀ r : Int, 0 ≤ r → r < k → q (.dat (.int r)) μ) := Eq.trans rfl rfl
theorem next_abs : ∀ es μ q x, sp_nextA es μ q x → ∃ n P, μ[n]? = some (.abs P) ∧ ∀ xs, P xs → sp_next es (μ.set n (.lst xs)) (fun e μ' => ∃ ys, P ys ∧ μ' = μ.set n (.lst ys) ∧ q e μ) (fun _ _ => False) := by
  intro es μ q x h
  unfold sp_nextA at h
  split at h
  · rename_i n k
    obtain ⟨hr, h0, h1, hq⟩ := h
    refine ⟨n, rngP, hr, fun xs hP => ?_⟩
    obtain ⟨a, b, rfl, ha, hb⟩ := hP
    refine ⟨n, k, rfl, ⟨a, b, List.getElem?_set_self hr.lt, ha, hb⟩, h0, h1, fun r μ' r0 r1 st => ?_⟩
    obtain ⟨a', b', rfl, ha', hb'⟩ := st
    exact ⟨_, ⟨a', b', rfl, ha', hb'⟩, by rw [List.set_set], hq r r0 r1⟩
  · exact h.elim
def cellAK (P : List PyData → Prop) (q : PQ) : PQ := fun e μ1 => match e with
  | .new xs => P xs ∧ q (.loc μ1.length) (μ1 ++ [.abs P])
  | _ => False
/-- a new list known by a property -/
def dCellA (P : List PyData → Prop) (t : TDE) : TDE := fun η μ q E => t η μ (cellAK P q) E
theorem sem_cellA {K : PySem.W.Frag} {W : WX} {P : List PyData → Prop} {t : TE} {td : TDE} (g : SemE K W t td) : SemE K W t (dCellA P td) := fun s σ η μ Q q E S hq l lx => g s σ η μ Q _ E S hq (fun e μ' v s' hk x R r f => by
  cases e with
  | new xs =>
    obtain ⟨hP, hk⟩ := hk
    obtain ⟨p, vs, rfl, h1, h2, h3, h4⟩ := r
    obtain ⟨a1, a2⟩ := cell_new R x h1 h2 h3 h4 (f p rfl)
    have a3 := a1.close (n := μ'.length) (xs := xs) (by simp) hP
    have e1 : (μ' ++ [Cell.lst xs]).set μ'.length (.abs P) = μ' ++ [.abs P] := by simp
    rw [e1] at a3
    have e2 : (μ' ++ [Cell.abs P]).length = (μ' ++ [Cell.lst xs]).length := by simp
    exact l (.loc μ'.length) _ _ (newL s' μ'.length p (· = p)) hk (by rw [e2]; exact a2) a3 ⟨by simp, by rw [newL_L]⟩ trivial
  | dat d => exact hk.elim
  | loc d => exact hk.elim
  | raw d => exact hk.elim
  | exc d => exact hk.elim
  | ro d => exact hk.elim
  | newd d => exact hk.elim
  | newk d => exact hk.elim
  | «at» _ _ _ => exact hk.elim
  | newo _ => exact hk.elim
  | per _ => exact hk.elim) lx
theorem de_cellA {X : Cx} {W : WX} {e : Expr} {te : TDE} (P : List PyData → Prop) (h : DE X W e te) : DE X W e (dCellA P te) := by
  obtain ⟨t, hp, g⟩ := h.ex
  exact de_pe hp (sem_cellA g)
theorem x_dCellA {P : List PyData → Prop} {t : TDE} {η : DEnv} {μ : Mu} {q : PQ} {E : XQ} : dCellA P t η μ q E = t η μ (cellAK P q) E := Eq.trans rfl rfl
theorem cellA_new {P : List PyData → Prop} {q : PQ} {μ : Mu} {xs : List PyData} : cellAK P q (.new xs) μ = (P xs ∧ q (.loc μ.length) (μ ++ [.abs P])) := Eq.trans rfl rfl
def sp_stateA : SpD := fun es μ q _ => match es with
  | [.dat (.int c), .dat (.int k)] => 0 ≤ k ∧ k ≤ 1000 ∧ ∀ xs, rngP xs → q (.new xs) μ
  | _ => False
theorem stateA_eq {c k : Int} {μ : Mu} {q : PQ} {x : XQ} : sp_stateA [.dat (.int c), .dat (.int k)] μ q x = (0 ≤ k ∧ k ≤ 1000 ∧ ∀ xs, rngP xs → q (.new xs) μ) := Eq.trans rfl rfl
theorem DefAt.imp {K : PySem.W.Frag} {Pr : Program} {w : World} {mg : Str → Option Value} {base : Heap} {x : Str} {k : Nat} {ps : List Str} {dvs : List V} {ds : List Value} {sp sp' : SpD} (D : DefAt Pr w K mg base x k ps dvs ds sp)
    (h : ∀ es μ q x, sp' es μ q x → sp es μ q x) : DefAt Pr w K mg base x k ps dvs ds sp' := by
  obtain ⟨f, fd, G, h1, h2, h3⟩ := D.ex
  refine ⟨⟨f, fd, G.imp fun vs H Q E hs => ?_, h1, h2, h3⟩, D.dv⟩
  obtain ⟨hl, s, μ, es, q, x, e, R, hv, hsp, l, lx⟩ := hs
  exact ⟨hl, s, μ, es, q, x, e, R, hv, h es μ q x hsp, l, lx⟩
theorem state_abs : ∀ es μ q x, sp_stateA es μ q x → sp_state es μ q x := by
  intro es μ q x h
  unfold sp_stateA at h
  split at h
  · exact ⟨_, _, rfl, h.1, h.2.1, fun a b h0 h1 => h.2.2 _ ⟨a, b, rfl, h0, h1⟩⟩
  · exact h.elim
def sp_cellA : SpD := fun es μ q _ => match es with
  | [.ro ds, .dat (.int k)] => ∃ ns : List Int, ds = ns.map .int ∧ 0 ≤ k ∧ k ≤ 1000 ∧ ns.length ≤ 63 ∧ ∀ r : Int, q (.dat (.int r)) μ
  | _ => False
theorem map_int_inj {a b : List Int} : (a.map PyData.int = b.map PyData.int) = (a = b) := propext ⟨fun h => by
  have := congrArg (fun l => l.map fun d => match d with | PyData.int i => i | _ => 0) h
  simpa [Function.comp_def] using this, fun h => by rw [h]⟩
theorem cellA_eq {ns : List Int} {k : Int} {μ : Mu} {q : PQ} {x : XQ} : sp_cellA [.ro (ns.map .int), .dat (.int k)] μ q x = (0 ≤ k ∧ k ≤ 1000 ∧ ns.length ≤ 63 ∧ ∀ r : Int, q (.dat (.int r)) μ) := by
  unfold sp_cellA
  simp only [map_int_inj]
  exact propext ⟨fun ⟨ms, e, h⟩ => by subst e; exact h, fun h => ⟨ns, rfl, h⟩⟩
theorem cell_abs : ∀ es μ q x, sp_cellA es μ q x → sp_cell es μ q x := by
  intro es μ q x h
  unfold sp_cellA at h
  split at h
  · obtain ⟨ns, rfl, h⟩ := h
    exact ⟨ns, _, rfl, h⟩
  · exact h.elim
/-! ### slots forgotten -/
def forget (η : DEnv) : List Nat → DEnv
  | [] => η
  | v :: vs => (forget η vs).set v none
theorem ER.forget {K : PySem.W.Frag} {s : Wd} {N : Nat} {σ : L2.St} {η : DEnv} (h : ER K s N σ η) (vs : List Nat) : ER K s N σ (DL.forget η vs) := by
  induction vs with
  | nil => exact h
  | cons v vs ih =>
    refine ih.sub (by simp [DL.forget]) fun i e q => ?_
    unfold DL.forget at q
    by_cases hj : v = i
    · subst hj
      by_cases hl : v < (DL.forget η vs).length
      · rw [List.getElem?_set_self hl] at q
        cases q
      · rw [List.getElem?_eq_none (by simpa using hl)] at q
        cases q
    · rwa [List.getElem?_set_ne hj] at q
theorem Sit.forget {K : PySem.W.Frag} {s : Wd} {μ : Mu} {σ : L2.St} {η : DEnv} (h : Sit K s μ σ η) (vs : List Nat) : Sit K s μ σ (DL.forget η vs) := ⟨h.rep, h.er.forget vs⟩
theorem fg_nil {η : DEnv} : forget η [] = η := Eq.trans rfl rfl
theorem fg_cons {η : DEnv} {v : Nat} {vs : List Nat} : forget η (v :: vs) = (forget η vs).set v none := Eq.trans rfl rfl
/-- behind a statement slots are forgotten -/
def sWipe (vs : List Nat) (t : TDS) : TDS := fun d E η μ => t { d with nx := fun η' μ' => d.nx (forget η' vs) μ' } E η μ
section
variable {X : Cx} {W : WX} {st : Stmt} {t : TDS} {pos : Pos} {tA : TDT}
def sForF (vs : List Nat) (ti : TDI) (g : TDG) (tb : TDS) : TDS := fun d E η μ => ti η μ (fun items G μ1 => ∃ Inv : Nat → DEnv → Mu → Prop, Inv 0 (forget η vs) μ1 ∧ (∀ i η μ, Inv i η μ → G μ) ∧
  (∀ (i : Nat) (e : EV) η μ, items[i]? = some e → Inv i η μ → g e η μ fun η2 μ2 => tb { nx := fun η' μ' => Inv (i + 1) (clean μ1.length (forget η' vs)) (μ'.take μ1.length), ct := fun η' μ' => Inv (i + 1) (clean μ1.length (forget η' vs)) (μ'.take μ1.length), bk := d.nx, rt := d.rt } E η2 μ2) ∧
  ∀ η μ, Inv items.length η μ → d.nx η μ) E
theorem ds_forF (vs : List Nat) {tg iter : Expr} {body : List Stmt} {is : List Nat} {ti : TDI} {g : TDG} {tb : TDS} (hp : PassesOwn (model X.prog X.w) X.A X.env X.xe) (hc : X.calm = true) (hi : DI X W tg iter ti) (hg : DG X tg is g) (hb : DSs X W body tb)
    (hs : ∀ x, foldedSetIterable iter X.env x = pure x := by intro _; rfl) : DS X W (.For tg iter body [] pos) (sForF vs ti g tb) := by
  obtain ⟨wi, p1, g1⟩ := hi.ex
  obtain ⟨gg, p2, g2⟩ := hg.ex
  obtain ⟨tb', p3, g3⟩ := hb.ex
  refine ⟨_, ps_for hp hc p1 p2 p3 hs, fun s σ η μ D d E S hq l => g1 s σ η μ _ _ E S hq (fun J items G μ1 s1 hk x1 R1 wk => ?_) (l.lx σ)⟩
  obtain ⟨Inv, h0, hG, hs, hd⟩ := hk
  have l1 := l.go x1 R1
  refine ⟨fun i m σ' H' => m = items.length - i ∧ i ≤ items.length ∧ ∃ (s' : Wd) (η' : DEnv) (μ' : Mu), s'.H = H' ∧ Ext s1 μ1.length s' μ'.length ∧ Sit X.K s' μ' σ' η' ∧ Inv i η' μ', ⟨items.length, by simp, Nat.zero_le _, s1, _, μ1, rfl, Ext.refl _ _, (S.go x1 R1).forget vs, h0⟩, ?_⟩
  rintro i m σ' H' ⟨rfl, hi, s', η', μ', rfl, x', S', iv⟩
  have ⟨wgo, wstop, wy⟩ := wk i s' μ' x' S'.rep (hG i η' μ' iv)
  by_cases hlt : i < items.length
  · refine .inr ⟨wgo hlt, fun σ2 H2 => ∃ (s2 : Wd) (η2 : DEnv) (μ2 : Mu), s2.H = H2 ∧ Ext s1 μ1.length s2 μ2.length ∧ Sit X.K s2 μ2 σ2 η2 ∧ Inv (i + 1) η2 μ2, fun σ2 H2 h2 => ⟨items.length - (i + 1), by omega, rfl, hlt, h2⟩, fun x H'' hy => ?_⟩
    obtain ⟨s2, e, rfl, he, hne, x2, R2, r2⟩ := wy x H'' hlt hy
    have x12 := x'.trans x2 fun n hn => S'.rep.here hn
    refine g2 s2 σ' η' μ' x e _ _ (S'.go x2 R2) r2 (hs i e η' μ' he iv) fun η3 μ3 σ3 s3 hk3 x3 S3 _ => ?_
    have x13 := x12.trans x3 fun n hn => R2.here hn
    have l3 := l1.go x13 S3.rep
    have fin : ∀ (η4 : DEnv) (μ4 : Mu) (σ4 : L2.St) (s4 : Wd), Inv (i + 1) (clean μ1.length (forget η4 vs)) (μ4.take μ1.length) → Ext s3 μ3.length s4 μ4.length → Sit X.K s4 μ4 σ4 η4 →
        ∃ (s2 : Wd) (η2 : DEnv) (μ2 : Mu), s2.H = s4.H ∧ Ext s1 μ1.length s2 μ2.length ∧ Sit X.K s2 μ2 σ4 η2 ∧ Inv (i + 1) η2 μ2 := fun η4 μ4 σ4 s4 hk4 x4 S4 => by
      have x14 := x13.trans x4 fun n hn => S3.rep.here hn
      have e4 : (μ4.take μ1.length).length = μ1.length := by rw [List.length_take]; have := x14.le; omega
      exact ⟨s4, _, _, rfl, by rw [e4]; exact x14.take (Nat.le_refl _) x14.le, (S4.forget vs).clean x14.le, hk4⟩
    exact g3 s3 σ3 η3 μ3 _ _ E S3 hk3 ⟨fin, l3.rt, l3.nx, fin, l3.xq⟩
  · have e : i = items.length := by omega
    subst e
    exact .inl ⟨wstop, (l1.go x' S'.rep).nx η' μ' σ' s' (hd η' μ' iv) (Ext.refl _ _) S'⟩
end
/-! ### stepping -/
def ForGF (vs : List Nat) (g : TDG) (tb : TDS) (d : DEnds) (E : XQ) (η : DEnv) (items : List EV) (G : Mu → Prop) (μ1 : Mu) : Prop := ∃ Inv : Nat → DEnv → Mu → Prop, Inv 0 (forget η vs) μ1 ∧ (∀ i η μ, Inv i η μ → G μ) ∧
  (∀ (i : Nat) (e : EV) η μ, items[i]? = some e → Inv i η μ → g e η μ fun η2 μ2 => tb { nx := fun η' μ' => Inv (i + 1) (clean μ1.length (forget η' vs)) (μ'.take μ1.length), ct := fun η' μ' => Inv (i + 1) (clean μ1.length (forget η' vs)) (μ'.take μ1.length), bk := d.nx, rt := d.rt } E η2 μ2) ∧
  ∀ η μ, Inv items.length η μ → d.nx η μ
section
variable {t v : TDS} {ti : TDI} {tc : TDT} {g : TDG} {d : DEnds} {E : XQ} {η : DEnv} {μ μ1 : Mu} {vs : List Nat}
theorem s_wipe (h : t { d with nx := fun η' μ' => d.nx (forget η' vs) μ' } E η μ) : sWipe vs t d E η μ := h
theorem q_wipe (h : t { d with nx := fun η' μ' => v d E (forget η' vs) μ' } E η μ) : sSeq (sWipe vs t) v d E η μ := h
theorem s_forF (h : ti η μ (ForGF vs g t d E η) E) : sForF vs ti g t d E η μ := h
theorem q_forF (h : ti η μ (ForGF vs g t { d with nx := v d E } E η) E) : sSeq (sForF vs ti g t) v d E η μ := h
theorem for_st {α σ : Type} {as : List α} {h : α → EV} {G : Mu → Prop} (ok : Nat → σ → Prop) (up : DEnv → σ → DEnv) (sto : Mu → σ → Mu) (s0 : σ)
    (e0 : up (forget η vs) s0 = forget η vs) (m0 : sto μ1 s0 = μ1) (k0 : ok 0 s0) (hG : ∀ s, G (sto μ1 s))
    (hs : ∀ (i : Nat) (a : α) (s : σ) (J : DEnv → Mu → Prop), as[i]? = some a → ok i s → (∀ s', ok (i + 1) s' → J (up (forget η vs) s') (sto μ1 s')) →
      g (h a) (up (forget η vs) s) (sto μ1 s) fun η2 μ2 => t { nx := fun η' μ' => J (clean μ1.length (forget η' vs)) (μ'.take μ1.length), ct := fun η' μ' => J (clean μ1.length (forget η' vs)) (μ'.take μ1.length), bk := d.nx, rt := d.rt } E η2 μ2)
    (hd : ∀ s, ok as.length s → d.nx (up (forget η vs) s) (sto μ1 s)) : ForGF vs g t d E η (as.map h) G μ1 := by
  refine ⟨fun i η' μ' => ∃ s, ok i s ∧ η' = up (forget η vs) s ∧ μ' = sto μ1 s, ⟨s0, k0, e0.symm, m0.symm⟩, ?_, ?_, ?_⟩
  · rintro i η' μ' ⟨s, _, rfl, rfl⟩
    exact hG s
  · rintro i e η' μ' hi ⟨s, hk, rfl, rfl⟩
    obtain ⟨a, ha, rfl⟩ := map_get hi
    exact hs i a s (fun η' μ' => ∃ s, ok (i + 1) s ∧ η' = up (forget η vs) s ∧ μ' = sto μ1 s) ha hk fun s' k => ⟨s', k, rfl, rfl⟩
  · rintro η' μ' ⟨s, hk, rfl, rfl⟩
    rw [List.length_map] at hk
    exact hd s hk
end
end DL
set_option Elab.async false
set_option linter.all false
set_option maxRecDepth 100000
set_option maxHeartbeats 4000000
namespace DL
open PySem L2 PyProof.Rows
/-! ### what a cell holds, by equations -/
def lcR (c : Option Cell) (k : List PyData → Prop) : Prop := match c with
  | some (.lst xs) => k xs
  | some (.frz xs) => k xs
  | _ => False
def lcK (c : Option Cell) (k : List PyData → Prop) : Prop := match c with
  | some (.lst xs) => k xs
  | _ => False
theorem lcR_l {xs : List PyData} {k : List PyData → Prop} : lcR (some (.lst xs)) k = k xs := Eq.trans rfl rfl
theorem lcK_l {xs : List PyData} {k : List PyData → Prop} : lcK (some (.lst xs)) k = k xs := Eq.trans rfl rfl
section
variable {μ ν : Mu} {n : Nat} {q : PQ} {xs ys : List PyData} {N : Nat}
theorem c_len : oLen [.loc n] μ q = lcR μ[n]? fun xs => q (.dat (.int xs.length)) μ := by
  simp only [oLen, seqOf, tupOf, roOf, lstOf, lcR]
  all_goals (cases μ[n]? with
    | none => rfl
    | some c => cases c <;> rfl)
theorem c_ix {i : Int} : oIx (.loc n) (.dat (.int i)) μ q = lcR μ[n]? fun xs => ∃ d, atI xs i = some d ∧ q (.dat d) μ := by
  simp only [oIx, seqOf, tupOf, roOf, lstOf, lcR]
  all_goals (cases μ[n]? with
    | none => rfl
    | some c => cases c <;> rfl)
theorem c_app {d : PyData} : oAppend (.loc n) [.dat d] μ q = lcK μ[n]? fun xs => xs.length < 100000 ∧ q (.dat .none) (μ.set n (.lst (xs ++ [d]))) := by
  simp only [oAppend, withL, lcK]
  all_goals (cases μ[n]? with
    | none => rfl
    | some c => cases c <;> rfl)
theorem c_set {k : Int} {d : PyData} {q : Mu → Prop} : oSetL (.loc n) (.dat (.int k)) (.dat d) μ q = lcK μ[n]? fun xs => ∃ j, ixN xs.length k = some j ∧ q (μ.set n (.lst (xs.set j d))) := by
  simp only [oSetL, withL, lcK]
  all_goals (cases μ[n]? with
    | none => rfl
    | some c => cases c <;> rfl)
theorem c_isL : isLstE (.loc n) μ = lcR μ[n]? fun _ => True := by
  simp only [isLstE, lstOf, lcR]
  all_goals (cases μ[n]? with
    | none => simp
    | some c => cases c <;> simp)
theorem c_addn : oAdd (.loc n) (.new ys) μ q = lcR μ[n]? fun xs => xs.length + ys.length ≤ 100000 ∧ q (.new (xs ++ ys)) μ := by
  simp only [oAdd, lstOf, lcR]
  all_goals (cases μ[n]? with
    | none => rfl
    | some c => cases c <;> rfl)
theorem c_sl {lo hi : Option Int} : oSl (.loc n) lo hi μ q = lcR μ[n]? fun xs => q (.new (cutD xs lo hi)) μ := by
  simp only [oSl, lstOf, lcR]
  all_goals (cases μ[n]? with
    | none => rfl
    | some c => cases c <;> rfl)
def seqC (r : RI) (n : Nat) (μ : Mu) (c : Option Cell) : Prop := match c with
  | some (.lst xs) => r (xs.map .dat) (fun μ => μ[n]? = some (.lst xs) ∨ μ[n]? = some (.frz xs)) μ
  | some (.frz xs) => r (xs.map .dat) (fun _ => True) μ
  | _ => False
theorem c_seqK {r : RI} : seqK r (.loc n) μ = seqC r n μ μ[n]? := by
  have e : seqK r (.loc n) μ = (match μ[n]? with
    | some (.lst xs) => r (xs.map .dat) (fun μ => μ[n]? = some (.lst xs) ∨ μ[n]? = some (.frz xs)) μ
    | some (.frz xs) => r (xs.map .dat) (fun _ => True) μ
    | _ => False) := Eq.trans rfl rfl
  rw [e]
  cases μ[n]? with
  | none => rfl
  | some c => cases c <;> rfl
theorem seqC_l {r : RI} : seqC r n μ (some (.lst xs)) = r (xs.map .dat) (fun μ => μ[n]? = some (.lst xs) ∨ μ[n]? = some (.frz xs)) μ := Eq.trans rfl rfl
def exC (q : PQ) (N : Nat) (μ : Mu) (c : Option Cell) : Prop := match c with
  | some (.lst xs) => q (.new xs) (μ.take N)
  | some (.frz xs) => q (.dat (.list xs)) (μ.take N)
  | some (.dct kvs) => q (.newd kvs) (μ.take N)
  | some (.dck kvs) => q (.newk kvs) (μ.take N)
  | _ => False
theorem exitQ_ge (h : N ≤ n) : DL.exitQ N q (.loc n) μ = exC q N μ μ[n]? := by
  have : ¬ n < N := by omega
  simp only [DL.exitQ, this, if_false, exC]
  all_goals (cases μ[n]? with
    | none => rfl
    | some c => cases c <;> rfl)
theorem exC_l : exC q N μ (some (.lst xs)) = q (.new xs) (μ.take N) := Eq.trans rfl rfl
/-! stores with cells behind -/
variable {c c0 c1 c2 d : Cell}
theorem get_a0 : (μ ++ c :: ν)[μ.length]? = some c := by simp
theorem get_a1 : (μ ++ c0 :: c :: ν)[μ.length + 1]? = some c := by
  rw [List.getElem?_append_right (by omega)]
  simp
theorem set_a0 : (μ ++ c :: ν).set μ.length d = μ ++ d :: ν := by simp
theorem tk_0 : μ.take μ.length = μ := List.take_length
theorem tk_a0 : (μ ++ ν).take μ.length = μ := by simp
theorem tk_a1 : (μ ++ c :: ν).take (μ.length + 1) = μ ++ [c] := by
  rw [List.take_append, List.take_of_length_le (by omega)]
  simp
end
/-! no dict -/
theorem noD_n : noD .none = true := by simp [noD]
theorem noD_i {b : Int} : noD (.int b) = true := by simp [noD]
theorem noD_l {b : List PyData} : noD (.list b) = noDs b := by simp [noD]
theorem noD_t {b : List PyData} : noD (.tuple b) = noDs b := by simp [noD]
theorem noDs_nil : noDs [] = true := by simp [noDs]
theorem noDs_cons {d : PyData} {b : List PyData} : noDs (d :: b) = (noD d && noDs b) := by simp [noDs]
theorem noDs_map {α : Type} {f : α → PyData} (h : ∀ a, noD (f a) = true) (xs : List α) : noDs (xs.map f) = true := by
  induction xs with
  | nil => simp [noDs]
  | cons x xs ih => simp [noDs, ih, h]
theorem noDs_i {xs : List Int} : noDs (xs.map PyData.int) = true := noDs_map (fun _ => noD_i) xs
/-! data that is equal -/
theorem eqv_tup {xs ys : List PyData} : PyData.eqv (.tuple xs) (.tuple ys) = PyData.eqvAll xs ys := by rw [PyData.eqv]
theorem eqv_lst {xs ys : List PyData} : PyData.eqv (.list xs) (.list ys) = PyData.eqvAll xs ys := by rw [PyData.eqv]
theorem eqvA_nn : PyData.eqvAll [] [] = true := by rw [PyData.eqvAll]
theorem eqvA_cc {x y : PyData} {xs ys : List PyData} : PyData.eqvAll (x :: xs) (y :: ys) = (PyData.eqv x y && PyData.eqvAll xs ys) := by rw [PyData.eqvAll]
theorem eqvA_nc {y : PyData} {ys : List PyData} : PyData.eqvAll [] (y :: ys) = false := by rw [PyData.eqvAll]
theorem eqvA_cn {y : PyData} {ys : List PyData} : PyData.eqvAll (y :: ys) [] = false := by rw [PyData.eqvAll]
theorem dep_tup {xs : List PyData} : (PyData.tuple xs).depth = PyData.depthAll xs + 1 := by rw [PyData.depth]
theorem dep_lst {xs : List PyData} : (PyData.list xs).depth = PyData.depthAll xs + 1 := by rw [PyData.depth]
theorem depA_nil : PyData.depthAll [] = 0 := by rw [PyData.depthAll]
theorem depA_cons {x : PyData} {xs : List PyData} : PyData.depthAll (x :: xs) = max x.depth (PyData.depthAll xs) := by rw [PyData.depthAll]
theorem depA_map {α : Type} (f : α → PyData) {n : Nat} (h : ∀ a, (f a).depth ≤ n) : ∀ xs : List α, PyData.depthAll (xs.map f) ≤ n
  | [] => by rw [List.map_nil, depA_nil]; exact Nat.zero_le _
  | x :: xs => by
    rw [List.map_cons, depA_cons]
    exact Nat.max_le.mpr ⟨h x, depA_map f h xs⟩
/-- an encoding by data whose == is the equality -/
structure Enc {α : Type} (f : α → PyData) (n : Nat) : Prop where
  nod : ∀ a, noD (f a) = true
  inj : ∀ a b, PyData.eqv (f a) (f b) = true ↔ a = b
  dep : ∀ a, (f a).depth ≤ n
theorem Enc.eqv {α : Type} [DecidableEq α] {f : α → PyData} {n : Nat} (h : Enc f n) (a b : α) : PyData.eqv (f a) (f b) = decide (a = b) := by
  rw [Bool.eq_iff_iff, h.inj, decide_eq_true_eq]
theorem enc_int : Enc PyData.int 0 := ⟨fun _ => noD_i, fun a b => by rw [eqv_int, decide_eq_true_eq], fun a => by rw [dep_int]; omega⟩
theorem Enc.all {α : Type} {f : α → PyData} {n : Nat} (h : Enc f n) : ∀ xs ys : List α, PyData.eqvAll (xs.map f) (ys.map f) = true ↔ xs = ys
  | [], [] => by simp [eqvA_nn]
  | [], _ :: _ => by simp [eqvA_nc]
  | _ :: _, [] => by simp [eqvA_cn]
  | x :: xs, y :: ys => by rw [List.map_cons, List.map_cons, eqvA_cc, Bool.and_eq_true, h.inj, h.all xs ys, List.cons.injEq]
theorem Enc.list {α : Type} {f : α → PyData} {n : Nat} (h : Enc f n) : Enc (fun xs : List α => .list (xs.map f)) (n + 1) :=
  ⟨fun a => by rw [noD_l]; exact noDs_map h.nod a, fun a b => by rw [eqv_lst, h.all], fun a => by rw [dep_lst]; exact Nat.succ_le_succ (depA_map f h.dep a)⟩
theorem Enc.tup {α : Type} {f : α → PyData} {n : Nat} (h : Enc f n) : Enc (fun xs : List α => .tuple (xs.map f)) (n + 1) :=
  ⟨fun a => by rw [noD_t]; exact noDs_map h.nod a, fun a b => by rw [eqv_tup, h.all], fun a => by rw [dep_tup]; exact Nat.succ_le_succ (depA_map f h.dep a)⟩
theorem Enc.t2 {α β : Type} {f : α → PyData} {g : β → PyData} {n m : Nat} (h : Enc f n) (k : Enc g m) : Enc (fun p : α × β => .tuple [f p.1, g p.2]) (n + m + 1) :=
  ⟨fun a => by simp [noD_t, noDs_cons, noDs_nil, h.nod, k.nod], fun a b => by rw [eqv_tup, eqvA_cc, eqvA_cc, eqvA_nn, Bool.and_true, Bool.and_eq_true, h.inj, k.inj, Prod.ext_iff],
   fun a => by rw [dep_tup, depA_cons, depA_cons, depA_nil]; have := h.dep a.1; have := k.dep a.2; omega⟩
theorem Enc.t4 {α β γ δ : Type} {f : α → PyData} {g : β → PyData} {e : γ → PyData} {o : δ → PyData} {n m l p : Nat} (h : Enc f n) (k : Enc g m) (j : Enc e l) (i : Enc o p) : Enc (fun p : α × β × γ × δ => .tuple [f p.1, g p.2.1, e p.2.2.1, o p.2.2.2]) (n + m + l + p + 1) :=
  ⟨fun a => by simp [noD_t, noDs_cons, noDs_nil, h.nod, k.nod, j.nod, i.nod], fun a b => by simp only [eqv_tup, eqvA_cc, eqvA_nn, Bool.and_true, Bool.and_eq_true, h.inj, k.inj, j.inj, i.inj, Prod.ext_iff],
   fun a => by simp only [dep_tup, depA_cons, depA_nil]; have := h.dep a.1; have := k.dep a.2.1; have := j.dep a.2.2.1; have := i.dep a.2.2.2; omega⟩
end DL
set_option Elab.async false
set_option linter.all false
set_option maxRecDepth 100000
set_option maxHeartbeats 4000000
namespace DL
open PySem L2 PyProof.Rows
theorem Enc.eq {α : Type} {f : α → PyData} {n : Nat} (h : Enc f n) {a b : α} : (f a = f b) = (a = b) :=
  propext ⟨fun e => (h.inj a b).mp (by rw [← e]; exact (h.inj a a).mpr rfl), fun e => by rw [e]⟩
theorem Enc.eqvs {α : Type} {f : α → PyData} {n : Nat} (h : Enc f n) (a : α) : PyData.eqv (f a) (f a) = true := (h.inj a a).mpr rfl
/-- the shape of a whole number between two bounds -/
def isNum (d : PyData) (a b : Int) : Bool := match d with
  | .int i => decide (a ≤ i) && decide (i ≤ b)
  | _ => false
theorem isNum_i {i a b : Int} : isNum (.int i) a b = (decide (a ≤ i) && decide (i ≤ b)) := Eq.trans rfl rfl
theorem kit_self {K : PySem.W.Frag} {D : Addr} : PySem.W.kitOne K (.ref D) (.ref D) = some true := by
  unfold PySem.W.kitOne
  rw [if_pos (beq_iff_eq.mpr rfl)]
theorem kit_ref {K : PySem.W.Frag} {D C : Addr} {b : Bool} (ne : D ≠ C) (hdct : PySem.W.hasDictIn K C = true) (ht : PySem.W.typeIn K (.ref C) = some (.type "type")) (h4 : PySem.W.subIn K (.ref D) (.ref C) = some b) : PySem.W.kitOne K (.ref D) (.ref C) = some b := by
  obtain ⟨cd, hc, _⟩ := PySem.W.any_some hdct
  have e2 : ((PySem.W.clsIn K C).isSome && PySem.W.typeIn K (.ref C) == some (.type "type")) = true := by rw [hc, ht] <;> rfl
  unfold PySem.W.kitOne
  rw [if_neg (fun h => ne (Value.ref.inj (beq_iff_eq.mp h)))]
  show (if ((PySem.W.clsIn K C).isSome && PySem.W.typeIn K (.ref C) == some (.type "type")) = true then PySem.W.subIn K (.ref D) (.ref C) else none) = some b
  rw [if_pos e2]
  exact h4
theorem kit_typ {K : PySem.W.Frag} {D : Addr} {S : String} {b : Bool} (hm : PySem.W.kitMeta S = true) (hne : Value.ref D = .type S → False) (h4 : PySem.W.subIn K (.ref D) (.type S) = some b) : PySem.W.kitOne K (.ref D) (.type S) = some b := by
  unfold PySem.W.kitOne
  rw [if_neg (fun h => hne (beq_iff_eq.mp h))]
  show (if PySem.W.kitMeta S = true then PySem.W.subIn K (.ref D) (.type S) else none) = some b
  rw [if_pos hm]
  exact h4
theorem isK_mk {K : PySem.W.Frag} {D : Addr → Prop} {μ : Mu} {q : PQ} {c : Addr} {fs : Option (List (Str × PyData))} {u : V} {cv : Value} {b : Bool} (h1 : ExcC K c) (h2 : ∀ w, RelV u w → w = cv) (r : RelV u cv) (h3 : PySem.W.kitOne K (.ref c) cv = some b) : oIsK K D [.exc ⟨c, fs⟩, .raw u] μ q = q (.dat (.bool b)) μ := by
  rw [isK_e]
  refine propext ⟨fun ⟨_, cv', b', g1, g2, g3⟩ => ?_, fun h => ⟨h1, cv, b, h2, h3, h⟩⟩
  have e := g1 cv r
  subst e
  rw [h3] at g2
  cases g2
  exact g3
theorem rng_c {p : Prop} : (∀ xs, rngP xs → rngP xs ∧ p) = p := propext ⟨fun h => (h _ ⟨0, 0, rfl, Int.le_refl _, by decide⟩).2, fun h xs hx => ⟨hx, h⟩⟩
theorem cmul_l {i j : Int} (h1 : -18446744073709551616 < i) (h2 : i < 18446744073709551616) : CMul i j = True := eq_true (.inl ⟨h1, h2⟩)
theorem cmul_r {i j : Int} (h1 : -18446744073709551616 < j) (h2 : j < 18446744073709551616) : CMul i j = True := eq_true (.inr ⟨h1, h2⟩)
theorem cdiv_h {i j : Int} (h1 : 0 < j) (h2 : j < 1073741824) : CDiv i j = True := eq_true ⟨h1, h2⟩
theorem cpow_h {i j : Int} (h1 : 0 ≤ j) (h2 : j ≤ 1000000) (h3 : -18446744073709551616 < i) (h4 : i < 18446744073709551616) : CPow i j = True := eq_true ⟨h1, h2, by show i.natAbs < 18446744073709551616; omega⟩
theorem nle_h {a b : Nat} (h : a ≤ b) : (a ≤ b) = True := eq_true h
theorem nlt_h {a b : Nat} (h : a < b) : (a < b) = True := eq_true h
theorem ile_h {a b : Int} (h : a ≤ b) : (a ≤ b) = True := eq_true h
theorem ilt_h {a b : Int} (h : a < b) : (a < b) = True := eq_true h
/-- an item that a drawn number picks -/
theorem pick_at {xs : List PyData} {r : Int} {k : PyData → Prop} (h0 : 0 ≤ r) (h1 : r < xs.length) (h : ∀ d ∈ xs, k d) : ∃ d, xs[r.toNat]? = some d ∧ k d := by
  obtain ⟨d, h2, h3⟩ := pick h0 h1
  exact ⟨d, h2, h d h3⟩
/-- comprehensions over encoded items -/
theorem lc_mapD {α : Type} {as : List α} {en : α → PyData} {G : Mu → Prop} {g : TDG} {te : TDE} {vs : List Nat} {η : DEnv} {q : PQ} {μ1 : Mu} {f : α → PyData} (hz : as.length ≤ 100000) (hG : G μ1)
    (hs : ∀ (a : α) (K : PyData → Mu → Prop), a ∈ as → K (f a) μ1 → g (.dat (en a)) (wipeD η vs) μ1 fun η2 μ2 => te η2 μ2 (fun ev μ4 => withDat μ4 ev fun d μ5 => K d (μ5.take μ1.length)) EF)
    (hq : q (.new (as.map f)) μ1) : LcG g tYesD te vs η q ((as.map en).map .dat) G μ1 := by
  rw [List.map_map]
  exact lc_map (h := EV.dat ∘ en) f hz hG hs hq
theorem lc_filterD {α : Type} {as : List α} {en : α → PyData} {G : Mu → Prop} {g : TDG} {tt : TDT} {te : TDE} {vs : List Nat} {η : DEnv} {q : PQ} {μ1 : Mu} {p : α → Bool} {f : α → PyData} (hz : as.length ≤ 100000) (hG : G μ1)
    (hs : ∀ (a : α) (K : PyData → Mu → Prop) (K' : Mu → Prop), a ∈ as → (if p a = true then K (f a) μ1 else K' μ1) → g (.dat (en a)) (wipeD η vs) μ1 fun η2 μ2 => tt η2 μ2 (fun b μ3 => if b = true then te η2 μ3 (fun ev μ4 => withDat μ4 ev fun d μ5 => K d (μ5.take μ1.length)) EF else K' (μ3.take μ1.length)) EF)
    (hq : q (.new ((as.filter p).map f)) μ1) : LcG g tt te vs η q ((as.map en).map .dat) G μ1 := by
  rw [List.map_map]
  refine lc_filter (h := EV.dat ∘ en) p f hz hG (fun a K K' ha h1 h2 => hs a K K' ha ?_) hq
  split
  · exact h1 (by assumption)
  · rename_i h
    exact h2 (by simpa using h)
/-- .. over a range -/
theorem lc_rng {lo : Int} {n : Nat} {G : Mu → Prop} {g : TDG} {te : TDE} {vs : List Nat} {η : DEnv} {q : PQ} {μ1 : Mu} {f : Nat → PyData} (hz : n ≤ 100000) (hG : G μ1)
    (hs : ∀ (a : Nat) (K : PyData → Mu → Prop), a < n → K (f a) μ1 → g (.dat (.int (lo + (a : Nat)))) (wipeD η vs) μ1 fun η2 μ2 => te η2 μ2 (fun ev μ4 => withDat μ4 ev fun d μ5 => K d (μ5.take μ1.length)) EF)
    (hq : q (.new ((List.range n).map f)) μ1) : LcG g tYesD te vs η q (rngItems lo n) G μ1 :=
  lc_map (h := fun k : Nat => EV.dat (.int (lo + (k : Nat)))) f (by rw [List.length_range]; exact hz) hG (fun a K ha => hs a K (List.mem_range.mp ha)) hq
theorem lc_rngF {lo : Int} {n : Nat} {G : Mu → Prop} {g : TDG} {tt : TDT} {te : TDE} {vs : List Nat} {η : DEnv} {q : PQ} {μ1 : Mu} {p : Nat → Bool} {f : Nat → PyData} (hz : n ≤ 100000) (hG : G μ1)
    (hs : ∀ (a : Nat) (K : PyData → Mu → Prop) (K' : Mu → Prop), a < n → (if p a = true then K (f a) μ1 else K' μ1) → g (.dat (.int (lo + (a : Nat)))) (wipeD η vs) μ1 fun η2 μ2 => tt η2 μ2 (fun b μ3 => if b = true then te η2 μ3 (fun ev μ4 => withDat μ4 ev fun d μ5 => K d (μ5.take μ1.length)) EF else K' (μ3.take μ1.length)) EF)
    (hq : q (.new (((List.range n).filter p).map f)) μ1) : LcG g tt te vs η q (rngItems lo n) G μ1 := by
  refine lc_filter (h := fun k : Nat => EV.dat (.int (lo + (k : Nat)))) p f (by rw [List.length_range]; exact hz) hG (fun a K K' ha h1 h2 => hs a K K' (List.mem_range.mp ha) ?_) hq
  split
  · exact h1 (by assumption)
  · rename_i h
    exact h2 (by simpa using h)
/-! loops over encoded items, over ranges -/
section
variable {t : TDS} {g : TDG} {d : DEnds} {E : XQ} {η : DEnv} {μ1 : Mu} {vs : List Nat}
theorem for_stD {α σ : Type} {as : List α} {en : α → PyData} {G : Mu → Prop} (ok : Nat → σ → Prop) (up : DEnv → σ → DEnv) (sto : Mu → σ → Mu) (s0 : σ)
    (e0 : up (forget η vs) s0 = forget η vs) (m0 : sto μ1 s0 = μ1) (k0 : ok 0 s0) (hG : ∀ s, G (sto μ1 s))
    (hs : ∀ (i : Nat) (a : α) (s : σ) (J : DEnv → Mu → Prop), as[i]? = some a → ok i s → (∀ s', ok (i + 1) s' → J (up (forget η vs) s') (sto μ1 s')) →
      g (.dat (en a)) (up (forget η vs) s) (sto μ1 s) fun η2 μ2 => t { nx := fun η' μ' => J (clean μ1.length (forget η' vs)) (μ'.take μ1.length), ct := fun η' μ' => J (clean μ1.length (forget η' vs)) (μ'.take μ1.length), bk := d.nx, rt := d.rt } E η2 μ2)
    (hd : ∀ s, ok as.length s → d.nx (up (forget η vs) s) (sto μ1 s)) : ForGF vs g t d E η ((as.map en).map .dat) G μ1 := by
  rw [List.map_map]
  exact for_st (h := EV.dat ∘ en) ok up sto s0 e0 m0 k0 hG hs hd
theorem for_stR {σ : Type} {lo : Int} {n : Nat} {G : Mu → Prop} (ok : Nat → σ → Prop) (up : DEnv → σ → DEnv) (sto : Mu → σ → Mu) (s0 : σ)
    (e0 : up (forget η vs) s0 = forget η vs) (m0 : sto μ1 s0 = μ1) (k0 : ok 0 s0) (hG : ∀ s, G (sto μ1 s))
    (hs : ∀ (i : Nat) (s : σ) (J : DEnv → Mu → Prop), i < n → ok i s → (∀ s', ok (i + 1) s' → J (up (forget η vs) s') (sto μ1 s')) →
      g (.dat (.int (lo + (i : Nat)))) (up (forget η vs) s) (sto μ1 s) fun η2 μ2 => t { nx := fun η' μ' => J (clean μ1.length (forget η' vs)) (μ'.take μ1.length), ct := fun η' μ' => J (clean μ1.length (forget η' vs)) (μ'.take μ1.length), bk := d.nx, rt := d.rt } E η2 μ2)
    (hd : ∀ s, ok n s → d.nx (up (forget η vs) s) (sto μ1 s)) : ForGF vs g t d E η (rngItems lo n) G μ1 := by
  refine for_st (as := List.range n) (h := fun k : Nat => EV.dat (.int (lo + (k : Nat)))) ok up sto s0 e0 m0 k0 hG (fun i a s J ha hk hJ => ?_) (fun s hk => hd s (by rw [List.length_range] at hk; exact hk))
  have h1 := get_lt ha
  rw [List.length_range] at h1
  rw [List.getElem?_range h1] at ha
  cases ha
  exact hs i s J h1 hk hJ
end
end DL
set_option Elab.async false
set_option linter.all false
set_option maxRecDepth 100000
set_option maxHeartbeats 4000000
namespace DL
open PySem PySem.Spec PyProof.Rows L2
/-! ### dicts -/
section
variable {K : PySem.W.Frag} {s s0 : Wd} {N0 : Nat} {μ : Mu}
theorem cellF {s : Wd} {a b : Addr} {vs : List V} {c : Cell} (h : CellAt K s b c) (hq : s.H a = some (.tup vs)) (hn : s.F a = none) (sub : Same s.F s.H) : CellAt K { s with F := upd s.F a (.tup vs) } b c := by
  have e : Same s.F (upd s.F a (.tup vs)) := fun x o' q => by rw [upd_ne (ne_of_none q hn)]; exact q
  have ne : ∀ {o}, s.H b = some o → (∀ ws, o ≠ .tup ws) → b ≠ a := fun hb ho z => by rw [z, hq] at hb; cases hb; exact ho _ rfl
  cases c with
  | lst xs => obtain ⟨h1, ws, h2, h3⟩ := h; exact ⟨(upd_ne (ne h2 fun _ z => nomatch z)).trans h1, ws, h2, h3.mono e⟩
  | frz xs => obtain ⟨ws, h2, h3⟩ := h; exact ⟨ws, e _ _ h2, h3.mono e⟩
  | dct kvs => obtain ⟨h1, ks, h2, h3, h4⟩ := h; exact ⟨(upd_ne (ne h2 fun _ z => nomatch z)).trans h1, ks, h2, h3, h4.mono e⟩
  | dck kvs => obtain ⟨h1, ks, h2, h3, h4⟩ := h; exact ⟨(upd_ne (ne h2 fun _ z => nomatch z)).trans h1, ks, h2, h3, h4.mono e⟩
  | abs P => obtain ⟨xs, hP, h1, ws, h2, h3⟩ := h; exact ⟨xs, hP, (upd_ne (ne h2 fun _ z => nomatch z)).trans h1, ws, h2, h3.mono e⟩
  | tab P nm => exact ⟨h.1, h.2.to e ((upd_ne (by obtain ⟨_, ps, h2, _⟩ := h.2; exact ne h2 fun _ z => nomatch z)).trans h.2.nf) fun _ z => z⟩
  | own t => exact h
  | dead => exact h
/-- a tuple that stands becomes still -/
theorem tup_still {q : Addr} {vs : List V} {ds : List PyData} (R : Rep K s μ) (hq : s.H q = some (.tup vs)) (hd : DRs K s.F vs ds) :
    ∃ F', Same s.F F' ∧ Rep K { s with F := F' } μ ∧ Ext s μ.length { s with F := F' } μ.length ∧ DR K F' (.ref q) (.tuple ds) := by
  cases hF : s.F q with
  | some o =>
    have := R.sub q o hF
    rw [hq] at this
    cases this
    exact ⟨s.F, fun _ _ z => z, R, Ext.refl _ _, .tup hF hd⟩
  | none =>
    have e : Same s.F (upd s.F q (.tup vs)) := fun x o' z => by rw [upd_ne (ne_of_none z hF)]; exact z
    refine ⟨upd s.F q (.tup vs), e, R.of rfl (fun a u z => ?_) (fun n c z => cellF (R.cell n c z) hq hF R.sub) (fun _ h => h) (R.beside e fun n a _ _ => keeps_F (.inr ⟨vs, hq⟩)), ⟨e, fun _ _ => rfl, Nat.le_refl _, fun _ _ z _ => z, fun a h1 _ _ h4 => ?_, fun n h1 h2 => absurd h1 (Nat.not_le_of_lt h2), fun n a h1 h2 => .inr ⟨h1, h2⟩, fun _ h => h⟩, .tup upd_same (hd.mono e)⟩
    · have z' : upd s.F q (.tup vs) a = some u := z
      by_cases ha : a = q
      · subst ha
        rw [upd_same] at z'
        cases z'
        exact hq
      · rw [upd_ne ha] at z'
        exact R.sub a u z'
    · show upd s.F q (.tup vs) a = none
      rw [upd_ne fun z => h4 vs (by rw [z]; exact hq)]
      exact h1
theorem drs_keys {F : Hp} : ∀ {k : List Key}, (∀ x ∈ k, keyOk x) → DRs K F (k.map kV) (k.map keyD)
  | [], _ => .nil
  | .inl i :: r, h => .cons (.int i) (drs_keys fun x hx => h x (by simp [hx]))
  | .inr z :: r, h => .cons (.str z (h (.inr z) (by simp))) (drs_keys fun x hx => h x (by simp [hx]))
/-! a dict's entries, changed -/
def putD {κ : Type} [DecidableEq κ] (kvs : List (κ × PyData)) (k : κ) (d : PyData) : List (κ × PyData) :=
  if (kvs.any fun kv => decide (kv.1 = k)) = true then kvs.map (fun kv => if kv.1 = k then (kv.1, d) else kv) else kvs ++ [(k, d)]
def getD {κ : Type} [DecidableEq κ] (kvs : List (κ × PyData)) (k : κ) : Option PyData := (kvs.find? fun kv => decide (kv.1 = k)).map (·.2)
end
/-! {}, d[k] = v -/
/-! k in d; in a list or tuple -/
theorem enc_key : Enc keyD 0 := ⟨fun a => by cases a <;> simp [keyD, noD], fun a b => by
  cases a with
  | inl i => cases b with
    | inl j => simp [keyD, eqv_int]
    | inr z => simp [keyD, PyData.eqv]
  | inr y => cases b with
    | inl j => simp [keyD, PyData.eqv]
    | inr z => simp [keyD, eqv_str], fun a => by cases a <;> simp [keyD, PyData.depth]⟩
end DL
set_option Elab.async false
set_option linter.all false
set_option maxRecDepth 100000
set_option maxHeartbeats 4000000
namespace DL
open PySem PySem.Spec PyProof.Rows L2
/-! ### what is walked: dicts too, zip -/
def iAnyD (K : PySem.W.Frag) (tl : TE) : TI := fun σ H R => tl σ H fun x H1 => ((∃ a xs, x = .ref a ∧ SqL K H1 a xs ∧ R (Itl K a) H1) ∨ (∃ a xs, x = .ref a ∧ SqT K H1 a xs ∧ R (Itt K a) H1) ∨ ∃ z, x = .str z ∧ R (Its z) H1) ∨
  ∃ d o, x = .ref d ∧ ((∃ kvs, H1 d = some (.frz o (.dK kvs)) ∧ R (Itk d o kvs) H1) ∨ ∃ kvs, H1 d = some (.frz o (.dT kvs)) ∧ R (Itkt d o kvs) H1)
theorem pi_anyD {X : Cx} {tg le : Expr} {tl : TE} (hp : PE X le tl) : PI X tg le (iAnyD X.K tl) := by
  refine ⟨fun pins s σ H R I h => ?_⟩
  refine thn (hp.run pins s σ H _ I h) fun v s1 hv => ?_
  obtain ⟨x, H1, I1, r1, (⟨a, xs, rfl, hq, q⟩ | ⟨a, xs, rfl, hq, q⟩ | ⟨z, rfl, q⟩) | ⟨d, o, rfl, ⟨kvs, hd, q⟩ | ⟨kvs, hd, q⟩⟩⟩ := hv
  · obtain rfl : v = Value.ref a := r1
    obtain ⟨its, rv, p, hz⟩ := I1.list hq
    exact wpAny_pyIter_list p.isList (pi_one (J := Itl X.K a) (tk := s1.toks) I1 _ (turn_list a _) ⟨_, Heap.get?_push_size _ rfl, rfl, rfl⟩ q)
  · obtain rfl : v = Value.ref a := r1
    obtain ⟨its, rv, p, hz⟩ := I1.tuple hq
    exact wpAny_pyIter_tuple (show s1.heap.IsTuple a its.toArray from p) (pi_one (J := Itt X.K a) (tk := s1.toks) I1 _ (turn_tuple a _) ⟨_, Heap.get?_push_size _ rfl, rfl, rfl⟩ q)
  · obtain ⟨t, rfl⟩ := r1
    cases hall : z.cps.all (· < 128) with
    | false => exact wpAny_pyIter_wide hall (pi_one (J := Its z) (tk := s1.toks) I1 _ (turn_str _ z t "str_iterator" (.inr rfl)) ⟨_, Heap.get?_push_size _ rfl, rfl, rfl⟩ q)
    | true => exact wpAny_pyIter_ascii hall (pi_one (J := Its z) (tk := s1.toks) I1 _ (turn_str _ z t "str_ascii_iterator" (.inl rfl)) ⟨_, Heap.get?_push_size _ rfl, rfl, rfl⟩ q)
  · obtain rfl : v = Value.ref d := r1
    obtain ⟨hs, hgd, hx, es, ep, vs, hdt, hsz, kv, hm⟩ := I1.frzK hd
    refine iter_keys hs hgd hx hdt (pi_one (tk := s1.toks) I1 _ (turn_keys _ hdt) ⟨_, Heap.get?_push_size _ rfl, rfl, ?_⟩ q)
    rw [hsz] <;> rfl
  · obtain rfl : v = Value.ref d := r1
    obtain ⟨hs, hgd, hx, es, ep, hdt, hsz, ent⟩ := I1.frzT hd
    refine iter_keys hs hgd hx hdt (pi_one (tk := s1.toks) I1 _ (turn_keysT _ hdt) ⟨_, Heap.get?_push_size _ rfl, rfl, ?_⟩ q)
    rw [hsz] <;> rfl
section
variable {K : PySem.W.Frag} {s0 : Wd} {N0 : Nat} {G : Mu → Prop} {d : Addr} {od : Obj}
theorem walkDT {ks : List (List Key × V)} {kvs : List (List Key × PyData)} (hF : s0.F d = some (.frz od (.dT ks))) (hk : sameT ks kvs) : WalkS K (Itkt d od ks) s0 N0 ((kvT kvs).map fun p => .dat p.1) G := by
  intro n s μ x R _
  have hH := R.sub _ _ (x.f _ _ hF)
  have hl : ks.length = kvs.length := by have := congrArg List.length hk.1; simpa using this
  have hl2 : ((kvT kvs).map fun p => EV.dat p.1).length = ks.length := by simp [kvT, hl]
  refine ⟨fun hn => ⟨hH, by rw [hl2] at hn; exact hn⟩, ⟨hH, by rw [hl2]; exact Nat.le_refl _⟩, fun v H' hn hy => ?_⟩
  obtain ⟨rfl, k, v', q, hkv, rfl, hq⟩ := hy
  have h1 : (ks.map (·.1))[n]? = some k := by rw [List.getElem?_map, hkv]; rfl
  rw [hk.1, List.getElem?_map] at h1
  cases hg : kvs[n]? with
  | none => rw [hg] at h1; cases h1
  | some p =>
    rw [hg] at h1
    cases h1
    obtain ⟨F', f1, R', x', r'⟩ := tup_still R hq (drs_keys (hk.2 p (List.mem_of_getElem? hg)))
    exact ⟨{ s with F := F' }, .dat (.tuple (p.1.map keyD)), rfl, by simp [kvT, hg], rfl, x', R', r'⟩
theorem walkDK {ks : List (Key × V)} {kvs : List (Key × PyData)} (hF : s0.F d = some (.frz od (.dK ks))) (hk : sameK ks kvs) : WalkS K (Itk d od ks) s0 N0 ((kvK kvs).map fun p => .dat p.1) G := by
  intro n s μ x R _
  have hH := R.sub _ _ (x.f _ _ hF)
  have hl : ks.length = kvs.length := by have := congrArg List.length hk.1; simpa using this
  have hl2 : ((kvK kvs).map fun p => EV.dat p.1).length = ks.length := by simp [kvK, hl]
  refine ⟨fun hn => ⟨hH, by rw [hl2] at hn; exact hn⟩, ⟨hH, by rw [hl2]; exact Nat.le_refl _⟩, fun v H' hn hy => ?_⟩
  obtain ⟨rfl, k, v', hkv, rfl⟩ := hy
  have h1 : (ks.map (·.1))[n]? = some k := by rw [List.getElem?_map, hkv]; rfl
  rw [hk.1, List.getElem?_map] at h1
  cases hg : kvs[n]? with
  | none => rw [hg] at h1; cases h1
  | some p =>
    rw [hg] at h1
    cases h1
    refine ⟨s, .dat (keyD p.1), rfl, by simp [kvK, hg], rfl, Ext.refl _ _, R, ?_⟩
    have := hk.2 p (List.mem_of_getElem? hg)
    obtain ⟨k0, v0⟩ := p
    cases k0 with
    | inl i => exact (show DR K s.F (.int i) (.int i) from .int i)
    | inr z => exact (show DR K s.F (.str z) (.str z) from .str z this)
end
def seqDK (r : RI) (e : EV) (μ1 : Mu) : Prop := match e with
  | .dat (.dict d) => r (d.map fun p => .dat p.1) (fun _ => True) μ1
  | e => seqK r e μ1
def iSeqD (t : TDE) : TDI := fun η μ r E => t η μ (fun e μ1 => seqDK r e μ1) E
theorem x_iSeqD {t : TDE} {η : DEnv} {μ : Mu} {r : RI} {E : XQ} : iSeqD t η μ r E = t η μ (fun e μ1 => seqDK r e μ1) E := Eq.trans rfl rfl
theorem seqDK_d {r : RI} {d : List (PyData × PyData)} {μ : Mu} : seqDK r (.dat (.dict d)) μ = r (d.map fun p => .dat p.1) (fun _ => True) μ := Eq.trans rfl rfl
theorem seqDK_t {r : RI} {d : List PyData} {μ : Mu} : seqDK r (.dat (.tuple d)) μ = r (d.map .dat) (fun _ => True) μ := Eq.trans rfl rfl
theorem seqDK_l {r : RI} {d : List PyData} {μ : Mu} : seqDK r (.dat (.list d)) μ = r (d.map .dat) (fun _ => True) μ := Eq.trans rfl rfl
theorem seqDK_s {r : RI} {z : Str} {μ : Mu} : seqDK r (.dat (.str z)) μ = seqK r (.dat (.str z)) μ := Eq.trans rfl rfl
theorem seqDK_c {r : RI} {n : Nat} {μ : Mu} : seqDK r (.loc n) μ = seqC r n μ μ[n]? := c_seqK
theorem di_seqD {X : Cx} {W : WX} {tg e : Expr} {te : TDE} (h : DE X W e te) : DI X W tg e (iSeqD te) := by
  obtain ⟨t, p, g⟩ := h.ex
  refine ⟨_, pi_anyD p, fun s σ η μ R r E S hq l lx => g s σ η μ _ _ E S hq (fun ev μ1 v s1 hk x1 R1 rv fv => ?_) lx⟩
  cases ev with
  | dat d =>
    have rd : DR X.K s1.F v d := rv
    cases rd with
    | lst h1 h2 => exact .inl (.inl ⟨_, _, rfl, SqL.of (R1.sub _ _ h1), l _ _ _ μ1 s1 hk x1 R1 (walkL fun s2 μ2 x R2 _ => ⟨_, SqL.of (R2.sub _ _ (x.f _ _ h1)), h2.mono x.f⟩)⟩)
    | tup h1 h2 => exact .inl (.inr (.inl ⟨_, _, rfl, SqT.of (R1.sub _ _ h1), l _ _ _ μ1 s1 hk x1 R1 (walkT fun s2 μ2 x R2 _ => ⟨SqT.of (R2.sub _ _ (x.f _ _ h1)), h2.mono x.f⟩)⟩))
    | str z hz => exact .inl (.inr (.inr ⟨z, rfl, l _ _ _ μ1 s1 hk x1 R1 (walkZ (F := s1.F) (.str z hz))⟩))
    | dcT h1 h2 h3 h4 =>
      subst h4
      exact .inr ⟨_, _, rfl, .inr ⟨_, R1.sub _ _ h1, l _ _ _ μ1 s1 hk x1 R1 (walkDT h1 h2)⟩⟩
    | dcK h1 h2 h3 h4 _ =>
      subst h4
      exact .inr ⟨_, _, rfl, .inl ⟨_, R1.sub _ _ h1, l _ _ _ μ1 s1 hk x1 R1 (walkDK h1 h2)⟩⟩
    | _ => exact hk.elim
  | new xs =>
    obtain ⟨p, vs, rfl, a1, a2, a3, a4⟩ := rv
    exact .inl (.inl ⟨p, vs, rfl, SqL.of a1, l _ _ (fun _ => True) μ1 s1 hk x1 R1 (walkL fun s2 μ2 x R2 _ => ⟨_, SqL.of (x.keep _ _ a1 a3), a4.mono x.f⟩)⟩)
  | loc n =>
    obtain ⟨hn, rfl⟩ := rv
    have hk' : seqC r n μ1 μ1[n]? := by
      have : seqDK r (.loc n) μ1 := hk
      rwa [seqDK_c] at this
    unfold seqC at hk'
    split at hk'
    · rename_i xs hc
      obtain ⟨_, vs, a1, a2⟩ := R1.cell n _ hc
      refine .inl (.inl ⟨_, vs, rfl, SqL.of a1, l _ _ _ μ1 s1 hk' x1 R1 (walkL fun s2 μ2 x R2 g => ?_)⟩)
      rw [← x.l n hn]
      rcases g with g | g
      · obtain ⟨_, ws, b1, b2⟩ := R2.cell n _ g
        exact ⟨ws, SqL.of b1, b2⟩
      · obtain ⟨ws, b1, b2⟩ := R2.cell n _ g
        exact ⟨ws, SqL.of (R2.sub _ _ b1), b2⟩
    · rename_i xs hc
      obtain ⟨vs, a1, a2⟩ := R1.cell n _ hc
      exact .inl (.inl ⟨_, vs, rfl, SqL.of (R1.sub _ _ a1), l _ _ _ μ1 s1 hk' x1 R1 (walkL fun s2 μ2 x R2 _ => ⟨_, SqL.of (R2.sub _ _ (x.f _ _ a1)), a2.mono x.f⟩)⟩)
    · exact hk'.elim
  | raw u => exact hk.elim
  | exc x => exact hk.elim
  | newd x => exact hk.elim
  | newk x => exact hk.elim
  | «at» _ _ _ => exact hk.elim
  | newo _ => exact hk.elim
  | per _ => exact hk.elim
  | ro xs =>
    obtain ⟨a, vs, rfl, h1, h2⟩ := rv
    exact .inl (.inl ⟨a, vs, rfl, R1.sub.seq h1, l _ _ _ μ1 s1 hk x1 R1 (walkL fun s2 μ2 x R2 _ => ⟨_, R2.sub.seq (x.f.seq h1), h2.mono x.f⟩)⟩)
/-! zip of two -/
def zipK (r : RI) (es : List EV) (μ1 : Mu) : Prop := match es with
  | [.dat (.tuple xs), .dat (.tuple ys)] => xs.length = ys.length ∧ r ((xs.zip ys).map fun p => .dat (.tuple [p.1, p.2])) (fun _ => True) μ1
  | [.dat (.list xs), .dat (.list ys)] => xs.length = ys.length ∧ r ((xs.zip ys).map fun p => .dat (.tuple [p.1, p.2])) (fun _ => True) μ1
  | _ => False
def iZipD (t : TDA) : TDI := fun η μ r E => t η μ (fun es μ1 => zipK r es μ1) E
theorem x_iZipD {t : TDA} {η : DEnv} {μ : Mu} {r : RI} {E : XQ} : iZipD t η μ r E = t η μ (fun es μ1 => zipK r es μ1) E := Eq.trans rfl rfl
theorem zipK_t {r : RI} {xs ys : List PyData} {μ : Mu} : zipK r [.dat (.tuple xs), .dat (.tuple ys)] μ = (xs.length = ys.length ∧ r ((xs.zip ys).map fun p => .dat (.tuple [p.1, p.2])) (fun _ => True) μ) := Eq.trans rfl rfl
theorem yld_pair {K : PySem.W.Frag} {s : Wd} {μ : Mu} {vs ws : List V} {xs ys : List PyData} {n : Nat} {T : Addr} {x y : V} (R : Rep K s μ) (h1 : DRs K s.F vs xs) (h2 : DRs K s.F ws ys) (e1 : vs[n]? = some x) (e2 : ws[n]? = some y) (hT : s.H T = none) :
    ∃ (s' : Wd) (e : EV), s'.H = upd s.H T (.tup [x, y]) ∧ ((xs.zip ys).map fun p => EV.dat (.tuple [p.1, p.2]))[n]? = some e ∧ noNew e = true ∧ Ext s μ.length s' μ.length ∧ Rep K s' μ ∧ VR K s' μ.length (.ref T) e := by
  obtain ⟨d1, f1, g1⟩ := h1.getV e1
  obtain ⟨d2, f2, g2⟩ := h2.getV e2
  have kF : Same s.F (upd s.F T (.tup [x, y])) := fun a u q => by rw [upd_ne (ne_of_none q (R.notF hT))]; exact q
  refine ⟨{ s with H := upd s.H T (.tup [x, y]), F := upd s.F T (.tup [x, y]) }, .dat (.tuple [d1, d2]), rfl, ?_, rfl, (Ext.refl s μ.length).putF R hT, R.putF hT, .tup upd_same (.cons (g1.mono kF) (.cons (g2.mono kF) .nil))⟩
  rw [List.getElem?_map, (List.getElem?_zip_eq_some (z := (d1, d2))).mpr ⟨f1, f2⟩]
  rfl
theorem di_zip {X : Cx} {W : WX} {a b : Expr} {t : TDA} {p pos tpos : Pos} {elts : List Expr} {kk : Nat} (hg : Gl X "zip") (hm : X.mg "zip" = none) (ha : DA X W [a, b] t)
    (hs : starEach [a, b] X.env = (false, eval a X.env) :: starEach [b] X.env := by rfl) (hpl : (backTo pos (starEach [b] X.env)).any (·.1) = false := by rfl) :
    DI X W (.Tuple elts kk tpos) (.Call (.Name "zip" p) [a, b] [] pos) (iZipD t) := by
  obtain ⟨t1, p1, g1⟩ := ha.ex
  refine ⟨_, RZ.pi_zipA hg hm p1 hs hpl, fun s σ η μ R r E S hq l lx => g1 s σ η μ _ _ E S hq (fun es μ1 vs s1 hk x1 R1 rs => ?_) lx⟩
  unfold zipK at hk
  split at hk
  · rename_i xs ys
    cases rs with
    | cons rx fx rr =>
      cases rr with
      | cons ry fy rr =>
        cases rr
        rename_i v1 v2
        have rx' : DR X.K s1.F v1 (.tuple xs) := rx
        have ry' : DR X.K s1.F v2 (.tuple ys) := ry
        cases rx' with
        | @tup a1 vs1 _ b1 c1 =>
          cases ry' with
          | @tup a2 vs2 _ b2 c2 =>
            refine ⟨a1, a2, vs1, vs2, rfl, .inr ⟨SqT.of (R1.sub _ _ b1), SqT.of (R1.sub _ _ b2), l _ _ _ μ1 s1 hk.2 x1 R1 fun n s μ x R2 _ => ?_⟩⟩
            have hb1 := SqT.of (K := X.K) (R2.sub _ _ (x.f _ _ b1))
            have hb2 := SqT.of (K := X.K) (R2.sub _ _ (x.f _ _ b2))
            have l1 := c1.length
            have l2 := c2.length
            have hlen : ((xs.zip ys).map fun p => EV.dat (.tuple [p.1, p.2])).length = xs.length := by simp [hk.1]
            refine ⟨fun hn => ⟨vs1, vs2, vs1[n]'(by omega), vs2[n]'(by omega), hb1, hb2, by simp, by simp⟩, ⟨vs1, vs2, hb1, hb2, .inl (by omega)⟩, fun v H' hn hy => ?_⟩
            obtain ⟨T, y1, y2, rfl, hT, rfl, e1, e2⟩ := hy
            exact yld_pair R2 (c1.mono x.f) (c2.mono x.f) (e1 _ hb1) (e2 _ hb2) hT
  · rename_i xs ys
    cases rs with
    | cons rx fx rr =>
      cases rr with
      | cons ry fy rr =>
        cases rr
        rename_i v1 v2
        have rx' : DR X.K s1.F v1 (.list xs) := rx
        have ry' : DR X.K s1.F v2 (.list ys) := ry
        cases rx' with
        | @lst a1 vs1 _ b1 c1 =>
          cases ry' with
          | @lst a2 vs2 _ b2 c2 =>
            refine ⟨a1, a2, vs1, vs2, rfl, .inl ⟨SqL.of (R1.sub _ _ b1), SqL.of (R1.sub _ _ b2), l _ _ _ μ1 s1 hk.2 x1 R1 fun n s μ x R2 _ => ?_⟩⟩
            have hb1 := SqL.of (K := X.K) (R2.sub _ _ (x.f _ _ b1))
            have hb2 := SqL.of (K := X.K) (R2.sub _ _ (x.f _ _ b2))
            have l1 := c1.length
            have l2 := c2.length
            have hlen : ((xs.zip ys).map fun p => EV.dat (.tuple [p.1, p.2])).length = xs.length := by simp [hk.1]
            refine ⟨fun hn => ⟨vs1, vs2, vs1[n]'(by omega), vs2[n]'(by omega), hb1, hb2, by simp, by simp⟩, ⟨vs1, vs2, hb1, hb2, .inl (by omega)⟩, fun v H' hn hy => ?_⟩
            obtain ⟨T, y1, y2, rfl, hT, rfl, e1, e2⟩ := hy
            exact yld_pair R2 (c1.mono x.f) (c2.mono x.f) (e1 _ hb1) (e2 _ hb2) hT
  · exact hk.elim
end DL
set_option Elab.async false
set_option linter.all false
set_option maxRecDepth 100000
set_option maxHeartbeats 4000000
namespace DL
open PySem PySem.Spec PyProof.Rows L2
/-! ### shifts of nought -/
section
variable {prog : Program} {w : World} {A : Around} {E : Value → Shared → Prop} {s : Shared} {n : Int} {t u : Tok} {Q : Value → Shared → Prop}
theorem call_shl0 (hn : 0 ≤ n) (h : Q (.int 0 s.toks) { s with toks := s.toks + 1 }) :
    wpAny (model prog w) A (call (.builtin "int.__lshift__") [.int 0 t, .int n u]) (fun v s' => v ≠ .notImplemented ∧ Q v s') E s := by
  refine wpAny_call_entry slot_int_lshift (typeIs_int s 0 t) entry_int_lshift ?_ (args_int_lshift _ _)
  show wpAny _ _ (if n < 0 then _ else _) _ _ s
  rw [if_neg (by omega)]
  show wpAny _ _ (if ((0 : Int) == 0) = true then _ else _) _ _ s
  rw [if_pos (by simp)]
  repeat (first | refine wpAny_pure ?_ | refine wpAny_mkInt ?_ | refine wpAny_rule ?_ | refine wpAny_bind ?_)
  exact ⟨_, rfl, by simp, h⟩
theorem lshift_0 (hn : 0 ≤ n) (h : Q (.int 0 s.toks) { s with toks := s.toks + 1 }) : wpAny (model prog w) A (binaryOp .LShift (.int 0 t) (.int n u)) Q E s :=
  wpAny_binaryOp_same (op := .LShift) (T := "int") (typeIs_int s 0 t) (typeIs_int s n u) fills_int_lshift slot_int_lshift (call_shl0 hn h)
end
def CSh (i j : Int) : Prop := CPow i j ∨ (i = 0 ∧ 0 ≤ j)
theorem opA_shl {X : Cx} : OpR X (binaryOp .LShift) (rI CSh fun i j => V.int (i * 2 ^ j.toNat)) := opI fun i j t u s Q E hc q => by
  rcases hc with h | ⟨rfl, h⟩
  · exact lshift_int_small h.1 h.2.1 h.2.2 q
  · rw [Int.zero_mul] at q
    exact lshift_0 h q
abbrev oShlA : OD := oI CSh fun i j => .int (i * 2 ^ j.toNat)
theorem os_shlA {K : PySem.W.Frag} : OpS K (rI CSh fun i j => V.int (i * 2 ^ j.toNat)) oShlA := os_I fun _ _ _ => .int _
theorem csh_h {i j : Int} (h1 : 0 ≤ j) (h2 : j ≤ 1000000) (h3 : -18446744073709551616 < i) (h4 : i < 18446744073709551616) : CSh i j = True := eq_true (.inl ⟨h1, h2, by show i.natAbs < 18446744073709551616; omega⟩)
theorem isIntD_none : isIntD .none = false := Eq.trans rfl rfl
theorem isIntD_bool {b : Bool} : isIntD (.bool b) = true := Eq.trans rfl rfl
theorem isIntD_int {i : Int} : isIntD (.int i) = true := Eq.trans rfl rfl
theorem isIntD_str {z : Str} : isIntD (.str z) = false := Eq.trans rfl rfl
theorem isIntD_list {xs : List PyData} : isIntD (.list xs) = false := Eq.trans rfl rfl
theorem isIntD_tuple {xs : List PyData} : isIntD (.tuple xs) = false := Eq.trans rfl rfl
theorem isIntD_dict {kv : List (PyData × PyData)} : isIntD (.dict kv) = false := Eq.trans rfl rfl
theorem isBoolD_none : isBoolD .none = false := Eq.trans rfl rfl
theorem isBoolD_bool {b : Bool} : isBoolD (.bool b) = true := Eq.trans rfl rfl
theorem isBoolD_int {i : Int} : isBoolD (.int i) = false := Eq.trans rfl rfl
theorem isBoolD_str {z : Str} : isBoolD (.str z) = false := Eq.trans rfl rfl
theorem isBoolD_list {xs : List PyData} : isBoolD (.list xs) = false := Eq.trans rfl rfl
theorem isBoolD_tuple {xs : List PyData} : isBoolD (.tuple xs) = false := Eq.trans rfl rfl
theorem isBoolD_dict {kv : List (PyData × PyData)} : isBoolD (.dict kv) = false := Eq.trans rfl rfl
theorem isListD_none : isListD .none = false := Eq.trans rfl rfl
theorem isListD_bool {b : Bool} : isListD (.bool b) = false := Eq.trans rfl rfl
theorem isListD_int {i : Int} : isListD (.int i) = false := Eq.trans rfl rfl
theorem isListD_str {z : Str} : isListD (.str z) = false := Eq.trans rfl rfl
theorem isListD_list {xs : List PyData} : isListD (.list xs) = true := Eq.trans rfl rfl
theorem isListD_tuple {xs : List PyData} : isListD (.tuple xs) = false := Eq.trans rfl rfl
theorem isListD_dict {kv : List (PyData × PyData)} : isListD (.dict kv) = false := Eq.trans rfl rfl
theorem isTupD_tuple {xs : List PyData} : isTupD (.tuple xs) = true := Eq.trans rfl rfl
/-! ### equations of dicts -/
/-! ### cells of a floor: a dict of places -/
end DL
set_option Elab.async false
set_option linter.all false
set_option maxRecDepth 100000
set_option maxHeartbeats 4000000
namespace DL
open PySem PySem.Spec PyProof.Rows L2
/-! ### list(d), d a dict with tuple keys -/
section
variable {K : PySem.W.Frag} {s0 s : Wd} {N0 : Nat} {μ : Mu}
theorem tups_still {ks : List (List Key × V)} {bs : List Addr} (h : Paired (fun p b => s.H b = some (.tup (p.1.map kV))) ks bs) : ∀ {F1 : Hp}, Rep K { s with F := F1 } μ → (∀ p ∈ ks, ∀ x ∈ p.1, keyOk x) →
    ∃ F', Same F1 F' ∧ Rep K { s with F := F' } μ ∧ Ext { s with F := F1 } μ.length { s with F := F' } μ.length ∧ DRs K F' (bs.map V.ref) (ks.map fun p => .tuple (p.1.map keyD)) := by
  induction h with
  | nil => exact fun R _ => ⟨_, fun _ _ z => z, R, Ext.refl _ _, .nil⟩
  | @cons p b ps qs hq t ih =>
    intro F1 R ok
    obtain ⟨F2, f2, R2, x2, r2⟩ := tup_still (s := { s with F := F1 }) R hq (drs_keys (ok p (by simp)))
    obtain ⟨F3, f3, R3, x3, r3⟩ := ih R2 fun p hp => ok p (by simp [hp])
    exact ⟨F3, fun a o z => f3 a o (f2 a o z), R3, x2.trans x3 fun n hn => R2.here hn, .cons (r2.mono f3) r3⟩
end
def oListA : CD := fun es μ q => match es with
  | [.dat (.dict d)] => (d.all fun p => isTupD p.1) = true ∧ q (.new (d.map (·.1))) μ
  | es => oList es μ q
def rListA (K : PySem.W.Frag) : List V → Hp → VK → Prop := fun xs H Q => (∃ p ys, xs = [.ref p] ∧ (SqL K H p ys ∨ SqT K H p ys) ∧ ∀ l, H l = none → Q (.ref l) (upd H l (.lst ys))) ∨
  (∃ d kvs, xs = [V.ref d] ∧ Rd H d (.dT kvs) ∧ ∀ p bs, H p = none → IsKeys H kvs bs → Q (.ref p) (upd H p (.lst (bs.map V.ref))))
theorem call_listA {X : Cx} (hc : X.calm = true) : CallR X (.type "list") (rListA X.K) := call_list_of.or (call_list_dT hc)
theorem cs_listA {K : PySem.W.Frag} : CallS K (rListA K) oListA := by
  intro s0 N0 s μ xs es q Q R xt r h l
  unfold oListA at h
  split at h
  · rename_i d
    obtain ⟨h1, h2⟩ := h
    cases r with
    | cons rx fx rr =>
      cases rr
      have rd : DR K s.F _ (.dict d) := rx
      cases rd with
      | dcT hF hk hs e =>
        subst e
        refine .inr ⟨_, _, rfl, .inr ⟨_, R.sub _ _ hF⟩, fun p bs hp hb => ?_⟩
        rename_i ks kvs
        have hkk : ∀ p ∈ ks, ∀ x ∈ p.1, keyOk x := fun p hp => by
          have : p.1 ∈ kvs.map (·.1) := by rw [← hk.1]; exact List.mem_map_of_mem hp
          obtain ⟨p', hp', e⟩ := List.mem_map.mp this
          rw [← e]
          exact hk.2 p' hp'
        obtain ⟨F', f', R', x', r'⟩ := tups_still (s := s) (F1 := s.F) hb R hkk
        have e : (kvT kvs).map (·.1) = ks.map fun p => .tuple (p.1.map keyD) := by
          have e1 : ((kvT kvs).map (·.1)) = (kvs.map (·.1)).map fun k => PyData.tuple (k.map keyD) := by simp [kvT]
          rw [e1, ← hk.1, List.map_map]
          rfl
        rw [e] at h2
        exact ans_new (s := { s with F := F' }) R' (xt.trans x' fun n hn => R.here hn) l h2 r' hp
      | @dcK a od ks kvs _ hF hk hs e ne =>
        subst e
        cases kvs with
        | nil => exact absurd rfl ne
        | cons p r =>
          obtain ⟨k0, v0⟩ := p
          exfalso
          have : isTupD (keyD k0) = true := by
            simp only [kvK, List.map_cons, List.all_cons, Bool.and_eq_true] at h1
            exact h1.1
          cases k0 <;> simp [keyD, isTupD] at this
  · exact .inl (cs_list s0 N0 s μ xs _ q Q R xt r h l)
end DL
set_option Elab.async false
set_option linter.all false
set_option maxRecDepth 100000
set_option maxHeartbeats 4000000
namespace DL
open PySem PySem.Spec PyProof.Rows L2
/-! ### dict(d), d a dict with tuple keys -/
end DL
set_option Elab.async false
set_option linter.all false
set_option maxRecDepth 100000
set_option maxHeartbeats 4000000
namespace DL
open PySem PySem.Spec PyProof.Rows L2
/-! ### dict(pairs), the keys tuples -/
end DL
set_option Elab.async false
set_option linter.all false
set_option maxRecDepth 100000
set_option maxHeartbeats 4000000
namespace DL
open PySem PySem.Spec PyProof.Rows L2
/-! ### o[i] op= e -/
def sAugS (to ti te : TDE) (oi oo : OD) (os : SetD) : TDS := fun d E η μ => to η μ (fun x μ1 => ti η μ1 (fun y μ2 => noNew x = true ∧ noNew y = true ∧ oi x y μ2 fun z μ3 => noNew z = true ∧ te η μ3 (fun u μ4 => noNew u = true ∧ oo z u μ4 fun r μ5 => os x y r μ5 fun μ6 => d.nx η μ6) E) E) E
section
variable {to ti te : TDE} {oi oo : OD} {os : SetD} {v : TDS} {d : DEnds} {E : XQ} {η : DEnv} {μ : Mu}
theorem s_augS (h : to η μ (fun x μ1 => ti η μ1 (fun y μ2 => noNew x = true ∧ noNew y = true ∧ oi x y μ2 fun z μ3 => noNew z = true ∧ te η μ3 (fun u μ4 => noNew u = true ∧ oo z u μ4 fun r μ5 => os x y r μ5 fun μ6 => d.nx η μ6) E) E) E) : sAugS to ti te oi oo os d E η μ := h
theorem q_augS (h : to η μ (fun x μ1 => ti η μ1 (fun y μ2 => noNew x = true ∧ noNew y = true ∧ oi x y μ2 fun z μ3 => noNew z = true ∧ te η μ3 (fun u μ4 => noNew u = true ∧ oo z u μ4 fun r μ5 => os x y r μ5 fun μ6 => v d E η μ6) E) E) E) : sSeq (sAugS to ti te oi oo os) v d E η μ := h
end
end DL
set_option Elab.async false
set_option linter.all false
set_option maxRecDepth 100000
set_option maxHeartbeats 4000000
namespace DL
open PySem PySem.Spec PyProof.Rows L2
/-! ### while, its body laying cells that stay -/
/-! ### xs.pop() -/
/-! ### d.pop(k) -/
def dropD {κ : Type} [DecidableEq κ] (kvs : List (κ × PyData)) (k : κ) : List (κ × PyData) := kvs.filter fun kv => decide (kv.1 ≠ k)
/-! ### len(d) -/
def rLenD (K : PySem.W.Frag) : List V → Hp → VK → Prop := fun xs H Q => (∃ x n, xs = [x] ∧ LenV K x H n ∧ Q (.int n) H) ∨ ∃ (p : Addr) (n : Nat), xs = [.ref p] ∧ ((∃ kvs : List (List Key × V), Rd H p (.dT kvs) ∧ n = kvs.length) ∨ ∃ kvs : List (Key × V), Rd H p (.dK kvs) ∧ n = kvs.length) ∧ Q (.int n) H
theorem call_lenD1 {X : Cx} : CallR X (.builtin "len") fun xs H Q => ∃ (p : Addr) (n : Nat), xs = [.ref p] ∧ ((∃ kvs : List (List Key × V), Rd H p (.dT kvs) ∧ n = kvs.length) ∨ ∃ kvs : List (Key × V), Rd H p (.dK kvs) ∧ n = kvs.length) ∧ Q (.int n) H := by
  intro pins s σ H xs us Q I r h
  obtain ⟨p, n, rfl, hp, q⟩ := h
  obtain ⟨u, rfl, rx⟩ := vals1 r
  obtain rfl : u = .ref p := rx
  rcases hp with ⟨kvs, hp, rfl⟩ | ⟨kvs, hp, rfl⟩
  · obtain ⟨z, hd, ys, rel, dd⟩ := dt_rd I.hok hp
    have hl : kvs.length = ys.length := Paired.length rel
    refine call_len_dictH hd dd (by rw [← hl]; rw [sizeLine_eq] at z; omega) ?_
    rw [← hl]
    exact ⟨.int ((kvs.length : Nat) : Int), H, I.tok _, ⟨_, rfl⟩, q⟩
  · exact d_len I hp fun t s' I' => ⟨.int ((kvs.length : Nat) : Int), H, I', ⟨_, rfl⟩, q⟩
theorem call_lenA {X : Cx} : CallR X (.builtin "len") (rLenD X.K) := call_len.or call_lenD1
def oLenD : CD := fun es μ q => match es with
  | [.dat (.dict d)] => q (.dat (.int d.length)) μ
  | [.loc n] => match μ[n]? with
    | some (.dct kvs) => q (.dat (.int kvs.length)) μ
    | some (.dck kvs) => q (.dat (.int kvs.length)) μ
    | _ => oLen [.loc n] μ q
  | es => oLen es μ q
theorem cs_lenD {K : PySem.W.Frag} : CallS K (rLenD K) oLenD := by
  intro s0 N0 s μ xs es q Q R xt r h l
  have low : ∀ {es}, VRs K s μ.length s0.H xs es → oLen es μ q → rLenD K xs s.H Q := fun r h => .inl (cs_len s0 N0 s μ xs _ q Q R xt r h l)
  unfold oLenD at h
  split at h
  · rename_i d
    cases r with
    | cons rx fx rr =>
      cases rr
      rename_i x
      have rd : DR K s.F x (.dict d) := rx
      cases rd with
      | dcT hF hk hs e =>
        subst e
        refine .inr ⟨_, _, rfl, .inl ⟨_, .inr ⟨_, R.sub _ _ hF⟩, rfl⟩, ?_⟩
        have e2 := congrArg List.length hk.1
        simp only [List.length_map] at e2
        rw [e2]
        have e3 : ∀ kvs : List (List Key × PyData), (kvT kvs).length = kvs.length := fun kvs => by simp [kvT]
        rw [e3] at h
        exact ans R xt l h (.int _)
      | dcK hF hk hs e ne =>
        subst e
        refine .inr ⟨_, _, rfl, .inr ⟨_, .inr ⟨_, R.sub _ _ hF⟩, rfl⟩, ?_⟩
        have e2 := congrArg List.length hk.1
        simp only [List.length_map] at e2
        rw [e2]
        have e3 : ∀ kvs : List (Key × PyData), (kvK kvs).length = kvs.length := fun kvs => by simp [kvK]
        rw [e3] at h
        exact ans R xt l h (.int _)
  · rename_i n
    split at h
    · rename_i kvs hn
      cases r with
      | cons rx fx rr =>
        cases rr
        obtain ⟨hlt, rfl⟩ := rx
        obtain ⟨hf, ks, hH, hk, hd⟩ := R.cell n _ hn
        refine .inr ⟨_, _, rfl, .inl ⟨_, .inl hH, rfl⟩, ?_⟩
        have e2 := congrArg List.length hk.1
        simp only [List.length_map] at e2
        rw [e2]
        exact ans R xt l h (.int _)
    · rename_i kvs hn
      cases r with
      | cons rx fx rr =>
        cases rr
        obtain ⟨hlt, rfl⟩ := rx
        obtain ⟨hf, ks, hH, hk, hd⟩ := R.cell n _ hn
        refine .inr ⟨_, _, rfl, .inr ⟨_, .inl hH, rfl⟩, ?_⟩
        have e2 := congrArg List.length hk.1
        simp only [List.length_map] at e2
        rw [e2]
        exact ans R xt l h (.int _)
    · exact low r h
  · exact low r h
section
variable {μ : Mu} {q : PQ} {xs : List PyData} {z : Str} {n : Nat}
theorem lnD_str : oLenD [.dat (.str z)] μ q = (z.length ≤ 100000 ∧ q (.dat (.int z.length)) μ) := Eq.trans rfl rfl
theorem lnD_tup : oLenD [.dat (.tuple xs)] μ q = q (.dat (.int xs.length)) μ := Eq.trans rfl rfl
theorem lnD_lst : oLenD [.dat (.list xs)] μ q = q (.dat (.int xs.length)) μ := Eq.trans rfl rfl
theorem lnD_ro : oLenD [.ro xs] μ q = q (.dat (.int xs.length)) μ := Eq.trans rfl rfl
theorem lnD_d {d : List (PyData × PyData)} : oLenD [.dat (.dict d)] μ q = q (.dat (.int d.length)) μ := Eq.trans rfl rfl
def lnC (n : Nat) (μ : Mu) (q : PQ) (c : Option Cell) : Prop := match c with
  | some (.dct kvs) => q (.dat (.int kvs.length)) μ
  | some (.dck kvs) => q (.dat (.int kvs.length)) μ
  | _ => oLen [.loc n] μ q
theorem c_lenD : oLenD [.loc n] μ q = lnC n μ q μ[n]? := by
  simp only [oLenD, lnC]
theorem lnC_l {xs : List PyData} : lnC n μ q (some (.lst xs)) = oLen [.loc n] μ q := Eq.trans rfl rfl
end
theorem ne_cD {n : Nat} {d : PyData} {μ : Mu} {q : PQ} : oNe (.loc n) (.dat d) μ q = lcR μ[n]? fun xs => (noD (.list xs) = true ∧ noD (d) = true) ∧ min (PyData.depth (.list xs)) (PyData.depth (d)) ≤ 64 ∧ q (.dat (.bool (!PyData.eqv (.list xs) (d)))) μ := by
  simp only [oNe, datOf, lstOf, lcR]
  all_goals (cases μ[n]? with
    | none => rfl
    | some c => cases c <;> rfl)
end DL
set_option Elab.async false
set_option linter.all false
set_option maxRecDepth 100000
set_option maxHeartbeats 4000000
namespace DL
open PySem PySem.Spec PyProof.Rows L2
/-! ### sorted(xs), xs of any data that compare -/
/-! sorted(t), t a tuple -/
/-! sorted(d), d with tuple keys -/
/-! ### .. by data -/
/-! places -/
end DL
set_option Elab.async false
set_option linter.all false
set_option maxRecDepth 100000
set_option maxHeartbeats 4000000
/-! ### enumerate(xs), enumerate(xs, k), xs a list or a tuple that is still -/
namespace DL
open PySem PySem.Spec PyProof.Rows L2
set_option maxHeartbeats 4000000 in
theorem meets_enum1 {v : Value} {o : Obj} {H : Heap → Prop} (B : Begins v o H) :
    Meets (Builtin.«enumerate.__new__» ⟨[.type "enumerate", v], []⟩) (fun _ R s => H s.heap ∧
      R (.ok (.ret (.ref (s.heap.push o).objs.size))) { s with heap := (s.heap.push o).push { cls := .type "enumerate", data := .fields #[.none, .bool false, .ref s.heap.objs.size, rawInt 0, .none, .none] } }) :=
  .of_wp fun prog w A R s h => by
    obtain ⟨hp, g, d, tk, os⟩ := s; obtain ⟨h1, h⟩ := h
    have hsub := sub_enumerate
    have q1 : ∀ {A' : Around} {E : Value → Shared → Prop} {Q : Value → Shared → Prop}, Q (.ref hp.objs.size) ⟨hp.push o, g, d, tk, os⟩ → wpAny (model prog w) A' (pyIter v) Q E ⟨hp, g, d, tk, os⟩ :=
      fun q => B.iter prog w _ _ ⟨hp, g, d, tk, os⟩ _ h1 q
    wp_walk using q1
    refine wpAny_stack_any fun st => wpAny_pure ?_
    split
    · rename_i c _ _ _ _ _
      cases (c == Value.type "enumerate")
      · wp_walk using q1
        exact ⟨_, rfl, h⟩
      · wp_walk using q1
        exact ⟨_, rfl, h⟩
    · wp_walk using q1
      exact ⟨_, rfl, h⟩
section
variable {prog : Program} {w : World} {A : Around} {E : Value → Shared → Prop} {s : Shared}
theorem enum_begins1 {v : Value} {o : Obj} {H : Heap → Prop} {Q : Value → Shared → Prop} (B : Begins v o H) (h1 : H s.heap)
    (h : ∀ h', IsEnum h' (s.heap.objs.size + 1) s.heap.objs.size 0 .none → h'.get? s.heap.objs.size = some o → h'.objs.size = s.heap.objs.size + 2 →
      (∀ b o, s.heap.get? b = some o → h'.get? b = some o) → Q (.ref (s.heap.objs.size + 1)) { s with heap := h' }) :
    wpAny (model prog w) A (call (.type "enumerate") [v]) Q E s := by
  refine callType_new F.called_enumerate (by decide) (F.typeCall_enumerate_1 _) (F.newCall_enumerate_1 _) (fun obj => F.args_object_init_2 obj _) F.entry_enumerate_new
    (meets_enum1 B) ⟨h1, ?_⟩
  have hz : (s.heap.push o).objs.size = s.heap.objs.size + 1 := Heap.size_push ..
  show _ ∧ _
  rw [hz]
  have he : IsEnum ((s.heap.push o).push { cls := .type "enumerate", data := .fields #[.none, .bool false, .ref s.heap.objs.size, rawInt 0, .none, .none] }) (s.heap.objs.size + 1) s.heap.objs.size 0 .none := by
    have := Heap.get?_push_size (s.heap.push o) (o := { cls := .type "enumerate", data := .fields #[.none, .bool false, .ref s.heap.objs.size, rawInt 0, .none, .none] }) rfl
    rw [hz] at this; exact this
  refine ⟨⟨_, he, rfl⟩, h _ he (Heap.get?_push_of_some _ (Heap.get?_push_size _ B.free)) (by rw [Heap.size_push, hz]) fun b o x => Heap.get?_push_of_some _ (Heap.get?_push_of_some _ x)⟩
end
/-- a still source -/
def Src (K : PySem.W.Frag) (tp : Bool) (H : Hp) (a : Addr) (xs : List V) : Prop := if tp then SqT K H a xs else SqL K H a xs
/-- the pairs of a count and an item -/
def Itn (K : PySem.W.Frag) (tp : Bool) (a : Addr) (k : Int) : It :=
  ⟨fun i H => ∃ (xs : List V) (x : V), Src K tp H a xs ∧ xs[i]? = some x, fun i H v H' => ∃ T x, v = .ref T ∧ H T = none ∧ H' = upd H T (.tup [.int (k + (i : Nat)), x]) ∧ ∀ xs, Src K tp H a xs → xs[i]? = some x, fun i H => ∃ xs : List V, Src K tp H a xs ∧ xs.length = i⟩
def IsIt (tp : Bool) (h : Heap) (it a : Addr) (i : Nat) : Prop := if tp then h.IsTupleIter it a i else h.IsListIter it a i
theorem turn_enumC {P : Program} {w : World} {K : PySem.W.Frag} {elts : List Expr} {kk : Nat} {tpos : Pos} (tp : Bool) (a e it : Addr) (k : Int) :
    Turn P w K (.Tuple elts kk tpos) (Itn K tp a k) [e, it] e (fun i h => (∃ old, IsEnum h e it (k + (i : Nat)) old) ∧ IsIt tp h it a i ∧ e ≠ it) where
  mem := by simp
  obj := fun i h st b hb => by
    obtain ⟨⟨old, he⟩, hi, _⟩ := st
    have e' : b = e ∨ b = it := by simpa using hb
    rcases e' with z | z
    · rw [z]; exact ⟨_, he, fun v q => nomatch q⟩
    · rw [z]
      cases tp with
      | true => obtain ⟨o, ho, hc, hd⟩ := hi; exact ⟨o, ho, fun v q => by rw [hd] at q; cases q⟩
      | false => obtain ⟨o, ho, hc, hd⟩ := hi; exact ⟨o, ho, fun v q => by rw [hd] at q; cases q⟩
  keep := fun i h h' st kp => let ⟨⟨old, he⟩, hi, hne⟩ := st; ⟨⟨old, kp e (by simp) _ he⟩, by
    cases tp with
    | true => exact Heap.IsTupleIter.at hi fun o q => kp it (by simp) o q
    | false => exact Heap.IsListIter.at hi fun o q => kp it (by simp) o q, hne⟩
  item := by
    intro X hP hw hK hc i pins s σ H E I hf st hg
    subst hP hw hK
    obtain ⟨⟨old, he⟩, hit, hne⟩ := st
    obtain ⟨xs, x, hq, hx⟩ := hg
    have hel : e < s.heap.objs.size := Heap.lt_size he
    have hil : it < s.heap.objs.size := by
      cases tp with
      | true => obtain ⟨_, q, _⟩ := hit; exact Heap.lt_size q
      | false => obtain ⟨_, q, _⟩ := hit; exact Heap.lt_size q
    have uniq : ∀ ys, Src X.K tp H a ys → ys = xs := fun ys hy => by
      cases tp with
      | true => exact I.tuple_inj hy hq
      | false => exact I.list_inj hy hq
    have fin : ∀ (u : Value) (h' : Heap) (tk : Tok), RelV x u → IsEnumOut h' e it (k + (i : Nat) + 1) u s.heap.objs.size → IsIt tp h' it a (i + 1) → h'.get? s.heap.objs.size = some { cls := .type "tuple", data := .seq #[.int (k + (i : Nat)) tk, u] } → h'.objs.size = s.heap.objs.size + 1 →
        (∀ b o, b ≠ e → b ≠ it → s.heap.get? b = some o → h'.get? b = some o) → ∃ u', some (Value.ref s.heap.objs.size) = some u' ∧ wpAny (model X.prog X.w) X.A (letOwnedTupleGo (.Tuple elts kk tpos) (.ref e) u') (fun _ s2 => ∃ x H', Inv X pins σ H' s2 ∧ RelV x u' ∧ (Itn X.K tp a k).yld i H x H' ∧ ((∃ old, IsEnum s2.heap e it (k + ((i + 1 : Nat) : Int)) old) ∧ IsIt tp s2.heap it a (i + 1) ∧ e ≠ it) ∧ ∀ b ∈ [e, it], H' b = none) E { s with heap := h', toks := tk + 1 } := by
      intro u h' tk ru ho hit' hT hsz hk
      refine ⟨_, rfl, wpAny_letOwnedTupleGo_enum (s := { s with heap := h', toks := tk + 1 }) ho fun h'' he' sb => ?_⟩
      have hT2 : h''.get? s.heap.objs.size = some { cls := .type "tuple", data := .seq #[.int (k + (i : Nat)) tk, u] } := (sb.2 _ (Nat.ne_of_gt hel)).trans hT
      have new : ObjOk X.prog X.w (upd H s.heap.objs.size (.tup [.int (k + (i : Nat)), x])) h'' s.heap.objs.size (.tup [.int (k + (i : Nat)), x]) :=
        ⟨by show 2 ≤ sizeLine; decide, [.int (k + (i : Nat)) tk, u], .cons ⟨_, rfl⟩ (.cons ru .nil), ⟨_, hT2, rfl, _, rfl⟩⟩
      have I1 : Inv X pins σ (upd H s.heap.objs.size (.tup [.int (k + (i : Nat)), x])) { s with heap := h'', toks := tk + 1 } :=
        I.turnedNew (ch := [e, it]) (fun b ob hb q => (sb.2 b (fun z => hb (by simp [z]))).trans (hk b ob (fun z => hb (by simp [z])) (fun z => hb (by simp [z])) q)) hf (Nat.le_refl _) new
      refine ⟨.ref s.heap.objs.size, _, I1, rfl, ⟨_, x, rfl, I.hok.fresh (Nat.le_refl _), rfl, fun ys hy => by rw [uniq ys hy]; exact hx⟩, ⟨⟨u, ?_⟩, ?_, hne⟩, fun b hb => ?_⟩
      · have e1 : k + ((i + 1 : Nat) : Int) = k + (i : Int) + 1 := by omega
        rw [e1]; exact he'
      · cases tp with
        | true => exact Heap.IsTupleIter.at hit' fun o q => (sb.2 it (Ne.symm hne)).trans q
        | false => exact Heap.IsListIter.at hit' fun o q => (sb.2 it (Ne.symm hne)).trans q
      · have hb' : b < s.heap.objs.size := by
          have e' : b = e ∨ b = it := by simpa using hb
          rcases e' with z | z
          · rw [z]; exact hel
          · rw [z]; exact hil
        rw [upd_ne (Nat.ne_of_lt hb')]
        exact (hf b hb).1
    cases tp with
    | true =>
      obtain ⟨its, rv, p, hz⟩ := I.tuple hq
      obtain ⟨u, hu, ru⟩ := rv.get hx
      have hea : ∀ b, b = e ∨ b = it → b ≠ a := fun b hb z => by
        obtain ⟨o, ho, hcl, n, hd⟩ := p
        rcases hb with rfl | rfl
        · rw [z] at he
          have : some o = _ := ho.symm.trans he
          cases this
          exact absurd (Value.type.inj hcl) (by decide)
        · rw [z] at hit
          obtain ⟨o2, ho2, hc2, hd2⟩ := hit
          have : some o = some o2 := ho.symm.trans ho2
          cases this
          rw [hcl] at hc2
          exact absurd (Value.type.inj hc2) (by decide)
      exact wpAny_pyNext_enum_itemC (Draws.tuple (A := X.A.in1) (I.ok.hd hc) it a (Ne.symm (hea it (.inr rfl))) its.toArray) he ⟨hit, p⟩ (by have := (List.getElem?_eq_some_iff.mp hu).1; simpa using this) hne (by simp [hne, hea e (.inl rfl)]) fun u2 h' tk hP ho st' hT hsz hk => by
        have hu2 : u2 = u := by
          have h1 : its[i]? = some u2 := by simpa using hP
          rw [hu] at h1
          exact (Option.some.inj h1).symm
        subst hu2
        exact fin u2 h' tk ru ho st'.1 hT hsz hk
    | false =>
      obtain ⟨its, rv, p, hz⟩ := I.list hq
      obtain ⟨u, hu, ru⟩ := rv.get hx
      have pl := p.isList
      have hea : ∀ b, b = e ∨ b = it → b ≠ a := fun b hb z => by
        obtain ⟨o, ho, hcl, n, hd⟩ := pl
        rcases hb with rfl | rfl
        · rw [z] at he
          have : some o = _ := ho.symm.trans he
          cases this
          exact absurd (Value.type.inj hcl) (by decide)
        · rw [z] at hit
          obtain ⟨o2, ho2, hc2, hd2⟩ := hit
          have : some o = some o2 := ho.symm.trans ho2
          cases this
          rw [hcl] at hc2
          exact absurd (Value.type.inj hc2) (by decide)
      exact wpAny_pyNext_enum_itemC (Draws.list (A := X.A.in1) (I.ok.hd hc) it a (Ne.symm (hea it (.inr rfl))) its.toArray) he ⟨hit, pl⟩ (by have := (List.getElem?_eq_some_iff.mp hu).1; simpa using this) hne (by simp [hne, hea e (.inl rfl)]) fun u2 h' tk hP ho st' hT hsz hk => by
        have hu2 : u2 = u := by
          have h1 : its[i]? = some u2 := by simpa using hP
          rw [hu] at h1
          exact (Option.some.inj h1).symm
        subst hu2
        exact fin u2 h' tk ru ho st'.1 hT hsz hk
  done := by
    intro X hP hw hK hc i pins s σ H E I hf st hg
    subst hP hw hK
    obtain ⟨⟨old, he⟩, hit, hne⟩ := st
    obtain ⟨xs, hq, hx⟩ := hg
    obtain ⟨f0, f1, f2, f3, f4, f5⟩ := hf it (by simp)
    have fin : ∀ h' : Heap, Heap.ExtBut it s.heap h' → (none : Option Value) = none ∧ Inv X pins σ H { s with heap := h' } := fun h' eb => ⟨rfl, I.turned (t' := s.toks) (fun b o hb q => eb b o hb q) f0 f1 f3 f4 f5⟩
    subst hx
    cases tp with
    | true =>
      obtain ⟨its, rv, p, hz⟩ := I.tuple hq
      have hea : a ≠ it := fun z => by
        obtain ⟨o, ho, hcl, n, hd⟩ := p
        obtain ⟨o2, ho2, hc2, hd2⟩ := hit
        rw [z] at ho
        have : some o = some o2 := ho.symm.trans ho2
        cases this
        rw [hcl] at hc2
        exact absurd (Value.type.inj hc2) (by decide)
      have e : xs.length = its.toArray.size := by rw [List.size_toArray]; exact rv.length
      rw [e] at hit he
      exact wpAny_pyNext_enum_endD (Draws.tuple (A := X.A.in1) (I.ok.hd hc) it a hea its.toArray) he ⟨hit, p⟩ fin
    | false =>
      obtain ⟨its, rv, p, hz⟩ := I.list hq
      have pl := p.isList
      have hea : a ≠ it := fun z => by
        obtain ⟨o, ho, hcl, n, hd⟩ := pl
        obtain ⟨o2, ho2, hc2, hd2⟩ := hit
        rw [z] at ho
        have : some o = some o2 := ho.symm.trans ho2
        cases this
        rw [hcl] at hc2
        exact absurd (Value.type.inj hc2) (by decide)
      have e : xs.length = its.toArray.size := by rw [List.size_toArray]; exact rv.length
      rw [e] at hit he
      exact wpAny_pyNext_enum_endD (Draws.list (A := X.A.in1) (I.ok.hd hc) it a hea its.toArray) he ⟨hit, pl⟩ fin
  self := fun A i s Q E st h => let ⟨⟨_, he⟩, _⟩ := st; wpAny_pyIter_enum he h
def iEnumC (K : PySem.W.Frag) (ta : TA) : TI := fun σ H R => ta σ H fun vs H1 => ∃ (tp : Bool) (a : Addr) (xs : List V) (k : Int), (vs = [.ref a] ∧ k = 0 ∨ vs = [.ref a, .int k]) ∧ (-(2 ^ 63) ≤ k ∧ k < 2 ^ 63) ∧ Src K tp H1 a xs ∧ R (Itn K tp a k) H1
theorem enum_go {X : Cx} {pins : List (Addr × Obj)} {σ : L2.St} {H1 : Hp} {s1 : Shared} {R : It → Hp → Prop} {elts : List Expr} {kk : Nat} {tpos : Pos} {tp : Bool} {a : Addr} {xs : List V} {k : Int} {us : List Value} (I1 : Inv X pins σ H1 s1) (hq : Src X.K tp H1 a xs) (q : R (Itn X.K tp a k) H1) (hk : -(2 ^ 63) ≤ k ∧ k < 2 ^ 63)
    (hus : (us = [.ref a] ∧ k = 0) ∨ ∃ t, us = [.ref a, .int k t]) : wpAny (model X.prog X.w) X.A (call (.type "enumerate") us) (fun v s2 => wpAny (model X.prog X.w) X.A (pyIter v) (PIE X pins σ (.Tuple elts kk tpos) R) X.xe s2) X.xe s1 := by
  have fin : ∀ (h' : Heap), IsEnum h' (s1.heap.objs.size + 1) s1.heap.objs.size k .none → IsIt tp h' s1.heap.objs.size a 0 → (∀ b o, s1.heap.get? b = some o → h'.get? b = some o) → wpAny (model X.prog X.w) X.A (pyIter (.ref (s1.heap.objs.size + 1))) (PIE X pins σ (.Tuple elts kk tpos) R) X.xe { s1 with heap := h' } := fun h' he hit hk => by
    refine wpAny_pyIter_enum he ?_
    have I2 : Inv X pins σ H1 { s1 with heap := h' } := I1.kept (t' := s1.toks) hk
    refine ⟨s1.heap.objs.size + 1, [s1.heap.objs.size + 1, s1.heap.objs.size], _, _, H1, rfl, I2, turn_enumC tp a (s1.heap.objs.size + 1) s1.heap.objs.size k, ⟨⟨.none, by simpa using he⟩, hit, Nat.succ_ne_self _⟩, fun b hb => ?_, q⟩
    have e' : b = s1.heap.objs.size + 1 ∨ b = s1.heap.objs.size := by simpa using hb
    have hle : s1.heap.objs.size ≤ b := by
      rcases e' with z | z
      · rw [z]; exact Nat.le_add_right _ _
      · rw [z]; exact Nat.le_refl _
    exact I1.fpOk hle (I1.hok.fresh hle)
  cases tp with
  | true =>
    obtain ⟨its, rv, p, hz⟩ := I1.tuple hq
    rcases hus with ⟨rfl, rfl⟩ | ⟨t, rfl⟩
    · exact enum_begins1 (begins_tuple a its.toArray) p fun h' he ho hsz hk => fin h' he ⟨_, ho, rfl, rfl⟩ hk
    · exact enum_begins (begins_tuple a its.toArray) p hk.1 hk.2 fun h' he ho hsz hk => fin h' he ⟨_, ho, rfl, rfl⟩ hk
  | false =>
    obtain ⟨its, rv, p, hz⟩ := I1.list hq
    rcases hus with ⟨rfl, rfl⟩ | ⟨t, rfl⟩
    · exact enum_begins1 (begins_list a its.toArray) p.isList fun h' he ho hsz hk => fin h' he ⟨_, ho, rfl, rfl⟩ hk
    · exact enum_begins (begins_list a its.toArray) p.isList hk.1 hk.2 fun h' he ho hsz hk => fin h' he ⟨_, ho, rfl, rfl⟩ hk
theorem pi_enumC2 {X : Cx} {e f : Expr} {ta : TA} {p pos tpos : Pos} {elts : List Expr} {kk : Nat} (hg : Gl X "enumerate") (hm : X.mg "enumerate" = none) (ha : PA X [e, f] ta) (hs : starEach [e, f] X.env = (false, eval e X.env) :: starEach [f] X.env := by rfl) (hpl : (backTo pos (starEach [f] X.env)).any (·.1) = false := by rfl) :
    PI X (.Tuple elts kk tpos) (.Call (.Name "enumerate" p) [e, f] [] pos) (iEnumC X.K ta) := by
  refine ⟨fun pins s σ H R I h => ?_⟩
  refine Call_ (ld_blt I hg hm boot_enumerate (PyProof.Rows.callWith_type1 (thn (ha.run pos pins s σ H _ I h) fun us s1 ⟨vs, H1, I1, r1, q1⟩ => ?_) hs hpl))
  obtain ⟨tp, a, xs, k, ex, hk, hq, q⟩ := q1
  refine enum_go I1 hq q hk ?_
  rcases ex with ⟨rfl, rfl⟩ | rfl
  · obtain ⟨u, rfl, rx⟩ := vals1 r1
    obtain rfl : u = .ref a := rx
    exact .inl ⟨rfl, rfl⟩
  · obtain ⟨u1, u2, rfl, r2, r3⟩ := vals2 r1
    obtain rfl : u1 = .ref a := r2
    obtain ⟨t, rfl⟩ := r3
    exact .inr ⟨t, rfl⟩
def enumE (k : Int) (xs : List PyData) : List EV := xs.zipIdx.map fun p => .dat (.tuple [.int (k + (p.2 : Nat)), p.1])
theorem enumE_map {α : Type} (k : Int) (en : α → PyData) (as : List α) : enumE k (as.map en) = as.zipIdx.map fun p => EV.dat (.tuple [.int (k + (p.2 : Nat)), en p.1]) := by
  unfold enumE
  rw [List.zipIdx_map, List.map_map]
  rfl
theorem walk_enumG {K : PySem.W.Frag} {s0 : Wd} {N0 : Nat} {tp : Bool} {a : Addr} {k : Int} {xs : List PyData} {G : Mu → Prop} (hd : ∀ s (μ : Mu), Ext s0 N0 s μ.length → Rep K s μ → G μ → ∃ vs : List V, Src K tp s.H a vs ∧ DRs K s.F vs xs) :
    WalkS K (Itn K tp a k) s0 N0 (enumE k xs) G := by
  intro n s μ x R hG
  obtain ⟨vs, hs, hv⟩ := hd s μ x R hG
  have hl : (enumE k xs).length = xs.length := by unfold enumE; rw [List.length_map, List.length_zipIdx]
  have l1 := hv.length
  refine ⟨fun hn => ⟨vs, vs[n]'(by omega), hs, by simp⟩, ⟨vs, hs, by omega⟩, fun v H' hn hy => ?_⟩
  obtain ⟨T, y, rfl, hT, rfl, e⟩ := hy
  obtain ⟨d1, f1, g1⟩ := hv.getV (e _ hs)
  have kF : Same s.F (upd s.F T (.tup [.int (k + (n : Nat)), y])) := fun a u q => by rw [upd_ne (ne_of_none q (R.notF hT))]; exact q
  refine ⟨{ s with H := upd s.H T (.tup [.int (k + (n : Nat)), y]), F := upd s.F T (.tup [.int (k + (n : Nat)), y]) }, .dat (.tuple [.int (k + (n : Nat)), d1]), rfl, ?_, rfl, (Ext.refl s μ.length).putF R hT, R.putF hT, .tup upd_same (.cons (.int _) (.cons (g1.mono kF) .nil))⟩
  unfold enumE
  rw [List.getElem?_map, List.getElem?_zipIdx, f1]
  simp
theorem walk_enumC {K : PySem.W.Frag} {s0 : Wd} {N0 : Nat} {tp : Bool} {a : Addr} {k : Int} {vs : List V} {xs : List PyData} (hd : ∀ s (μ : Mu), Ext s0 N0 s μ.length → Rep K s μ → Src K tp s.H a vs ∧ DRs K s.F vs xs) :
    WalkS K (Itn K tp a k) s0 N0 (enumE k xs) fun _ => True := walk_enumG fun s μ x R _ => ⟨vs, hd s μ x R⟩
def seqE (r : RI) (k : Int) (n : Nat) (μ : Mu) (c : Option Cell) : Prop := match c with
  | some (.lst xs) => r (enumE k xs) (fun μ' => μ'[n]? = some (.lst xs)) μ
  | some (.frz xs) => r (enumE k xs) (fun μ' => μ'[n]? = some (.frz xs)) μ
  | _ => False
theorem seqE_l {r : RI} {k : Int} {n : Nat} {μ : Mu} {xs : List PyData} : seqE r k n μ (some (.lst xs)) = r (enumE k xs) (fun μ' => μ'[n]? = some (.lst xs)) μ := Eq.trans rfl rfl
def enumK (r : RI) (es : List EV) (μ1 : Mu) : Prop := match es with
  | [.dat (.tuple xs)] => r (enumE 0 xs) (fun _ => True) μ1
  | [.dat (.list xs)] => r (enumE 0 xs) (fun _ => True) μ1
  | [.ro xs] => r (enumE 0 xs) (fun _ => True) μ1
  | [.dat (.tuple xs), .dat (.int k)] => (-1000000 ≤ k ∧ k ≤ 1000000) ∧ r (enumE k xs) (fun _ => True) μ1
  | [.dat (.list xs), .dat (.int k)] => (-1000000 ≤ k ∧ k ≤ 1000000) ∧ r (enumE k xs) (fun _ => True) μ1
  | [.loc n] => seqE r 0 n μ1 μ1[n]?
  | [.loc n, .dat (.int k)] => (-1000000 ≤ k ∧ k ≤ 1000000) ∧ seqE r k n μ1 μ1[n]?
  | _ => False
def iEnumD (t : TDA) : TDI := fun η μ r E => t η μ (fun es μ1 => enumK r es μ1) E
section
variable {t : TDA} {η : DEnv} {μ : Mu} {r : RI} {E : XQ} {xs : List PyData} {k : Int}
theorem x_iEnumD : iEnumD t η μ r E = t η μ (fun es μ1 => enumK r es μ1) E := Eq.trans rfl rfl
theorem enumK_lk : enumK r [.dat (.list xs), .dat (.int k)] μ = ((-1000000 ≤ k ∧ k ≤ 1000000) ∧ r (enumE k xs) (fun _ => True) μ) := Eq.trans rfl rfl
theorem enumK_ck {n : Nat} : enumK r [.loc n, .dat (.int k)] μ = ((-1000000 ≤ k ∧ k ≤ 1000000) ∧ seqE r k n μ μ[n]?) := Eq.trans rfl rfl
end
theorem enum_sem {K : PySem.W.Frag} {s s1 : Wd} {N : Nat} {μ1 : Mu} {es : List EV} {vs : List V} {r : RI} {R : It → Hp → Prop} (hk : enumK r es μ1) (x1 : Ext s N s1 μ1.length) (R1 : Rep K s1 μ1) (rs : VRs K s1 μ1.length s.H vs es)
    (l : ∀ (J : It) (items : List EV) (G : Mu → Prop) (μ' : Mu) (s' : Wd), r items G μ' → Ext s N s' μ'.length → Rep K s' μ' → WalkS K J s' μ'.length items G → R J s'.H) :
    ∃ (tp : Bool) (a : Addr) (xs : List V) (k : Int), (vs = [.ref a] ∧ k = 0 ∨ vs = [.ref a, .int k]) ∧ (-(2 ^ 63) ≤ k ∧ k < 2 ^ 63) ∧ Src K tp s1.H a xs ∧ R (Itn K tp a k) s1.H := by
  have tup : ∀ {x : V} {xs : List PyData} {k : Int}, DR K s1.F x (.tuple xs) → r (enumE k xs) (fun _ => True) μ1 → ∃ a ws, x = .ref a ∧ Src K true s1.H a ws ∧ R (Itn K true a k) s1.H := fun rx hr => by
    cases rx with
    | @tup a ws _ hb hs => exact ⟨a, ws, rfl, SqT.of (R1.sub _ _ hb), l _ _ _ μ1 s1 hr x1 R1 (walk_enumC (vs := ws) fun s2 μ2 x R2 => ⟨SqT.of (R2.sub _ _ (x.f _ _ hb)), hs.mono x.f⟩)⟩
  have lst : ∀ {x : V} {xs : List PyData} {k : Int}, DR K s1.F x (.list xs) → r (enumE k xs) (fun _ => True) μ1 → ∃ a ws, x = .ref a ∧ Src K false s1.H a ws ∧ R (Itn K false a k) s1.H := fun rx hr => by
    cases rx with
    | @lst a ws _ hb hs => exact ⟨a, ws, rfl, SqL.of (R1.sub _ _ hb), l _ _ _ μ1 s1 hr x1 R1 (walk_enumC (vs := ws) fun s2 μ2 x R2 => ⟨SqL.of (R2.sub _ _ (x.f _ _ hb)), hs.mono x.f⟩)⟩
  have loc : ∀ {x : V} {n : Nat} {k : Int}, VR K s1 μ1.length x (.loc n) → seqE r k n μ1 μ1[n]? → ∃ a ws, x = .ref a ∧ Src K false s1.H a ws ∧ R (Itn K false a k) s1.H := fun {x n k} rx hr => by
    obtain ⟨hn, rfl⟩ := rx
    unfold seqE at hr
    split at hr
    · rename_i xs hc
      obtain ⟨_, vs, a1, a2⟩ := R1.cell n _ hc
      refine ⟨_, vs, rfl, SqL.of a1, l _ _ _ μ1 s1 hr x1 R1 (walk_enumG fun s2 μ2 x R2 g => ?_)⟩
      rw [← x.l n hn]
      obtain ⟨_, vs2, b1, b2⟩ := R2.cell n _ g
      exact ⟨vs2, SqL.of b1, b2⟩
    · rename_i xs hc
      obtain ⟨vs, a1, a2⟩ := R1.cell n _ hc
      refine ⟨_, vs, rfl, SqL.of (R1.sub _ _ a1), l _ _ _ μ1 s1 hr x1 R1 (walk_enumG fun s2 μ2 x R2 g => ?_)⟩
      rw [← x.l n hn]
      obtain ⟨vs2, b1, b2⟩ := R2.cell n _ g
      exact ⟨vs2, SqL.of (R2.sub _ _ b1), b2⟩
    · exact hr.elim
  unfold enumK at hk
  split at hk
  · cases rs with
    | cons rx fx rr =>
      cases rr
      obtain ⟨a, ws, rfl, h1, h2⟩ := tup rx hk
      exact ⟨true, a, ws, 0, .inl ⟨rfl, rfl⟩, by decide, h1, h2⟩
  · cases rs with
    | cons rx fx rr =>
      cases rr
      obtain ⟨a, ws, rfl, h1, h2⟩ := lst rx hk
      exact ⟨false, a, ws, 0, .inl ⟨rfl, rfl⟩, by decide, h1, h2⟩
  · cases rs with
    | cons rx fx rr =>
      cases rr
      obtain ⟨a, ws, rfl, h1, h2⟩ := rx
      exact ⟨false, a, ws, 0, .inl ⟨rfl, rfl⟩, by decide, R1.sub.seq h1, l _ _ _ μ1 s1 hk x1 R1 (walk_enumC (vs := ws) fun s2 μ2 x R2 => ⟨R2.sub.seq (x.f.seq h1), h2.mono x.f⟩)⟩
  · cases rs with
    | cons rx fx rr =>
      cases rr with
      | cons ry fy rr =>
        cases rr
        obtain ⟨a, ws, rfl, h1, h2⟩ := tup rx hk.2
        rw [vr_i ry]
        exact ⟨true, a, ws, _, .inr rfl, ⟨by have := hk.1.1; omega, by have := hk.1.2; omega⟩, h1, h2⟩
  · cases rs with
    | cons rx fx rr =>
      cases rr with
      | cons ry fy rr =>
        cases rr
        obtain ⟨a, ws, rfl, h1, h2⟩ := lst rx hk.2
        rw [vr_i ry]
        exact ⟨false, a, ws, _, .inr rfl, ⟨by have := hk.1.1; omega, by have := hk.1.2; omega⟩, h1, h2⟩
  · cases rs with
    | cons rx fx rr =>
      cases rr
      obtain ⟨a, ws, rfl, h1, h2⟩ := loc rx hk
      exact ⟨false, a, ws, 0, .inl ⟨rfl, rfl⟩, by decide, h1, h2⟩
  · cases rs with
    | cons rx fx rr =>
      cases rr with
      | cons ry fy rr =>
        cases rr
        obtain ⟨a, ws, rfl, h1, h2⟩ := loc rx hk.2
        rw [vr_i ry]
        exact ⟨false, a, ws, _, .inr rfl, ⟨by have := hk.1.1; omega, by have := hk.1.2; omega⟩, h1, h2⟩
  · exact hk.elim
theorem di_enum2 {X : Cx} {W : WX} {a b : Expr} {t : TDA} {p pos tpos : Pos} {elts : List Expr} {kk : Nat} (hg : Gl X "enumerate") (hm : X.mg "enumerate" = none) (ha : DA X W [a, b] t) (hs : starEach [a, b] X.env = (false, eval a X.env) :: starEach [b] X.env := by rfl) (hpl : (backTo pos (starEach [b] X.env)).any (·.1) = false := by rfl) :
    DI X W (.Tuple elts kk tpos) (.Call (.Name "enumerate" p) [a, b] [] pos) (iEnumD t) := by
  obtain ⟨t1, p1, g1⟩ := ha.ex
  exact ⟨_, pi_enumC2 hg hm p1 hs hpl, fun s σ η μ R r E S hq l lx => g1 s σ η μ _ _ E S hq (fun es μ1 vs s1 hk x1 R1 rs => enum_sem hk x1 R1 rs l) lx⟩
end DL
set_option Elab.async false
set_option linter.all false
set_option maxRecDepth 100000
set_option maxHeartbeats 4000000
namespace DL
open PySem PySem.Spec PyProof.Rows L2
/-! ### x += y -/
def oIAdd : OD := fun x y μ q => match x, y with
  | .dat (.int i), .dat (.int j) => q (.dat (.int (i + j))) μ
  | .loc n, y => match μ[n]?, lstOf μ y with
    | some (.lst xs), some ys => xs.length + ys.length ≤ 100000 ∧ q (.loc n) (μ.set n (.lst (xs ++ ys)))
    | _, _ => False
  | _, _ => False
abbrev rIAdd : R2 := fun x y H Q => rI0 (fun i j => V.int (i + j)) x y H Q ∨ rExt2 x y H Q
theorem ip_addA {X : Cx} : PIp X .Add rIAdd := iop_add.or iop_ext
theorem os_iadd {K : PySem.W.Frag} : OpS K rIAdd oIAdd := by
  intro s0 N0 s μ x y ex ey q Q R xt rx fx ry fy h l
  unfold oIAdd at h
  split at h
  · exact .inl ⟨_, _, vr_i rx, vr_i ry, ans R xt l h (.int _)⟩
  · split at h
    · rename_i n _ _ xs ys hn hy
      obtain ⟨hlt, rfl⟩ := rx
      obtain ⟨hf, vs, hp, hv⟩ := R.cell n _ hn
      obtain ⟨b, ws, rfl, hb, hw⟩ := lst_ok R ry hy
      obtain ⟨a1, a2⟩ := mut_ok R xt hn (hv.append hw)
      exact .inr ⟨_, b, vs, ws, rfl, rfl, hp, hb, line_of (by rw [hv.length, hw.length]; exact h.1), l (.loc n) _ _ _ h.2 a2 a1 ⟨by rw [List.length_set]; exact hlt, rfl⟩ trivial⟩
    · exact h.elim
  · exact h.elim
theorem iadd_ii {i j : Int} {μ : Mu} {q : PQ} : oIAdd (.dat (.int i)) (.dat (.int j)) μ q = q (.dat (.int (i + j))) μ := Eq.trans rfl rfl
theorem c_iaddn {n : Nat} {ys : List PyData} {μ : Mu} {q : PQ} : oIAdd (.loc n) (.new ys) μ q = lcK μ[n]? fun xs => xs.length + ys.length ≤ 100000 ∧ q (.loc n) (μ.set n (.lst (xs ++ ys))) := by
  simp only [oIAdd, lstOf, lcK]
  all_goals (cases μ[n]? with
    | none => rfl
    | some c => cases c <;> rfl)
/-! ### abs -/
/-! ### xs[::-1] of a tuple -/
section
variable {prog : Program} {w : World} {A : Around} {E : Value → Shared → Prop} {s : Shared}
theorem adjust_rev (n : Nat) : Builtin.Slice.sliceAdjust none none (-1) (n : Int) = ((n : Int) - 1, -1) := by
  unfold Builtin.Slice.sliceAdjust
  simp
theorem places_rev (n : Nat) : Builtin.Slice.slicePlaces ((n : Int) - 1) (-1) (-1) = n := by
  unfold Builtin.Slice.slicePlaces
  have h1 : ¬ ((-1 : Int) > 0) := by decide
  simp only [h1, if_false]
  by_cases h : (n : Int) - 1 > -1
  · rw [if_pos h, show (-(-1) : Int) = 1 by decide, Int.ediv_one]
    omega
  · rw [if_neg h]
    omega
theorem sliceApplied_rev {sl : Addr} {vl vu vs : Value} {n : Nat} {Q : Int × Int × Nat → Shared → Prop} (hs : s.heap.IsSliceOf sl vl vu vs) (pl : IsPart vl none) (pu : IsPart vu none) (ps : IsPart vs (some (-1)))
    (h : Q ((n : Int) - 1, -1, n) s) : wpAny (model prog w) A (Builtin.Slice.sliceApplied (.ref sl) (pure (n : Int))) Q E s := by
  obtain ⟨os, hos, hcs, hds⟩ := id hs
  unfold Builtin.Slice.sliceApplied Builtin.Slice.sliceFields
  refine wpAny_bind (wpAny_bind (wpAny_field hos hds (x := vl) rfl (wpAny_bind (wpAny_field hos hds (x := vu) rfl (wpAny_bind (wpAny_field hos hds (x := vs) rfl (wpAny_pure ?_)))))))
  refine wpAny_bind (HT.slicePart_ ps ?_)
  show wpAny _ _ (if ((-1 : Int) == 0) = true then _ else _) _ _ s
  rw [if_neg (by decide)]
  refine wpAny_bind (HT.slicePart_ pl (wpAny_bind (HT.slicePart_ pu (wpAny_bind (wpAny_pure ?_)))))
  show wpAny _ _ (match Builtin.Slice.sliceAdjust none none (-1) (n : Int) with | (lo, hi) => pure (lo, (-1 : Int), Builtin.Slice.slicePlaces lo hi (-1))) _ _ s
  rw [adjust_rev n]
  show wpAny _ _ (pure ((n : Int) - 1, (-1 : Int), Builtin.Slice.slicePlaces ((n : Int) - 1) (-1) (-1))) _ _ s
  rw [places_rev]
  exact wpAny_pure h
theorem pick_rev (xs : Array Value) : ((List.range xs.size).filterMap fun (m : Nat) => xs[(((xs.size : Int) - 1) + (m : Int) * (-1)).toNat]?).toArray = xs.toList.reverse.toArray := by
  have e : (fun (m : Nat) => xs[(((xs.size : Int) - 1) + (m : Int) * (-1)).toNat]?) = (fun i => xs[i]?) ∘ fun m => xs.size - 1 - m := by
    funext m
    have : (((xs.size : Int) - 1) + (m : Int) * (-1)).toNat = xs.size - 1 - m := by omega
    show xs[_]? = xs[_]?
    rw [this]
  rw [e, ← List.filterMap_map, PySem.W.krv_range, List.filterMap_reverse, PySem.W.krv_all]
theorem getItem_tuple_rev {t sl : Addr} {items : Array Value} {vl vu vs : Value} {Q : Value → Shared → Prop} (ht : IsTup s.heap t items) (hs : s.heap.IsSliceOf sl vl vu vs) (pl : IsPart vl none) (pu : IsPart vu none) (ps : IsPart vs (some (-1)))
    (h : Q (.ref s.heap.objs.size) { s with heap := s.heap.push { cls := .type "tuple", data := .seq items.toList.reverse.toArray } })
    (hsz : items.size ≤ sizeLine) : wpAny (model prog w) A (getItem (.ref t) (.ref sl)) Q E s := by
  have htake : sizeOk (.seq items.toList.reverse.toArray) := by
    show items.toList.reverse.toArray.size ≤ sizeLine
    rw [List.size_toArray, List.length_reverse, Array.length_toList]
    exact hsz
  obtain ⟨os, hos, hcs, hds⟩ := id hs
  have hTs : s.TypeIs (.ref sl) "slice" := ⟨os, hos, hcs⟩
  unfold getItem
  try with_reducible refine wpAny_holding ?_
  first | refine wpAny_bind (wpAny_pure ?_) | skip
  refine wpAny_bind (wpAny_sequenceKey ht.typeIs (by decide) ?_)
  refine wpAny_bind (wpAny_callSpecial?_slot (name := Str.ofString "__getitem__") ht.typeIs PyProof.Rows.slot_tuple_getitem
    (wpAny_call_entry PyProof.Rows.slot_tuple_getitem ht.typeIs entry_tuple_getitem ?_ (args_tuple_getitem _ _)))
  show wpAny _ _ (Builtin.Tuple.tupleItemsOf (.ref t) >>= _) _ _ s
  refine wpAny_bind (tupleItemsOf_ ht ?_)
  refine wpAny_bind (wpAny_typeOf hTs ?_)
  rw [if_pos (by decide)]
  refine wpAny_bind (sliceApplied_rev hs pl pu ps ?_)
  have hno : ¬ ((((items.size : Int) - 1) == 0 && (-1 : Int) == 1 && items.size == items.size) = true) := by
    rw [show ((-1 : Int) == 1) = false by decide, Bool.and_false, Bool.false_and]
    exact Bool.false_ne_true
  show wpAny _ _ (if (((items.size : Int) - 1) == 0 && (-1 : Int) == 1 && items.size == items.size) = true then _ else _) _ _ s
  rw [if_neg hno, pick_rev items]
  first
    | exact wpAny_bind (m := Builtin.Tuple.tupleExact _) (wpAny_newObj_type (wpAny_pure ⟨_, rfl, wpAny_pure h⟩) htake)
    | exact wpAny_bind (m := Builtin.Tuple.tupleExact _) (wpAny_newObj_type (wpAny_bind (wpAny_pure (wpAny_pure ⟨_, rfl, wpAny_pure h⟩))) htake)
    | exact wpAny_bind (wpAny_bind (m := Builtin.Tuple.tupleExact _) (wpAny_newObj_type (wpAny_pure (wpAny_pure ⟨_, rfl, wpAny_pure h⟩)) htake))
    | exact wpAny_bind (wpAny_bind (m := Builtin.Tuple.tupleExact _) (wpAny_newObj_type (wpAny_pure ⟨_, rfl, wpAny_pure h⟩) htake))
end
section
variable {X : Cx}
def tRevA (K : PySem.W.Frag) (te : TE) : TE := fun σ H Q => te σ H fun x H1 => ∃ a xs, x = .ref a ∧ ((SqL K H1 a xs ∧ ∀ p, H1 p = none → Q (.ref p) (upd H1 p (.lst xs.reverse))) ∨ (SqT K H1 a xs ∧ ∀ p, H1 p = none → Q (.ref p) (upd H1 p (.tup xs.reverse))))
theorem pe_revA {e : Expr} {te : TE} {k : Nat} {p1 p2 p3 pos : Pos} (he : PE X e te) : PE X (.Subscript e (.Slice none none (some (.UnaryOp .USub (.Constant (.int 1) k p1) p2)) p3) pos) (tRevA X.K te) := by
  refine ⟨fun pins s σ H Q I h => ?_⟩
  refine Subscript_ (thn (he.run pins s σ H _ I h) fun v s1 ⟨x, H1, I1, r1, q1⟩ => ?_)
  obtain ⟨a, xs, ex, q⟩ := q1
  subst ex
  cases r1
  have hst : PO X (some (.UnaryOp .USub (.Constant (.int 1) k p1) p2)) (tPart (tUn (rU fun i => .int (-i)) (tC (.int 1)))) := po_some (pe_un un_neg pe_int)
  refine wpAny_Slice (thn (po_none.run pins s1 σ H1 (fun o H2 => o = none ∧ H2 = H1) I1 ⟨rfl, rfl⟩) fun vl s2 ⟨l, H2, I2, pl, el, e2⟩ => ?_)
  subst el e2
  refine thn (po_none.run pins s2 σ H2 (fun o H3 => o = none ∧ H3 = H2) I2 ⟨rfl, rfl⟩) fun vu s3 ⟨u, H3, I3, pu, eu, e3⟩ => ?_
  subst eu e3
  refine thn (hst.run pins s3 σ H3 (fun o H4 => o = some (-1) ∧ H4 = H3) I3 ⟨1, rfl, -1, rfl, rfl, rfl⟩) fun vs s4 ⟨o, H4, I4, ps, eo, e4⟩ => ?_
  subst eo e4
  have I5 : Inv X pins σ H4 { s4 with heap := s4.heap.push { cls := .type "slice", data := .fields #[vl, vu, vs] } } := I4.kept (t' := s4.toks) fun b ob q => Heap.get?_push_of_some _ q
  rcases q with ⟨hx, q⟩ | ⟨hx, q⟩
  · obtain ⟨its, r, ht, hz⟩ := I5.list hx
    have hlen := r.length
    show wpAny (model X.prog X.w) X.A (subscriptTail e (.Slice none none (some (.UnaryOp .USub (.Constant (.int 1) k p1) p2)) p3) (.ref a) (.ref s4.heap.objs.size)) (EP X pins σ Q) X.xe { s4 with heap := s4.heap.push { cls := .type "slice", data := .fields #[vl, vu, vs] } }
    refine tail_any (ops := [.ref a, .ref s4.heap.objs.size]) ht.isList.typeIs (PySem.slot_list_getitem.lookup) ?_ (by with_unfolding_all rfl)
    refine wpAny_getItem_list_slice ht.isList (Heap.IsSliceOf.new _ vl vu vs) pl pu ps (by decide) ?_ (by rw [List.size_toArray]; omega)
    rw [PySem.W.krv_pick]
    refine ⟨.ref _, _, I5.laid (t' := s4.toks) (o := .lst xs.reverse) (fun b ob q => Heap.get?_push_of_some _ q) (Nat.le_refl _) ?_, rfl, q _ (I5.hok.fresh (Nat.le_refl _))⟩
    exact ⟨by rw [List.length_reverse]; exact hz, _, 0, r.reverse, Heap.get?_push_size _ rfl⟩
  · obtain ⟨its, r, ht, hz⟩ := I5.tuple hx
    have hlen := r.length
    show wpAny (model X.prog X.w) X.A (subscriptTail e (.Slice none none (some (.UnaryOp .USub (.Constant (.int 1) k p1) p2)) p3) (.ref a) (.ref s4.heap.objs.size)) (EP X pins σ Q) X.xe { s4 with heap := s4.heap.push { cls := .type "slice", data := .fields #[vl, vu, vs] } }
    refine tail_any (ops := [.ref a, .ref s4.heap.objs.size]) ht.typeIs (PyProof.Rows.slot_tuple_getitem.lookup) ?_ (by with_unfolding_all rfl)
    refine getItem_tuple_rev ht (Heap.IsSliceOf.new _ vl vu vs) pl pu ps ?_ (by rw [List.size_toArray]; omega)
    refine ⟨.ref _, _, I5.laid (t' := s4.toks) (o := .tup xs.reverse) (fun b ob q => Heap.get?_push_of_some _ q) (Nat.le_refl _) ?_, rfl, q _ (I5.hok.fresh (Nat.le_refl _))⟩
    exact ⟨by rw [List.length_reverse]; exact hz, _, r.reverse, IsTup.new _ _⟩
end
def revK (q : PQ) (μ1 : Mu) (e : EV) : Prop := match e with
  | .dat (.tuple xs) => q (.dat (.tuple xs.reverse)) μ1
  | e => match lstOf μ1 e with
    | some xs => q (.new xs.reverse) μ1
    | none => False
def dRevL (t : TDE) : TDE := fun η μ q E => t η μ (fun e μ1 => revK q μ1 e) E
theorem DRs.reverse {K : PySem.W.Frag} {F : Hp} {vs : List V} {ds : List PyData} (h : DRs K F vs ds) : DRs K F vs.reverse ds.reverse := by
  induction vs generalizing ds with
  | nil => cases h; exact .nil
  | cons v vs ih =>
    cases h with
    | cons h hs =>
      rw [List.reverse_cons, List.reverse_cons]
      exact (ih hs).append (.cons h .nil)
theorem de_revL {X : Cx} {W : WX} {e : Expr} {te : TDE} {k : Nat} {p1 p2 p3 pos : Pos} (h : DE X W e te) : DE X W (.Subscript e (.Slice none none (some (.UnaryOp .USub (.Constant (.int 1) k p1) p2)) p3) pos) (dRevL te) := by
  obtain ⟨t, p, g⟩ := h.ex
  refine de_pe (pe_revA p) fun s σ η μ Q q E S hq l lx => g s σ η μ _ _ E S hq (fun ex μ1 x s1 hk x1 R1 r1 f1 => ?_) lx
  unfold revK at hk
  split at hk
  · rename_i ds
    obtain ⟨a, vs, rfl, hp, hv⟩ := tup_ok R1 r1 (e := .dat (.tuple ds)) rfl
    exact ⟨a, vs, rfl, .inr ⟨hp, fun p3 hp3 => ans_tup R1 x1 l hk hv.reverse hp3⟩⟩
  · split at hk
    · rename_i xs hx
      obtain ⟨a, vs, rfl, hs, hv⟩ := lst_ok R1 r1 hx
      exact ⟨a, vs, rfl, .inl ⟨SqL.of hs, fun p hp => ans_new R1 x1 l hk hv.reverse hp⟩⟩
    · exact hk.elim
theorem x_dRevL {t : TDE} {η : DEnv} {μ : Mu} {q : PQ} {E : XQ} : dRevL t η μ q E = t η μ (fun e μ1 => revK q μ1 e) E := Eq.trans rfl rfl
/-! ### xs.count(x), xs.index(x) -/
/-! stepping x op= e -/
def augK (c : Option (Option EV)) (k : EV → Prop) : Prop := match c with
  | some (some x) => k x
  | _ => False
theorem augK_s {x : EV} {k : EV → Prop} : augK (some (some x)) k = k x := Eq.trans rfl rfl
section
variable {i : Nat} {te : TDE} {o : OD} {v : TDS} {d : DEnds} {E : XQ} {η : DEnv} {μ : Mu}
theorem s_aug (h : augK η[i]? fun x => noNew x = true ∧ te η μ (fun y μ1 => o x y μ1 fun z μ2 => noNew z = true ∧ d.nx (η.set i (some z)) μ2) E) : sAug i te o d E η μ := by
  unfold sAug
  unfold augK at h
  exact h
theorem q_aug (h : augK η[i]? fun x => noNew x = true ∧ te η μ (fun y μ1 => o x y μ1 fun z μ2 => noNew z = true ∧ v d E (η.set i (some z)) μ2) E) : sSeq (sAug i te o) v d E η μ := s_aug (d := { d with nx := v d E }) h
end
end DL
set_option Elab.async false
set_option linter.all false
set_option maxRecDepth 100000
set_option maxHeartbeats 4000000
namespace DL
open PySem PySem.Spec PyProof.Rows L2
section
variable {μ : Mu} {q : PQ} {xs : List PyData} {n : Nat}
theorem lsA_t : oListA [.dat (.tuple xs)] μ q = q (.new xs) μ := Eq.trans rfl rfl
theorem lsA_l : oListA [.dat (.list xs)] μ q = q (.new xs) μ := Eq.trans rfl rfl
end
def isiB (l d : Bool) (μ : Mu) (q : PQ) (c : Option Cell) : Prop := match c with
  | some (.lst _) => q (.dat (.bool l)) μ
  | some (.frz _) => q (.dat (.bool l)) μ
  | some (.dct _) => q (.dat (.bool d)) μ
  | some (.dck _) => q (.dat (.bool d)) μ
  | _ => False
section
variable {μ : Mu} {q : PQ} {xs : List PyData} {n : Nat} {l d : Bool}
theorem isiB_l : isiB l d μ q (some (.lst xs)) = q (.dat (.bool l)) μ := Eq.trans rfl rfl
theorem c_isi_list : oIsi [.loc n, .raw (.ty "list")] μ q = isiB true false μ q μ[n]? := by
  simp only [oIsi, tyE, isiB]
  cases μ[n]? with
  | none => simp
  | some c => cases c <;> simp [isT]
end
end DL
set_option Elab.async false
set_option linter.all false
set_option maxRecDepth 100000
set_option maxHeartbeats 4000000
namespace DL
open PySem PySem.Spec PyProof.Rows L2
/-! ### list(d.items()), d with tuple keys -/
/-! .. by data -/
theorem s_par {i j : Nat} {ta : TDA} {d : DEnds} {E : XQ} {η : DEnv} {μ : Mu} (h : ta η μ (fun es μ1 => match es with
  | [e1, e2] => noNew e1 = true ∧ noNew e2 = true ∧ d.nx ((η.set i (some e1)).set j (some e2)) μ1
  | _ => False) E) : sPar i j ta d E η μ := h
end DL
set_option Elab.async false
set_option linter.all false
set_option maxRecDepth 100000
set_option maxHeartbeats 4000000
namespace DL
open PySem PySem.Spec PyProof.Rows L2
/-! ### xs.clear() -/
end DL
set_option Elab.async false
set_option linter.all false
set_option maxRecDepth 100000
set_option maxHeartbeats 4000000
namespace DL
open PySem PyProof.Rows
/-! ### data in order -/
/-- the order of encoded items: Python's < -/
structure OrdE {α : Type} (en : α → PyData) (lt : α → α → Bool) : Prop where
  alike : ∀ a b, PySem.W.alike (en a) (en b) = true
  lts : ∀ a b, PySem.W.dataLt (en a) (en b) = lt a b
  eqs : ∀ a b, PyData.eqv (en a) (en b) = true ↔ a = b
  irr : ∀ a, lt a a = false
  tri : ∀ a b, lt a b = true ∨ a = b ∨ lt b a = true
  tr : ∀ a b c, lt a b = true → lt b c = true → lt a c = true
section
variable {α β γ δ : Type} {en : α → PyData} {lt : α → α → Bool} {en2 : β → PyData} {lt2 : β → β → Bool} {en3 : γ → PyData} {lt3 : γ → γ → Bool} {en4 : δ → PyData} {lt4 : δ → δ → Bool}
/-- the first that differs decides -/
def lx2 [DecidableEq α] (lt : α → α → Bool) (lt2 : β → β → Bool) (p q : α × β) : Bool := if p.1 = q.1 then lt2 p.2 q.2 else lt p.1 q.1
section
variable [DecidableEq α]
theorem lx2_tri (O : OrdE en lt) (O2 : ∀ a b, lt2 a b = true ∨ a = b ∨ lt2 b a = true) (p q : α × β) : lx2 lt lt2 p q = true ∨ p = q ∨ lx2 lt lt2 q p = true := by
  obtain ⟨a, b⟩ := p
  obtain ⟨c, d⟩ := q
  unfold lx2
  simp only
  by_cases h : a = c
  · subst h
    simp only [if_true, Prod.mk.injEq, true_and]
    exact O2 b d
  · rw [if_neg h, if_neg (fun z => h z.symm)]
    rcases O.tri a c with z | z | z
    · exact .inl z
    · exact absurd z h
    · exact .inr (.inr z)
theorem lx2_tr (O : OrdE en lt) (O2 : ∀ a b c, lt2 a b = true → lt2 b c = true → lt2 a c = true) (p q r : α × β) (h1 : lx2 lt lt2 p q = true) (h2 : lx2 lt lt2 q r = true) : lx2 lt lt2 p r = true := by
  obtain ⟨a, b⟩ := p
  obtain ⟨c, d⟩ := q
  obtain ⟨e, f⟩ := r
  unfold lx2 at *
  simp only at *
  by_cases e1 : a = c
  · subst e1
    rw [if_pos rfl] at h1
    by_cases e2 : a = e
    · subst e2
      rw [if_pos rfl] at h2 ⊢
      exact O2 _ _ _ h1 h2
    · rw [if_neg e2] at h2 ⊢
      exact h2
  · rw [if_neg e1] at h1
    by_cases e2 : c = e
    · subst e2
      rw [if_neg e1]
      exact h1
    · rw [if_neg e2] at h2
      have h3 := O.tr _ _ _ h1 h2
      rw [if_neg (fun z => by rw [z, O.irr] at h3; cases h3)]
      exact h3
theorem lx2_irr (O2 : ∀ a, lt2 a a = false) (p : α × β) : lx2 lt lt2 p p = false := by
  unfold lx2
  rw [if_pos rfl]
  exact O2 _
end
/-- rows of data in order: what the first of a tuple's items tells, then the others -/
structure OrdR (rn : α → List PyData) (lt : α → α → Bool) : Prop where
  alike : ∀ a b, PySem.W.alikeAll (rn a) (rn b) = true
  lts : ∀ a b, PySem.W.rowLt (rn a) (rn b) = lt a b
  eqs : ∀ a b, PyData.eqvAll (rn a) (rn b) = true ↔ a = b
  irr : ∀ a, lt a a = false
  tri : ∀ a b, lt a b = true ∨ a = b ∨ lt b a = true
  tr : ∀ a b c, lt a b = true → lt b c = true → lt a c = true
theorem rowLt_nil : PySem.W.rowLt [] [] = false := PyProof.Rows.lex_irrefl _
theorem rowLt_cons {x y : PyData} (h : PySem.W.alike x y = true) (xs ys : List PyData) : PySem.W.rowLt (x :: xs) (y :: ys) = if PyData.eqv x y = true then PySem.W.rowLt xs ys else PySem.W.dataLt x y := PySem.W.dataLt_cons h xs ys
theorem OrdE.cons [DecidableEq α] (O : OrdE en lt) {rn : β → List PyData} (O2 : OrdR rn lt2) : OrdR (fun p : α × β => en p.1 :: rn p.2) (lx2 lt lt2) where
  alike a b := by simp [PySem.W.alikeAll, O.alike, O2.alike]
  lts a b := by
    rw [rowLt_cons (O.alike _ _), O2.lts, O.lts]
    unfold lx2
    by_cases h : a.1 = b.1
    · rw [if_pos ((O.eqs _ _).mpr h), if_pos h]
    · rw [if_neg (fun z => h ((O.eqs _ _).mp z)), if_neg h]
  eqs a b := by simp [PyData.eqvAll, O.eqs, O2.eqs, Prod.ext_iff]
  irr p := lx2_irr O2.irr p
  tri p q := lx2_tri O O2.tri p q
  tr p q r := lx2_tr O O2.tr p q r
theorem OrdR.tup {rn : α → List PyData} (O : OrdR rn lt) : OrdE (fun a => .tuple (rn a)) lt where
  alike a b := by simp only [PySem.W.alike]; exact O.alike a b
  lts a b := (PySem.W.dataLt_tuple _ _).trans (O.lts a b)
  eqs a b := by rw [PyData.eqv]; exact O.eqs a b
  irr := O.irr
  tri := O.tri
  tr := O.tr
/-- rows of one kind: the first difference, else the shorter -/
def lxL [DecidableEq α] (lt : α → α → Bool) : List α → List α → Bool
  | [], [] => false
  | [], _ :: _ => true
  | _ :: _, [] => false
  | x :: xs, y :: ys => if x = y then lxL lt xs ys else lt x y
section
variable [DecidableEq α]
theorem lxL_irr (O : OrdE en lt) : ∀ xs : List α, lxL lt xs xs = false
  | [] => rfl
  | x :: xs => by rw [lxL, if_pos rfl, lxL_irr O xs]
theorem lxL_tri (O : OrdE en lt) : ∀ xs ys : List α, lxL lt xs ys = true ∨ xs = ys ∨ lxL lt ys xs = true
  | [], [] => .inr (.inl rfl)
  | [], _ :: _ => .inl rfl
  | _ :: _, [] => .inr (.inr rfl)
  | x :: xs, y :: ys => by
    by_cases h : x = y
    · subst h
      simp only [lxL, if_true, List.cons.injEq, true_and]
      exact lxL_tri O xs ys
    · simp only [lxL, if_neg h, if_neg (fun z : y = x => h z.symm), List.cons.injEq]
      rcases O.tri x y with z | z | z
      · exact .inl z
      · exact absurd z h
      · exact .inr (.inr z)
theorem lxL_tr (O : OrdE en lt) : ∀ xs ys zs : List α, lxL lt xs ys = true → lxL lt ys zs = true → lxL lt xs zs = true
  | [], [], _, h, _ => by cases h
  | [], _ :: _, [], _, h => by cases h
  | [], _ :: _, _ :: _, _, _ => rfl
  | _ :: _, [], _, h, _ => by cases h
  | _ :: _, _ :: _, [], _, h => by cases h
  | x :: xs, y :: ys, z :: zs, h1, h2 => by
    rw [lxL] at h1 h2 ⊢
    by_cases e1 : x = y
    · subst e1
      rw [if_pos rfl] at h1
      by_cases e2 : x = z
      · subst e2
        rw [if_pos rfl] at h2 ⊢
        exact lxL_tr O _ _ _ h1 h2
      · rw [if_neg e2] at h2 ⊢
        exact h2
    · rw [if_neg e1] at h1
      by_cases e2 : y = z
      · subst e2
        rw [if_neg e1]
        exact h1
      · rw [if_neg e2] at h2
        have h3 := O.tr _ _ _ h1 h2
        rw [if_neg (fun w => by rw [w, O.irr] at h3; cases h3)]
        exact h3
theorem rowLt_n {x : PyData} {xs : List PyData} : PySem.W.rowLt [] (x :: xs) = true := by
  unfold PySem.W.rowLt
  rw [PySem.W.toks_all_cons]
  simp only [PySem.W.keyToksAll]
  rw [lex_diff (O := itemOrd) (by simp)]
  rfl
theorem rowLt_c {x : PyData} {xs : List PyData} : PySem.W.rowLt (x :: xs) [] = false := by
  unfold PySem.W.rowLt
  rw [PySem.W.toks_all_cons]
  simp only [PySem.W.keyToksAll]
  rw [lex_diff (O := itemOrd) (by simp)]
  rfl
theorem alikeA_map (O : OrdE en lt) : ∀ xs ys : List α, PySem.W.alikeAll (xs.map en) (ys.map en) = true
  | [], _ => by rw [List.map_nil, PySem.W.alikeAll]
  | _ :: _, [] => by rw [List.map_nil, List.map_cons, PySem.W.alikeAll]
  | x :: xs, y :: ys => by
    rw [List.map_cons, List.map_cons, PySem.W.alikeAll, O.alike, alikeA_map O xs ys]
    rfl
theorem rowLt_map (O : OrdE en lt) : ∀ xs ys : List α, PySem.W.rowLt (xs.map en) (ys.map en) = lxL lt xs ys
  | [], [] => rowLt_nil
  | [], _ :: _ => rowLt_n
  | _ :: _, [] => rowLt_c
  | x :: xs, y :: ys => by
    rw [List.map_cons, List.map_cons, rowLt_cons (O.alike x y), rowLt_map O xs ys, O.lts, lxL]
    by_cases h : x = y
    · rw [if_pos ((O.eqs x y).mpr h), if_pos h]
    · rw [if_neg (fun z => h ((O.eqs x y).mp z)), if_neg h]
theorem eqvA_map (O : OrdE en lt) : ∀ xs ys : List α, PyData.eqvAll (xs.map en) (ys.map en) = true ↔ xs = ys
  | [], [] => by simp [PyData.eqvAll]
  | [], _ :: _ => by simp [PyData.eqvAll]
  | _ :: _, [] => by simp [PyData.eqvAll]
  | x :: xs, y :: ys => by simp [PyData.eqvAll, O.eqs, eqvA_map O xs ys]
theorem OrdE.rows (O : OrdE en lt) : OrdR (fun xs : List α => xs.map en) (lxL lt) where
  alike := alikeA_map O
  lts := rowLt_map O
  eqs := eqvA_map O
  irr := lxL_irr O
  tri := lxL_tri O
  tr := lxL_tr O
end
/-! rising lists -/
end
end DL
namespace DL
open PySem PySem.Spec PyProof.Rows L2
/-! ### sorted(set(xs)), xs a list of tuples of ints -/
/-! ### [f, g][i](..): one of two defs -/
end DL
set_option Elab.async false
set_option linter.all false
set_option maxRecDepth 100000
set_option maxHeartbeats 4000000
namespace DL
open PySem PySem.Spec PyProof.Rows L2
/-! ### dicts whose keys are encoded by tuples -/
structure EncK {α : Type} (ky : α → List Key) (en : α → PyData) : Prop where
  inj : ∀ a b, ky a = ky b → a = b
  dat : ∀ a, en a = .tuple ((ky a).map keyD)
def entK {α : Type} (ky : α → List Key) (p : α × PyData) : List Key × PyData := (ky p.1, p.2)
section
variable {α : Type} {ky : α → List Key} {en : α → PyData}
theorem EncK.eqv (E : EncK ky en) (a b : α) : PyData.eqv (en a) (en b) = true ↔ a = b := by
  rw [E.dat, E.dat, eqv_tup, enc_key.all]
  exact ⟨E.inj a b, fun e => by rw [e]⟩
variable [DecidableEq α]
theorem EncK.put (E : EncK ky en) (l : List (α × PyData)) (a : α) (d : PyData) : putD (l.map (entK ky)) (ky a) d = (putD l a d).map (entK ky) := by
  unfold putD
  have e : ((l.map (entK ky)).any fun kv => decide (kv.1 = ky a)) = l.any fun kv => decide (kv.1 = a) := by
    rw [List.any_map]
    congr 1
    funext p
    simp only [Function.comp, entK]
    exact decide_eq_decide.mpr ⟨E.inj _ _, fun z => by rw [z]⟩
  rw [e]
  split
  · rw [List.map_map, List.map_map]
    refine List.map_congr_left fun p _ => ?_
    show (if ky p.1 = ky a then (ky p.1, d) else (ky p.1, p.2)) = entK ky (if p.1 = a then (p.1, d) else p)
    by_cases h : p.1 = a
    · rw [if_pos h, if_pos (by rw [h])]
      rfl
    · rw [if_neg h, if_neg (fun z => h (E.inj _ _ z))]
      rfl
  · rw [List.map_append]
    rfl
theorem EncK.get (E : EncK ky en) (l : List (α × PyData)) (a : α) : getD (l.map (entK ky)) (ky a) = getD l a := by
  unfold getD
  rw [List.find?_map]
  have e : ((fun kv : List Key × PyData => decide (kv.1 = ky a)) ∘ entK ky) = fun kv : α × PyData => decide (kv.1 = a) := by
    funext p
    simp only [Function.comp, entK]
    exact decide_eq_decide.mpr ⟨E.inj _ _, fun z => by rw [z]⟩
  rw [e, Option.map_map]
  rfl
theorem EncK.drop (E : EncK ky en) (l : List (α × PyData)) (a : α) : dropD (l.map (entK ky)) (ky a) = (dropD l a).map (entK ky) := by
  unfold dropD
  rw [List.filter_map]
  congr 1
  refine List.filter_congr fun p _ => ?_
  simp only [Function.comp, entK]
  exact decide_eq_decide.mpr ⟨fun z e => z (by rw [e]), fun z e => z (E.inj _ _ e)⟩
end
/-! ### spots: sheet, x, y -/
abbrev Sp3 := Int × Int × Int
def spD (c : Sp3) : PyData := .tuple [.int c.1, .int c.2.1, .int c.2.2]
def dc3 (cs : List Sp3) : PyData := .dict (cs.map fun c => (spD c, .bool true))
end DL
set_option Elab.async false
set_option linter.all false
namespace DL
end DL
set_option Elab.async false
set_option linter.all false
set_option maxRecDepth 100000
set_option maxHeartbeats 4000000
namespace DL
open PySem PySem.Spec PyProof.Rows L2
/-! ### instances: attributes read, stored -/
/-- a node, its address told -/
def nodK (μ : Mu) (n : Nat) (p : List Nat) (b : Addr) (k : Knd → List Tree → Prop) : Prop := match nodeAt μ n p with
  | some (.nod kd b' ts) => b' = b ∧ k kd ts
  | _ => False
def atK (i : Option Nat) (ts : List Tree) (k : Nat → Tree → Prop) : Prop := match i with
  | some i => match ts[i]? with
    | some c => k i c
    | none => False
  | none => False
section
variable {X : Cx} {W : WX} {e o : Expr} {f : Str} {te tv : TDE} {pos pos' : Pos}
/-- what becomes a part of a tree -/
def treeK (k : Tree → Prop) : EV → Prop
  | .dat d => k (.dat d)
  | .per c => k (.per c)
  | .new xs => ∀ a, k (.nod .lst a (xs.map .dat))
  | .newd kvs => (kvs.map (·.1)).Nodup ∧ ∀ a, k (.nod (.dct (kvs.map (·.1))) a (kvs.map fun p => .dat p.2))
  | .newk kvs => (kvs.map (·.1)).Nodup ∧ ∀ a, k (.nod (.dck (kvs.map (·.1))) a (kvs.map fun p => .dat p.2))
  | .newo t => k t
  | _ => False
end
end DL
set_option Elab.async false
set_option linter.all false
set_option maxRecDepth 100000
set_option maxHeartbeats 4000000
namespace DL
open PySem PySem.Spec PyProof.Rows L2
/-! ### instances made, their methods called -/
section
variable {X : Cx} {W : WX} {CX' : CXT} {k j : Nat} {C f0 : Addr} {fd : FuncData} {ps : List Str} {dvs : List V} {ds : List Value} {spv : Sp} {x m : Str} {p pos apos : Pos} {e o : Expr} {es : List Expr}
theorem VL.ext {K : PySem.W.Frag} {s s' : Wd} {N N' : Nat} {vs : List V} {es : List EV} (h : VL K s N vs es) (x : Ext s N s' N') : VL K s' N' vs es := by
  induction h with
  | nil => exact .nil
  | cons a _ ih => exact .cons (a.ext x) ih
/-! methods -/
end
end DL
set_option Elab.async false
set_option linter.all false
set_option maxRecDepth 100000
set_option maxHeartbeats 4000000
namespace DL
open PySem PySem.Spec PyProof.Rows L2
/-! ### dicts, lists that are parts of trees -/
/-! d[k] -/
/-! x[k] = v, x a part of a tree -/
end DL
set_option Elab.async false
set_option linter.all false
set_option maxRecDepth 100000
set_option maxHeartbeats 4000000
namespace DL
open PySem PySem.Spec PyProof.Rows L2
/-! ### methods of lists and dicts that are parts of trees -/
/-! ### d.setdefault(k, v) -/
end DL
set_option Elab.async false
set_option linter.all false
set_option maxRecDepth 100000
set_option maxHeartbeats 4000000
namespace DL
open PySem PySem.Spec PyProof.Rows L2
/-! ### items of lists that are parts of trees -/
theorem atI_ix {α : Type} {xs : List α} {i : Int} {j : Nat} {v : α} (h : ixN xs.length i = some j) (hv : xs[j]? = some v) : atI xs i = some v := by
  unfold atI
  rw [h]
  exact hv
/-! a new value becomes a cell of its own -/
/-! [a, b], both new, changed later -/
end DL
set_option Elab.async false
set_option linter.all false
set_option maxRecDepth 100000
set_option maxHeartbeats 4000000
namespace DL
open PySem PySem.Spec PyProof.Rows L2
/-! ### trees by equations -/
end DL
set_option Elab.async false
set_option linter.all false
set_option maxRecDepth 100000
set_option maxHeartbeats 4000000
namespace DL
open PySem PySem.Spec PyProof.Rows L2
/-! ### a dict's cell is still from here on -/
end DL
set_option Elab.async false
set_option linter.all false
set_option maxRecDepth 100000
set_option maxHeartbeats 4000000
namespace DL
open PySem PySem.Spec PyProof.Rows L2
/-- items that are only known to be right -/
theorem lc_rel {α : Type} {en : α → PyData} (R : α → Prop) {lo : Int} {n : Nat} {G : Mu → Prop} {g : TDG} {te : TDE} {vs : List Nat} {η : DEnv} {q : PQ} {μ1 : Mu} (hz : n ≤ 100000) (hG : G μ1)
    (hs : ∀ (a : Nat) (K : PyData → Mu → Prop), a < n → (∀ y, R y → K (en y) μ1) → g (.dat (.int (lo + (a : Nat)))) (wipeD η vs) μ1 fun η2 μ2 => te η2 μ2 (fun ev μ4 => withDat μ4 ev fun d μ5 => K d (μ5.take μ1.length)) EF)
    (hq : ∀ ys : List α, ys.length = n → (∀ y ∈ ys, R y) → q (.new (ys.map en)) μ1) : LcG g tYesD te vs η q (rngItems lo n) G μ1 := by
  refine lc_inv (as := List.range n) (h := fun k : Nat => EV.dat (.int (lo + (k : Nat)))) (fun i acc μ => μ = μ1 ∧ ∃ ys : List α, acc = ys.map en ∧ ys.length = i ∧ ∀ y ∈ ys, R y) (by rw [List.length_range]; exact hz) ⟨rfl, [], rfl, rfl, by simp⟩ ?_ ?_ ?_
  · rintro i acc μ ⟨rfl, ys, rfl, rfl, _⟩
    exact ⟨hG, by rw [List.length_map]; exact Nat.le_refl _⟩
  · rintro i a acc μ ha ⟨rfl, ys, rfl, hl, hR⟩
    have han : a < n := List.mem_range.mp (List.mem_of_getElem? ha)
    exact hs a (fun d μ5 => μ5 = μ ∧ ∃ zs : List α, ys.map en ++ [d] = zs.map en ∧ zs.length = i + 1 ∧ ∀ y ∈ zs, R y) han fun y hy => ⟨rfl, ys ++ [y], by simp, by simp [hl], fun z hz => (List.mem_append.mp hz).elim (hR z) fun e => by rw [List.mem_singleton.mp e]; exact hy⟩
  · rintro acc μ ⟨rfl, ys, rfl, hl, hR⟩
    exact hq ys (by rw [hl, List.length_range]) hR
/-! ### a, b = a list -/
def gLs (n : Nat) (t : TDGs) : TDG := fun e η μ q => match e with
  | .dat (.list ds) => ds.length = n ∧ t ds η μ q
  | _ => False
theorem dg_lst {X : Cx} {pos : Pos} {es : List Expr} {k : Nat} {is : List Nat} {t : TDGs} {n : Nat} (hc : X.calm = true) (h : DGs X es is t) (hn : (assignEach es X.env).length = n := by rfl) (hst : (assignEach es X.env).findIdx? (·.1) = none := by rfl) : DG X (.Tuple es k pos) is (gLs n t) := by
  obtain ⟨t1, p1, g1⟩ := h.ex
  refine ⟨_, pg_lst hc p1 hn hst, fun s σ η μ v e Q q S r hq l => ?_⟩
  unfold gLs at hq
  split at hq
  · rename_i ds
    have r' : DR X.K s.F v (.list ds) := r
    cases r' with
    | lst h hs => exact ⟨_, _, rfl, SqL.of (S.rep.sub _ _ h), by rw [hs.length]; exact hq.1, g1 s σ η μ _ _ Q q S hs hq.2 l⟩
  · exact hq.elim
theorem x_gLs {n : Nat} {t : TDGs} {ds : List PyData} {η : DEnv} {μ : Mu} {q : DEnv → Mu → Prop} : gLs n t (.dat (.list ds)) η μ q = (ds.length = n ∧ t ds η μ q) := Eq.trans rfl rfl
end DL
set_option Elab.async false
set_option linter.all false
set_option maxRecDepth 100000
set_option maxHeartbeats 4000000
namespace DL
open PySem PySem.Spec PyProof.Rows L2
/-! ### divmod -/
def oDivmod : CD := fun es μ q => match es with
  | [.dat (.int i), .dat (.int j)] => CDiv i j ∧ q (.dat (.tuple [.int (i / j), .int (i % j)])) μ
  | _ => False
theorem cs_divmod {K : PySem.W.Frag} : CallS K (fun xs H Q => ∃ i j, xs = [.int i, .int j] ∧ CDiv i j ∧ ∀ p, H p = none → Q (.ref p) (upd H p (.tup [.int (i / j), .int (i % j)]))) oDivmod := by
  intro s0 N0 s μ xs es q Q R xt r h l
  unfold oDivmod at h
  split at h
  · cases r with
    | cons rx fx rr =>
      cases rr with
      | cons ry fy rr =>
        cases rr
        exact ⟨_, _, by rw [vr_i rx, vr_i ry], h.1, fun p hp => ans_tup R xt l h.2 (.cons (.int _) (.cons (.int _) .nil)) hp⟩
  · exact h.elim
theorem divmod_ii {i j : Int} {μ : Mu} {q : PQ} : oDivmod [.dat (.int i), .dat (.int j)] μ q = (CDiv i j ∧ q (.dat (.tuple [.int (i / j), .int (i % j)])) μ) := Eq.trans rfl rfl
end DL
set_option Elab.async false
set_option linter.all false
set_option maxRecDepth 100000
set_option maxHeartbeats 4000000
namespace DL
open PySem PySem.Spec PyProof.Rows L2 NdefX LamX
/-! ### captured cells: known, or left alone -/
/-- a cell's object and what it holds -/
def CelO (o : Obj) (v : V) : HO := .frz o (.ext fun _ => ∃ u, RelV v u ∧ o.data = .cell (some u))
abbrev CMap := Addr → Option HO
def dropC (H : Hp) (C : CMap) : Hp := fun a => match C a with
  | some _ => none
  | none => H a
def layC (H : Hp) (C : CMap) : Hp := fun a => match C a with
  | some o => some o
  | none => H a
theorem dropC_n {H : Hp} {C : CMap} {a : Addr} (h : C a = none) : dropC H C a = H a := by unfold dropC; rw [h]
theorem layC_s {H : Hp} {C : CMap} {a : Addr} {u : HO} (h : C a = some u) : layC H C a = some u := by unfold layC; rw [h]
theorem layC_n {H : Hp} {C : CMap} {a : Addr} (h : C a = none) : layC H C a = H a := by unfold layC; rw [h]
/-- .. as far as can be told -/
def CelM (C : CMap) : Prop := ∀ a u, C a = some u → ∃ o v, u = CelO o v
/-! ### the world with cells, or without them -/
mutual
theorem DR.drop {K : PySem.W.Frag} {F : Hp} {C : CMap} (hm : CelM C) (hc : ∀ a u o, C a = some u → F a = some o → o = u) : ∀ {v : V} {d : PyData}, DR K F v d → DR K (dropC F C) v d
  | _, _, .non => .non
  | _, _, .bl b => .bl b
  | _, _, .int i => .int i
  | _, _, .str x h => .str x h
  | _, _, .lst h hs => .lst (drop_at hm hc h fun _ _ z => nomatch z) (DRs.drop2 hm hc hs)
  | _, _, .tup h hs => .tup (drop_at hm hc h fun _ _ z => nomatch z) (DRs.drop2 hm hc hs)
  | _, _, .dcT h k hs e' => .dcT (drop_at hm hc h fun _ _ z => nomatch z) k (DRs.drop2 hm hc hs) e'
  | _, _, .dcK h k hs e' n' => .dcK (drop_at hm hc h fun _ _ z => nomatch z) k (DRs.drop2 hm hc hs) e' n'
theorem DRs.drop2 {K : PySem.W.Frag} {F : Hp} {C : CMap} (hm : CelM C) (hc : ∀ a u o, C a = some u → F a = some o → o = u) : ∀ {vs : List V} {ds : List PyData}, DRs K F vs ds → DRs K (dropC F C) vs ds
  | _, _, .nil => .nil
  | _, _, .cons h hs => .cons (DR.drop hm hc h) (DRs.drop2 hm hc hs)
theorem drop_at {F : Hp} {C : CMap} (hm : CelM C) (hc : ∀ a u o, C a = some u → F a = some o → o = u) {a : Addr} {o : HO} (h : F a = some o) (ho : ∀ ob x, o ≠ CelO ob x) : dropC F C a = some o := by
  cases q : C a with
  | none => rw [dropC_n q]; exact h
  | some u =>
    obtain ⟨ob, x, rfl⟩ := hm a u q
    exact absurd (hc a _ o q h) (ho ob x)
end
theorem same_lay {F : Hp} {C : CMap} (hn : ∀ a u, C a = some u → F a = none) : Same F (layC F C) := fun a o e => by
  cases q : C a with
  | none => rw [layC_n q]; exact e
  | some u => rw [hn a u q] at e; cases e
end DL
set_option Elab.async false
set_option linter.all false
set_option maxRecDepth 100000
set_option maxHeartbeats 4000000
namespace DL
open PySem PySem.Spec PyProof.Rows L2 NdefX LamX
/-! ### functions as values: of one datum, telling a number, changing nothing -/
/-- what must stand in the still part so that a function may be called -/
structure Need where
  ψ : PySem.W.Frag → Hp → Prop
  mono : ∀ {K : PySem.W.Frag} {F F' : Hp}, Same F F' → ψ K F → ψ K F'
def nT : Need := ⟨fun _ _ => True, fun _ h => h⟩
def nA (a b : Need) : Need := ⟨fun K F => a.ψ K F ∧ b.ψ K F, fun e h => ⟨a.mono e h.1, b.mono e h.2⟩⟩
/-- what stands at f is a function that one may call -/
def FnH (u : HO) (f : Addr) : Prop := (∃ φ, u = .ext φ) ∧ ∀ (P : Program) (w : World) (H : Hp) (h : Heap), ObjOk P w H h f u → PySem.W.FnAt f h
/-- f, asked of x in H, tells r -/
def RunAt (P : Program) (w : World) (K : PySem.W.Frag) (mg : Str → Option Value) (base : Heap) (k : Nat) (f : Addr) (H : Hp) (x : V) (r : Int) : Prop := ∀ (A : Around) (outer : List Env) (sh : Shared) (u : Value), Room k A → Env0 P w K mg base A outer sh H → RelV x u →
  codeAny (model P w) A (.call (.ref f) ⟨[u], []⟩) (CR (L2.CX P w) outer P w H sh (fun v H' => v = .int r ∧ Same H H') fun _ _ _ => False) sh
def Runs (P : Program) (w : World) (K : PySem.W.Frag) (mg : Str → Option Value) (base : Heap) (N : Need) (k : Nat) (g : PyData → Option Int) (f : Addr) (F : Hp) : Prop := ∀ (H F' : Hp) (x : V) (d : PyData) (r : Int), Same F F' → N.ψ K F' → Same F' H → DR K F' x d → g d = some r → RunAt P w K mg base k f H x r
def wP (P : Program) (w : World) (mg : Str → Option Value) (base : Heap) (N : Need) (k : Nat) (g : PyData → Option Int) : Per where
  φ := fun K F v => ∃ f, v = .ref f ∧ (∃ u, F f = some u ∧ FnH u f) ∧ Runs P w K mg base N k g f F
  mono := fun {K F F' v} e h => by
    obtain ⟨f, rfl, ⟨u, h1, h2⟩, h3⟩ := h
    exact ⟨f, rfl, ⟨u, e _ _ h1, h2⟩, fun H F2 x d r e2 => h3 H F2 x d r fun a o z => e2 a o (e a o z)⟩
theorem wP_act {P : Program} {w : World} {mg : Str → Option Value} {base : Heap} {N N' : Need} {k : Nat} {g : PyData → Option Int} {K : PySem.W.Frag} {F : Hp} {v : V} (h : (wP P w mg base N k g).φ K F v) (n : ∀ F', Same F F' → N'.ψ K F' → N.ψ K F') : (wP P w mg base N' k g).φ K F v := by
  obtain ⟨f, rfl, h2, h3⟩ := h
  exact ⟨f, rfl, h2, fun H F2 x d r e2 n2 => h3 H F2 x d r e2 (n F2 e2 n2)⟩
end DL
set_option Elab.async false
set_option linter.all false
set_option maxRecDepth 100000
set_option maxHeartbeats 4000000
namespace DL
open PySem PySem.Spec PyProof.Rows L2 NdefX LamX
/-! ### bodies of made functions -/
/-! ### what a made function captured -/
/-- a captured value, in a still part without the cells -/
def capV (K : PySem.W.Frag) (F : Hp) (v : V) : EV → Prop
  | .dat d => DR K F v d
  | .per c => c.φ K F v
  | _ => False
theorem capV.mono {K : PySem.W.Frag} {F F' : Hp} {v : V} {e : EV} (e1 : Same F F') (h : capV K F v e) : capV K F' v e := by
  cases e with
  | dat d => exact DR.mono e1 h
  | per c => exact c.mono e1 h
  | _ => exact h
/-- the need stands also where cells that hold functions alone are not known -/
def NStab (N : Need) : Prop := ∀ (K : PySem.W.Frag) (F : Hp) (C : CMap), (∀ a u, C a = some u → F a = some u ∧ ∃ o f, u = CelO o (.ref f) ∧ ∃ z, F f = some z ∧ ∃ φ, z = .ext φ) → N.ψ K F → N.ψ K (dropC F C)
end DL
set_option Elab.async false
set_option linter.all false
set_option maxRecDepth 100000
set_option maxHeartbeats 4000000
namespace DL
open PySem PySem.Spec PyProof.Rows L2 NdefX LamX
/-! ### a made function may be called wherever its cells are known -/
section
variable {P : Program} {w : World} {K : PySem.W.Frag} {mg : Str → Option Value} {base : Heap} {fr : List Str} {F : NF} {f : Addr} {k : Nat} {u : HO} {cs cs' : List EV} {g : PyData → Option Int} {N2 : Need}
/-- functions alone, that may need some -/
inductive CapsF (P : Program) (w : World) (mg : Str → Option Value) (base : Heap) : List EV → List EV → Need → Prop
  | nil : CapsF P w mg base [] [] nT
  | cons {N M : Need} {k : Nat} {g : PyData → Option Int} {cs cs' : List EV} : NStab N → CapsF P w mg base cs cs' M → CapsF P w mg base (.per (wP P w mg base N k g) :: cs) (.per (wP P w mg base nT k g) :: cs') (nA N M)
theorem CapsF.len (h : CapsF P w mg base cs cs' N2) : cs'.length = cs.length := by
  induction h with
  | nil => rfl
  | cons _ _ ih => rw [List.length_cons, List.length_cons, ih]
theorem CapsF.fn (h : CapsF P w mg base cs cs' N2) : ∀ e ∈ cs, ∃ N k g, e = .per (wP P w mg base N k g) := by
  induction h with
  | nil => intro e he; cases he
  | cons _ _ ih =>
    intro e he
    rcases List.mem_cons.mp he with rfl | he
    · exact ⟨_, _, _, rfl⟩
    · exact ih e he
end
end DL
set_option Elab.async false
set_option linter.all false
set_option maxRecDepth 100000
set_option maxHeartbeats 4000000
namespace DL
open PySem PySem.Spec PyProof.Rows L2 NdefX LamX
/-! ### a made function by its body's reading -/
end DL
set_option Elab.async false
set_option linter.all false
set_option maxRecDepth 100000
set_option maxHeartbeats 4000000
namespace DL
open PySem PySem.Spec PyProof.Rows L2 NdefX LamX
/-! ### functions are made -/
end DL
set_option Elab.async false
set_option linter.all false
set_option maxRecDepth 100000
set_option maxHeartbeats 4000000
namespace DL
open PySem PySem.Spec PyProof.Rows L2 NdefX LamX
/-! ### functions are made: by data -/
/-! where a made function's words stand -/
end DL
set_option Elab.async false
set_option linter.all false
set_option maxRecDepth 100000
set_option maxHeartbeats 4000000
namespace DL
open PySem PySem.Spec PyProof.Rows L2 NdefX LamX
/-! ### defs that hand out functions which they made -/
/-! ### the cells become known -/
section
variable {K : PySem.W.Frag} {s0 s : Wd} {N0 N : Nat} {μ : Mu} {C : CMap}
theorem CellAt.lay {a : Addr} {c : Cell} (h : CellAt K s a c) (sub : Same s.F s.H) (hn : ∀ a u, C a = some u → s.H a = none) : CellAt K { s with H := layC s.H C, F := layC s.F C } a c := by
  have nF : ∀ a u, C a = some u → s.F a = none := fun a u e => by
    cases q : s.F a with
    | none => rfl
    | some o => exact absurd (sub a o q) (by rw [hn a u e]; simp)
  have hH := same_lay hn
  have hF := same_lay nF
  have ca : C a = none := by
    cases q : C a with
    | none => rfl
    | some u => exact absurd (hn a u q) (h.here sub)
  have at_ : layC s.F C a = s.F a := layC_n ca
  cases c with
  | lst xs => obtain ⟨h1, vs, h2, h3⟩ := h; exact ⟨at_.trans h1, vs, hH _ _ h2, h3.mono hF⟩
  | frz xs => obtain ⟨vs, h2, h3⟩ := h; exact ⟨vs, hF _ _ h2, h3.mono hF⟩
  | dct kvs => obtain ⟨h1, ks, h2, h3, h4⟩ := h; exact ⟨at_.trans h1, ks, hH _ _ h2, h3, h4.mono hF⟩
  | dck kvs => obtain ⟨h1, ks, h2, h3, h4⟩ := h; exact ⟨at_.trans h1, ks, hH _ _ h2, h3, h4.mono hF⟩
  | abs P => obtain ⟨xs, hP, h1, vs, h2, h3⟩ := h; exact ⟨xs, hP, at_.trans h1, vs, hH _ _ h2, h3.mono hF⟩
  | tab P nm => exact ⟨h.1, h.2.to hF (at_.trans h.2.nf) fun _ z => hH _ _ z⟩
  | own t => exact fun z => h (by rw [← layC_n (H := s.H) ca]; exact z)
  | dead => exact fun z => h (by rw [← layC_n (H := s.H) ca]; exact z)
theorem Rep.noF (R : Rep K s μ) (hn : ∀ a u, C a = some u → s.H a = none) : ∀ a u, C a = some u → s.F a = none := fun a u e => by
  cases q : s.F a with
  | none => rfl
  | some o => exact absurd (R.sub a o q) (by rw [hn a u e]; simp)
theorem keeps_lay {F H : Hp} {a : Addr} (h : C a = none) : Keeps F H (layC F C) (layC H C) a := ⟨layC_n h, fun z _ => (layC_n h).trans z⟩
theorem Rep.lay (R : Rep K s μ) (hn : ∀ a u, C a = some u → s.H a = none) : Rep K { s with H := layC s.H C, F := layC s.F C } μ := by
  have nF := R.noF hn
  have nC : ∀ {a : Addr}, s.H a ≠ none → C a = none := fun {a} h => by
    cases q : C a with
    | none => rfl
    | some u => exact absurd (hn a u q) h
  refine R.of rfl (fun a u q => ?_) (fun n c q => (R.cell n c q).lay R.sub hn) (fun a h => by rw [layC_n (nC h)]; exact h) (R.beside (same_lay nF) fun n a h1 h2 => keeps_lay (nC (R.live n a h1 h2)))
  have q : layC s.F C a = some u := q
  show layC s.H C a = some u
  cases e : C a with
  | none => rw [layC_n e] at q ⊢; exact R.sub a u q
  | some z => rw [layC_s e] at q ⊢; exact q
theorem Ext.lay (x : Ext s0 N0 s N) (sub : Same s.F s.H) (hn : ∀ a u, C a = some u → s.H a = none) : Ext s0 N0 { s with H := layC s.H C, F := layC s.F C } N := by
  have nF : ∀ a u, C a = some u → s.F a = none := fun a u e => by
    cases q : s.F a with
    | none => rfl
    | some o => exact absurd (sub a o q) (by rw [hn a u e]; simp)
  have nC : ∀ {a : Addr}, s.H a ≠ none → C a = none := fun {a} h => by
    cases q : C a with
    | none => rfl
    | some u => exact absurd (hn a u q) h
  refine ⟨fun a o z => same_lay nF a o (x.f a o z), x.l, x.le, fun a o h1 h2 => same_lay hn a o (x.keep a o h1 h2), fun a h1 h2 h3 h4 => ?_, x.lnew, x.onew, fun a h => ?_⟩
  · show layC s.F C a = none
    rw [layC_n (nC (x.alive a h3))]
    exact x.fnew a h1 h2 h3 h4
  · show layC s.H C a ≠ none
    rw [layC_n (nC (x.alive a h))]
    exact x.alive a h
end
/-- what stands in a name's slot -/
def slotIs (N : List Str) (η : DEnv) (y : Str) (e : EV) : Prop := ∃ j : Nat, N[j]? = some y ∧ η[j]? = some (some e)
/-- what is left of a need -/
inductive Left (D : Need → Prop) : Need → Need → Prop
  | all {N : Need} : D N → Left D N nT
  | right {a b : Need} : D a → Left D (nA a b) b
mutual
inductive DisT (P : Program) (w : World) (mg : Str → Option Value) (base : Heap) (D : Need → Prop) : Tree → Tree → Prop
  | dat (d : PyData) : DisT P w mg base D (.dat d) (.dat d)
  | fn {N N' : Need} {k : Nat} {g : PyData → Option Int} : Left D N N' → DisT P w mg base D (.per (wP P w mg base N k g)) (.per (wP P w mg base N' k g))
  | nod {k : Knd} {b : Addr} {ts ts' : List Tree} : DisTs P w mg base D ts ts' → DisT P w mg base D (.nod k b ts) (.nod k b ts')
inductive DisTs (P : Program) (w : World) (mg : Str → Option Value) (base : Heap) (D : Need → Prop) : List Tree → List Tree → Prop
  | nil : DisTs P w mg base D [] []
  | cons {t t' : Tree} {ts ts' : List Tree} : DisT P w mg base D t t' → DisTs P w mg base D ts ts' → DisTs P w mg base D (t :: ts) (t' :: ts')
end
/-- what is told, with the needs that are fulfilled -/
inductive Dis (P : Program) (w : World) (mg : Str → Option Value) (base : Heap) (D : Need → Prop) : EV → EV → Prop
  | dat (d : PyData) : Dis P w mg base D (.dat d) (.dat d)
  | fn {N N' : Need} {k : Nat} {g : PyData → Option Int} : Left D N N' → Dis P w mg base D (.per (wP P w mg base N k g)) (.per (wP P w mg base N' k g))
  | newo {t t' : Tree} : DisT P w mg base D t t' → Dis P w mg base D (.newo t) (.newo t')
section
variable {P : Program} {w : World} {mg : Str → Option Value} {base : Heap} {D : Need → Prop} {K : PySem.W.Frag} {F H F' H' : Hp}
mutual
theorem DisT.addrs_eq : ∀ {t t' : Tree}, DisT P w mg base D t t' → addrs t' = addrs t
  | _, _, .dat _ => rfl
  | _, _, .fn _ => by rw [addrs_per, addrs_per]
  | _, _, .nod h => by rw [addrs_nod, addrs_nod, DisTs.addrs_eq h]
theorem DisTs.addrs_eq : ∀ {ts ts' : List Tree}, DisTs P w mg base D ts ts' → addrsL ts' = addrsL ts
  | _, _, .nil => rfl
  | _, _, .cons h hs => by rw [addrsL_cons, addrsL_cons, DisT.addrs_eq h, DisTs.addrs_eq hs]
end
theorem left_ok (hD : ∀ N, D N → N.ψ K F') (e : Same F F') {N N' : Need} {k : Nat} {g : PyData → Option Int} {v : V} (h : Left D N N') (p : (wP P w mg base N k g).φ K F v) : (wP P w mg base N' k g).φ K F' v := by
  refine wP_act ((wP P w mg base N k g).mono e p) fun F2 e2 n => ?_
  cases h with
  | all h => exact N.mono e2 (hD _ h)
  | right h => exact ⟨Need.mono _ e2 (hD _ h), n⟩
mutual
theorem DisT.ok (hD : ∀ N, D N → N.ψ K F') (e : Same F F') : ∀ {t t' : Tree} {v : V}, DisT P w mg base D t t' → TreeR K F H v t → (∀ a ∈ addrs t, Keeps F H F' H' a) → TreeR K F' H' v t'
  | _, _, _, .dat _, .dat h, _ => .dat (h.mono e)
  | _, _, _, .fn l, .per h, _ => .per (left_ok hD e l h)
  | _, _, _, .nod (k := k) (b := b) hs, r, q => by
    have q0 := q b (by rw [addrs_nod]; exact List.mem_cons_self)
    cases r with
    | nod h1 h2 h3 =>
      refine .nod (h1.congr q0.1) ?_ (DisTs.ok hD e hs h3 fun a ha => q a (by rw [addrs_nod]; exact List.mem_cons_of_mem _ ha))
      rcases h2 with h2 | h2
      · exact .inl h2
      · cases k with
        | tup => exact .inl trivial
        | lst => exact .inr (q0.2 h2 fun ws z => by rw [show H b = some (.lst _) from h1] at z; cases z)
        | dck ks => exact .inr (q0.2 h2 fun ws z => by rw [h1.1] at z; cases z)
        | dct ks => exact .inr (q0.2 h2 fun ws z => by rw [h1.1] at z; cases z)
        | ins C fs => exact .inr (q0.2 h2 fun ws z => by obtain ⟨dx, h1, _⟩ := h1; rw [h1] at z; cases z)
        | gho => exact .inr (q0.2 h2 fun ws z => by obtain ⟨o, g1, g2⟩ := h1; rw [g1] at z; cases z; exact g2 _ rfl)
theorem DisTs.ok (hD : ∀ N, D N → N.ψ K F') (e : Same F F') : ∀ {ts ts' : List Tree} {vs : List V}, DisTs P w mg base D ts ts' → TreesR K F H vs ts → (∀ a ∈ addrsL ts, Keeps F H F' H' a) → TreesR K F' H' vs ts'
  | _, _, _, .nil, .nil, _ => .nil
  | _, _, _, .cons h hs, .cons r rs, q => .cons (DisT.ok hD e h r fun a ha => q a (by rw [addrsL_cons]; exact List.mem_append_left _ ha)) (DisTs.ok hD e hs rs fun a ha => q a (by rw [addrsL_cons]; exact List.mem_append_right _ ha))
end
theorem Dis.ok {s : Wd} {N : Nat} {C : CMap} {v : V} {y y' : EV} (hD : ∀ N, D N → N.ψ K (layC s.F C)) (nF : ∀ a u, C a = some u → s.F a = none) (hn : ∀ a u, C a = some u → s.H a = none) (h : Dis P w mg base D y y') (r : VR K s N v y) : VR K { s with H := layC s.H C, F := layC s.F C } N v y' := by
  cases h with
  | dat d => exact DR.mono (same_lay nF) r
  | fn l => exact left_ok hD (same_lay nF) l r
  | newo h =>
    obtain ⟨r1, r2, r3, r4⟩ := r
    refine ⟨by rw [h.addrs_eq]; exact r1, h.ok hD (same_lay nF) r2 fun a ha => keeps_lay ?_, by rw [h.addrs_eq]; exact r3, by rw [h.addrs_eq]; exact r4⟩
    cases q : C a with
    | none => rfl
    | some u => exact absurd (hn a u q) (r2.live a ha)
end
end DL
set_option Elab.async false
set_option linter.all false
set_option maxRecDepth 100000
set_option maxHeartbeats 4000000
namespace DL
open PySem PySem.Spec PyProof.Rows L2 NdefX LamX
/-! ### a def with cells, at its end -/
section
variable {X : Cx} {σ : L2.St} {H : Hp} {s : Shared}
/-- the cell at a: its object, its value -/
def Good (X : Cx) (σ : L2.St) (h : Heap) (a : Addr) (o : Obj) (v : V) : Prop := ∃ (y : Str) (j : Nat) (x : Value), X.env.cells.lookup y = some a ∧ X.N[j]? = some y ∧ σ[j]? = some (some v) ∧ h.get? a = some o ∧ RelV v x ∧ o.data = .cell (some x)
end
end DL
set_option Elab.async false
set_option linter.all false
set_option maxRecDepth 100000
set_option maxHeartbeats 4000000
namespace DL
open PySem PySem.Spec PyProof.Rows L2 NdefX LamX
/-! ### lists with functions in them; equations; a law's start with tables -/
/-! equations -/
end DL
set_option Elab.async false
set_option linter.all false
set_option maxRecDepth 100000
set_option maxHeartbeats 4000000
namespace DL
open PySem PySem.Spec PyProof.Rows L2 NdefX LamX
/-! ### a dict that is captured is locked for good -/
def lockC (η : DEnv) (μ : Mu) (i n : Nat) (c : Option Cell) (κ : DEnv → Mu → Prop) : Prop := match c with
  | some (.dct kvs) => κ (η.set i (some (.dat (.dict (kvT kvs))))) (μ.set n .dead)
  | _ => False
def lockE (η : DEnv) (μ : Mu) (i : Nat) (o : Option (Option EV)) (κ : DEnv → Mu → Prop) : Prop := match o with
  | some (some (.loc n)) => lockC η μ i n μ[n]? κ
  | some (some (.dat _)) => κ η μ
  | _ => False
def sLock (i : Nat) (td : TDS) : TDS := fun d E η μ => lockE η μ i η[i]? fun η' μ' => td d E η' μ'
theorem s_lock {i : Nat} {td : TDS} {d : DEnds} {E : XQ} {η : DEnv} {μ : Mu} (h : lockE η μ i η[i]? fun η' μ' => td d E η' μ') : sLock i td d E η μ := h
theorem q_lock {i : Nat} {td u : TDS} {d : DEnds} {E : XQ} {η : DEnv} {μ : Mu} (h : lockE η μ i η[i]? fun η' μ' => sSeq td u d E η' μ') : sSeq (sLock i td) u d E η μ := h
/-! captured names by their slots -/
inductive SlotsAre (N : List Str) (η : DEnv) : List Str → List EV → Prop
  | nil : SlotsAre N η [] []
  | cons {y : Str} {e : EV} {fr : List Str} {cs : List EV} (j : Nat) : N[j]? = some y → η[j]? = some (some e) → SlotsAre N η fr cs → SlotsAre N η (y :: fr) (e :: cs)
theorem SlotsAre.all {N : List Str} {η : DEnv} {fr : List Str} {cs : List EV} (h : SlotsAre N η fr cs) : ∀ (i : Nat) (y : Str) (e : EV), fr[i]? = some y → cs[i]? = some e → slotIs N η y e := by
  induction h with
  | nil => intro i y e h; simp at h
  | cons j h1 h2 _ ih =>
    intro i y e g1 g2
    cases i with
    | zero => simp at g1 g2; subst g1 g2; exact ⟨j, h1, h2⟩
    | succ i => exact ih i y e (by simpa using g1) (by simpa using g2)
end DL
set_option Elab.async false
set_option linter.all false
set_option maxRecDepth 100000
set_option maxHeartbeats 4000000
namespace DL
open PySem PySem.Spec PyProof.Rows L2
/-! ### {k: v}, d.pop(k, x), d != {} of dicts that are trees -/
/-! d.pop(k, x) -/
/-! == and != of dicts with int and text keys, one of them empty -/
end DL
set_option Elab.async false
set_option linter.all false
set_option maxRecDepth 100000
set_option maxHeartbeats 4000000
namespace DL
open PySem PySem.Spec PyProof.Rows L2
/-! ### d.clear() of a dict with tuple keys -/
end DL
namespace PySem.W
open Lean Elab Tactic Meta PySem PySem.Calls PyProof.Rows PyProof.V PySem.Spec
end PySem.W
namespace DL
open PySem PySem.Spec PyProof.Rows L2
/-! ### == of dicts with tuple keys and ints -/
end DL
set_option Elab.async false
set_option linter.all false
set_option maxRecDepth 100000
set_option maxHeartbeats 4000000
namespace DL
open PySem PySem.Spec PyProof.Rows L2
/-! ### min(xs), min(xs, default=d), xs a list of data that compare -/
/-! ### .. stepping -/
/-! ### .. of encoded items -/
section
variable {α : Type} {en : α → PyData} {lt : α → α → Bool}
theorem OrdR.lst {rn : α → List PyData} (O : OrdR rn lt) : OrdE (fun a => .list (rn a)) lt where
  alike a b := by simp only [PySem.W.alike]; exact O.alike a b
  lts a b := (PySem.W.dataLt_list _ _).trans (O.lts a b)
  eqs a b := by rw [PyData.eqv]; exact O.eqs a b
  irr := O.irr
  tri := O.tri
  tr := O.tr
end
end DL
set_option Elab.async false
set_option linter.all false
set_option maxRecDepth 100000
set_option maxHeartbeats 4000000
namespace DL
open PySem PySem.Spec PyProof.Rows L2
/-! ### d.get(k), d.get(k, z), tuple keys -/
/-! ### x[i] = d, x a list that is a part of a tree -/
/-! ### tuple(x), x a list of data that is a part of a tree -/
end DL
set_option Elab.async false
set_option linter.all false
set_option maxRecDepth 100000
set_option maxHeartbeats 4000000
namespace DL
open PySem PySem.Spec PyProof.Rows L2
/-! ### f(..)[i], f's answer a new list with functions in it -/
end DL
set_option Elab.async false
set_option linter.all false
set_option maxRecDepth 100000
set_option maxHeartbeats 4000000
namespace DL
open PySem PySem.Spec PyProof.Rows L2 NdefX LamX
/-! ### defs that make functions, and may end early with data -/
end DL
set_option Elab.async false
set_option linter.all false
set_option maxRecDepth 100000
set_option maxHeartbeats 4000000
namespace DL
open PySem PySem.Spec PyProof.Rows L2 NdefX LamX
/-! ### f(.., a function made here, ..): the call runs with the frame's own cells known -/
/-! ### the world without the cells again -/
section
variable {K : PySem.W.Frag} {s s' : Wd} {N : Nat} {μ : Mu} {C : CMap}
theorem TabAt.drop {F H : Hp} {a : Addr} {nm : Str} (h : TabAt F H a nm) (hm : CelM C) (hc : ∀ a u o, C a = some u → F a = some o → o = u) (ca : C a = none) : TabAt (dropC F C) (dropC H C) a nm := by
  obtain ⟨h1, ps, h2, h3, h4⟩ := h
  refine ⟨by rw [dropC_n ca]; exact h1, ps, by rw [dropC_n ca]; exact h2, h3, fun pos cv e => ?_⟩
  obtain ⟨c, e1, e2⟩ := h4 pos cv e
  refine ⟨c, e1, drop_at hm hc e2 fun ob x z => ?_⟩
  have z1 : LamX.CodeO c nm = CelO ob x := z
  unfold LamX.CodeO CelO at z1
  cases z1
end
/-! ### the rule -/
inductive DisA (P : Program) (w : World) (mg : Str → Option Value) (base : Heap) (D : Need → Prop) : EV → EV → Prop
  | dat (d : PyData) : DisA P w mg base D (.dat d) (.dat d)
  | loc (n : Nat) : DisA P w mg base D (.loc n) (.loc n)
  | fn {N N' : Need} {k : Nat} {g : PyData → Option Int} : Left D N N' → DisA P w mg base D (.per (wP P w mg base N k g)) (.per (wP P w mg base N' k g))
inductive DisL (P : Program) (w : World) (mg : Str → Option Value) (base : Heap) (D : Need → Prop) : List EV → List EV → Prop
  | nil : DisL P w mg base D [] []
  | cons {e e' : EV} {es es' : List EV} : DisA P w mg base D e e' → DisL P w mg base D es es' → DisL P w mg base D (e :: es) (e' :: es')
section
variable {P : Program} {w : World} {mg : Str → Option Value} {base : Heap} {D : Need → Prop} {K : PySem.W.Frag} {s : Wd} {N : Nat} {C : CMap}
theorem DisA.ok {v : V} {y y' : EV} (hD : ∀ N, D N → N.ψ K (layC s.F C)) (nF : ∀ a u, C a = some u → s.F a = none) (h : DisA P w mg base D y y') (r : VR K s N v y) : VR K { s with H := layC s.H C, F := layC s.F C } N v y' := by
  cases h with
  | dat d => exact DR.mono (same_lay nF) r
  | loc n => exact r
  | fn l => exact left_ok hD (same_lay nF) l r
theorem DisL.ok (hD : ∀ N, D N → N.ψ K (layC s.F C)) (nF : ∀ a u, C a = some u → s.F a = none) : ∀ {vs : List V} {es es' : List EV}, DisL P w mg base D es es' → VL K s N vs es → VL K { s with H := layC s.H C, F := layC s.F C } N vs es'
  | _, _, _, .nil, .nil => .nil
  | _, _, _, .cons h hs, .cons r rs => .cons (h.ok hD nF r) (DisL.ok hD nF hs rs)
end
end DL
set_option Elab.async false
set_option linter.all false
set_option maxRecDepth 100000
set_option maxHeartbeats 4000000
namespace DL
open PySem PySem.Spec PyProof.Rows L2
open PySem.Froz (sObj addTx tailTx TxOk add_ok add_x is_str)
/-! ### sets of texts: how they grow -/
/-- the set at a holds the texts l -/
structure SetX (P : Program) (w : World) (h : Heap) (a : Addr) (l : List Str) : Prop where
  ex : ∃ D : Froz.SD, h.get? a = some (sObj "set" D) ∧ TxOk P w D l ∧ Ris D.2.2.place.toList ∧ (w.params.followText "set-order" = true ∨ D.2.2.led = true)
  nd : l.Nodup
theorem SetX.at {P : Program} {w : World} {h h' : Heap} {a : Addr} {l : List Str} (R : SetX P w h a l) (k : ∀ o, h.get? a = some o → h'.get? a = some o) : SetX P w h' a l := by
  obtain ⟨⟨D, ho, r⟩, nd⟩ := R
  exact ⟨⟨D, k _ ho, r⟩, nd⟩
end DL
set_option Elab.async false
set_option linter.all false
set_option maxRecDepth 100000
set_option maxHeartbeats 4000000
namespace DL
open PySem PySem.Spec PyProof.Rows L2
open PySem.Froz (sObj TxOk)
/-! ### .. sorted -/
/-! ### as an expression -/
end DL
set_option Elab.async false
set_option linter.all false
set_option maxRecDepth 100000
set_option maxHeartbeats 4000000
namespace DL
open PySem PySem.Spec PyProof.Rows L2
/-! ### x in C, C a written tuple of texts -/
end DL
set_option Elab.async false
set_option linter.all false
set_option maxRecDepth 100000
set_option maxHeartbeats 4000000
namespace DL
open PySem PySem.Spec PyProof.Rows L2
/-! ### more of cells -/
theorem revK_c {n : Nat} {μ : Mu} {q : PQ} : revK q μ (.loc n) = lcR μ[n]? fun xs => q (.new xs.reverse) μ := by
  simp only [revK, lstOf, lcR]
  all_goals (cases μ[n]? with
    | none => rfl
    | some c => cases c <;> rfl)
end DL
set_option Elab.async false
set_option linter.all false
set_option maxRecDepth 100000
set_option maxHeartbeats 4000000
namespace DL
open PySem PySem.Spec PyProof.Rows L2
/-! ### exceptions whose context is None -/
section
variable {P : Program} {w : World} {K : PySem.W.Frag} {mg : Str → Option Value} {base : Heap}
theorem fun_okN {x qual : Str} {st : Stmt} {f : Addr} {fd : FuncData} {N ps : List Str} {k : Nat} {sp : Sp} (F : Fun K x qual st f fd) (S : FnScope N ps (defScope st)) (len : ∀ vs H Q E, sp vs H Q E → vs.length = ps.length)
    (hbody : ∀ (cdv : Value) (A : Around) (outer : List Env) (s : Shared) (H : Hp) (vs : List V) (Q : VK) (E : XK), Room k (A.deeper (envOfC qual (defScope st) s.heap.objs.size f cdv)) → sp vs H Q E →
      ∃ t, PSs (cxOf (L2N.CX P w) P w K mg base N qual (defScope st) f cdv A outer s H E) (defBody st) t ∧ t { nx := fun _ H' => Q .non H', rt := Q } (L2.start N vs) H) : FnOk P w K mg base (L2N.CX P w) (k + 1) f fd ps sp := by
  obtain ⟨oc, od, kV, doc, pm, an, cdv, ct, osl, rfl, lk, hcd⟩ := F.ex
  exact fn_of lk hcd S len fun A outer s H vs Q E hr hsp => hbody cdv A outer s H vs Q E hr hsp
theorem fd_ofN {x qual : Str} {st : Stmt} {f : Addr} {fd : FuncData} {N ps : List Str} {k : Nat} {sp : SpD} {td : TDS} (F : Fun K x qual st f fd) (S : FnScope N ps (defScope st))
    (body : ∀ (cdv : Value) (A : Around) (outer : List Env) (s : Shared) (H : Hp) (E : XK), Room k (A.deeper (envOfC qual (defScope st) s.heap.objs.size f cdv)) →
      DSs (cxOf (L2N.CX P w) P w K mg base N qual (defScope st) f cdv A outer s H E) (fun cls d _ H => E cls d H) (defBody st) td)
    (h : ∀ (es : List EV) (μ : Mu) (q : PQ) (x : XQ), es.length = ps.length → sp es μ q x → td { nx := fun _ μ' => exitQ μ.length q (.dat .none) μ', rt := exitQ μ.length q } (fun y μ' => x y (μ'.take μ.length)) (startD N es) μ) :
    FnOk P w K mg base (L2N.CX P w) (k + 1) f fd ps (spOf K ps.length sp) := by
  refine fun_okN F S (fun vs H Q E hs => hs.1) fun cdv A outer sh H vs Q E hr hs => ?_
  obtain ⟨hl, s, μ, es, q, x, rfl, R, hv, hsp, l, lx⟩ := hs
  obtain ⟨t, p, g⟩ := (body cdv A outer sh s.H E hr).ex
  have l' := exit_ok l fun n hn => R.here hn
  refine ⟨t, p, g s _ (startD N es) μ _ _ _ ⟨R, er_start hv⟩ (h es μ q x (by rw [← hv.len]; exact hl) hsp) ⟨fun η' μ' σ' s' hq x' S' => ?_, l', fun _ _ _ _ z => z.elim, fun _ _ _ _ z => z.elim, fun y μ' cls dd σ' s' hq x' R' r => ?_⟩⟩
  · exact l' (.dat .none) μ' .non s' hq x' S'.rep .non trivial
  · have e1 : (μ'.take μ.length).length = μ.length := by rw [List.length_take]; have := x'.le; omega
    exact lx y _ cls dd s' hq (by rw [e1]; exact x'.take (Nat.le_refl _) x'.le) (R'.take _) r
end
/-- what stands at a def's name: its exceptions have no context -/
structure DefAtN (P : Program) (w : World) (K : PySem.W.Frag) (mg : Str → Option Value) (base : Heap) (x : Str) (k : Nat) (ps : List Str) (dvs : List V) (ds : List Value) (sp : SpD) : Prop where
  ex : ∃ (f : Addr) (fd : FuncData), FnOk P w K mg base (L2N.CX P w) k f fd ps (spOf K ps.length sp) ∧ mg x = some (.ref f) ∧ PySem.W.keepIn K (.ref f) = true ∧ Binds K fd ps ds
  dv : Vals dvs ds
section
variable {P : Program} {w : World} {K : PySem.W.Frag} {mg : Str → Option Value} {base : Heap}
theorem def_okN {x qual : Str} {st : Stmt} {f : Addr} {fd : FuncData} {N ps : List Str} {k : Nat} {td : TDS} (sp : SpD) (F : Fun K x qual st f fd) (S : FnScope N ps (defScope st)) (hm : mg x = some (.ref f)) (hb : Binds K fd ps [])
    (body : ∀ (cdv : Value) (A : Around) (outer : List Env) (s : Shared) (H : Hp) (E : XK), Room k (A.deeper (envOfC qual (defScope st) s.heap.objs.size f cdv)) →
      L2N.Takes (cxOf (L2N.CX P w) P w K mg base N qual (defScope st) f cdv A outer s H E) (fun cls d _ H => E cls d H) →
      PassesOwn (model P w) (A.deeper (envOfC qual (defScope st) s.heap.objs.size f cdv)) (envOfC qual (defScope st) s.heap.objs.size f cdv) (cxOf (L2N.CX P w) P w K mg base N qual (defScope st) f cdv A outer s H E).xe →
      DSs (cxOf (L2N.CX P w) P w K mg base N qual (defScope st) f cdv A outer s H E) (fun cls d _ H => E cls d H) (defBody st) td)
    (h : ∀ (es : List EV) (μ : Mu) (q : PQ) (x : XQ), es.length = ps.length → sp es μ q x → td { nx := fun _ μ' => exitQ μ.length q (.dat .none) μ', rt := exitQ μ.length q } (fun y μ' => x y (μ'.take μ.length)) (startD N es) μ) :
    DefAtN P w K mg base x (k + 1) ps [] [] sp :=
  ⟨⟨f, fd, fd_ofN F S (fun cdv A outer s H E hr => body cdv A outer s H E hr (L2N.takes_of rfl rfl rfl rfl) (passes_of rfl)) h, hm, F.kp, hb⟩, .nil⟩
end
section
variable {X : Cx} {W : WX} {x : Str} {p pos : Pos} {k j : Nat} {ps : List Str} {dvs : List V} {ds : List Value} {sp : SpD} {e : Expr} {es : List Expr} {t : TDA}
/-- f(e, ..) where f raises nothing -/
def dCallF (n : Nat) (sp : SpD) (des : List EV) (t : TDA) : TDE := fun η μ q E => t η μ (fun es μ1 => allOld es = true ∧ (es ++ des).length = n ∧ sp (es ++ des) μ1 q EF) E
theorem de_callF {des : List EV} (F : DefAt X.prog X.w X.K X.mg X.base x k ps dvs ds sp) (hr : Room j X.A) (hj : k ≤ j) (hg : Gl X x) (hn : ∀ (s : Wd) (N : Nat), VL X.K s N dvs des) (ha : DA X W (e :: es) t)
    (hdb : (x == ("__debug__" : Str)) = false := by decide) (he : starEach (e :: es) X.env = (false, eval e X.env) :: starEach es X.env := by rfl) (hpl : (backTo pos (starEach es X.env)).any (·.1) = false := by rfl) :
    DE X W (.Call (.Name x p) (e :: es) [] pos) (dCallF ps.length sp des t) := by
  obtain ⟨f, fd, G, hm, hk, hb⟩ := F.ex
  obtain ⟨t1, p1, g1⟩ := ha.ex
  refine de_pe (pe_callSD (E := WE WF) G (hr.mono hj) hg hm hk hb F.dv (fun σ pins H s e s' I c => by
    obtain ⟨_, _, _, _, _, _, _, _, _, _, _, _, z⟩ := c
    exact z.elim) p1 hdb he hpl) fun s σ η μ Q q E S hq l lx => g1 s σ η μ _ _ E S hq (fun es' μ1 vs s1 hk1 x1 R1 r1 => ?_) lx
  obtain ⟨ho, hl, hk1⟩ := hk1
  have hv := r1.vl.append (hn s1 μ1.length)
  exact ⟨hv.len.trans hl, s1, μ1, es' ++ des, q, EF, rfl, R1, hv, hk1, l.go x1 R1, fun _ _ _ _ _ z => z.elim⟩
/-- f(e, ..) where what f raises has no context -/
theorem de_callN {des : List EV} (F : DefAtN X.prog X.w X.K X.mg X.base x k ps dvs ds sp) (hr : Room j X.A) (hj : k ≤ j) (hg : Gl X x) (tk : L2N.Takes X W) (hn : ∀ (s : Wd) (N : Nat), VL X.K s N dvs des) (ha : DA X W (e :: es) t)
    (hdb : (x == ("__debug__" : Str)) = false := by decide) (he : starEach (e :: es) X.env = (false, eval e X.env) :: starEach es X.env := by rfl) (hpl : (backTo pos (starEach es X.env)).any (·.1) = false := by rfl) :
    DE X W (.Call (.Name x p) (e :: es) [] pos) (dCall ps.length sp des t) := by
  obtain ⟨f, fd, G, hm, hk, hb⟩ := F.ex
  obtain ⟨t1, p1, g1⟩ := ha.ex
  refine de_pe (pe_callSD (E := WE W) G (hr.mono hj) hg hm hk hb F.dv (fun σ => L2N.passAt tk σ) p1 hdb he hpl) fun s σ η μ Q q E S hq l lx => g1 s σ η μ _ _ E S hq (fun es' μ1 vs s1 hk1 x1 R1 r1 => ?_) lx
  obtain ⟨ho, hl, hk1⟩ := hk1
  have hv := r1.vl.append (hn s1 μ1.length)
  exact ⟨hv.len.trans hl, s1, μ1, es' ++ des, q, E, rfl, R1, hv, hk1, l.go x1 R1, lx.go x1 R1⟩
theorem x_dCallF {n : Nat} {des : List EV} {η : DEnv} {μ : Mu} {q : PQ} {E : XQ} : dCallF n sp des t η μ q E = t η μ (fun es μ1 => allOld es = true ∧ (es ++ des).length = n ∧ sp (es ++ des) μ1 q EF) E := Eq.trans rfl rfl
end
theorem ds_raiseN {X : Cx} {W : WX} {C : Addr} {bmB : List Value} {B newId initId : String} {x m : Str} {j : Nat} {p p2 pos pos' : Pos} (hc : X.calm = true) (tk : L2N.Takes X W) (F : ExcBaseFacts B newId initId bmB) (q : PySem.W.excIn X.K C bmB newId = true) (gC : X.mg x = some (.ref C)) (kC : PySem.W.keepIn X.K (.ref C) = true) (r : Raises X (.ref C)) (hg : Gl X x)
    (hdb : (x == ("__debug__" : Str)) = false := by decide) : DS X W (.Raise (some (.Call (.Name x p) [.Constant (.str m) j p2] [] pos)) none pos') (sRaise C) :=
  ⟨_, L2N.ps_raise hc tk (L2N.pmk_own F q gC kC r hg hdb), fun s σ η μ D d E S hq l => l.xq ⟨C, none⟩ μ (.ref C) none σ s hq (Ext.refl _ _) S.rep ⟨rfl, trivial⟩⟩
/-- raise in an except suite -/
theorem ds_raiseH {X : Cx} {W : WX} {C : Addr} {bmB : List Value} {B newId initId : String} {x m : Str} {j : Nat} {p p2 pos pos' : Pos} (hc : L2H.HotC X) (tk : Takes X W) (F : ExcBaseFacts B newId initId bmB) (q : PySem.W.excIn X.K C bmB newId = true) (gC : X.mg x = some (.ref C)) (kC : PySem.W.keepIn X.K (.ref C) = true) (r : Raises X (.ref C)) (hg : Gl X x)
    (hdb : (x == ("__debug__" : Str)) = false := by decide) : DS X W (.Raise (some (.Call (.Name x p) [.Constant (.str m) j p2] [] pos)) none pos') (sRaise C) :=
  ⟨_, L2H.ps_raiseH hc tk (L2N.pmk_own F q gC kC r hg hdb), fun s σ η μ D d E S hq l => l.xq ⟨C, none⟩ μ (.ref C) none σ s hq (Ext.refl _ _) S.rep ⟨rfl, trivial⟩⟩
/-- try: body, except C: a suite that raises -/
def sTryX (K : PySem.W.Frag) (c : Value) (tb ts : TDS) : TDS := fun d E η μ => tb d (fun x μ' => ∃ b, PySem.W.exmOne K (.ref x.c) c = some b ∧ (b = true → ts d E η μ') ∧ (b = false → E x μ')) η μ
def upX (K : PySem.W.Frag) (W : WX) (td : TDS) : TS := fun D σ H => ∃ (s : Wd) (η : DEnv) (μ : Mu) (d : DEnds) (E : XQ), s.H = H ∧ Sit K s μ σ η ∧ td d E η μ ∧ LS K s μ.length d E D W
theorem ds_tryX {K : PySem.W.Frag} {X : Cx} {W : WX} {x : Str} {c : Value} {body suite : List Stmt} {b₀ : Stmt} {np pos pos' : Pos} {tb ts : TDS} (hK : X.K = K) (hs : X.stack = X.env :: X.outer) (hf : X.env.frame = some X.env.locals) (hc : Names X x c) (hpa : ∀ hd : Option Value, PassesOwnAt (model X.prog X.w) (X.A.mark hd) X.A X.env X.xe) (tk : Takes X W)
    (hb : ∀ (W' : WX) (pn : List (Addr × Obj)) (xe : Value → Shared → Prop), L2N.Takes (X.tr pn xe) W' → PassesOwn (model X.prog X.w) X.A X.env xe → DSx (X.tr pn xe) W' body tb)
    (hsu : ∀ (a : Addr) (oe : Obj) (pn : List (Addr × Obj)), Takes (L2H.suiteX X a ((a, oe) :: pn)) W → L2H.HotC (L2H.suiteX X a ((a, oe) :: pn)) → DSs (L2H.suiteX X a ((a, oe) :: pn)) W (b₀ :: suite) ts) :
    DS X W (.Try body [.ExceptHandler (some (.Name x np)) none (b₀ :: suite) pos'] [] [] pos) (sTryX K c tb ts) := by
  subst hK
  refine ⟨_, L2H.ps_try_onlyX (tb := fun W' => upS X.K W' tb) (ts := fun _ _ _ => upX X.K W ts) hs hf hc hpa tk (fun W' pn xe tk' _ po => up_dsx (hb W' pn xe tk' po)) (fun a oe cls d pn _ _ tk2 hot => ?_), fun s σ η μ D d E S hq l => ?_⟩
  · obtain ⟨t, p, g⟩ := (hsu a oe pn tk2 hot).ex
    refine ⟨fun pins sh σ H D I hq => ?_⟩
    obtain ⟨s, η, μ, d, E, rfl, S, q, l⟩ := hq
    exact p.run pins sh σ s.H D I (g s σ η μ D d E S q l)
  · refine ⟨s, η, μ, d, _, rfl, S, hq, l.none, fun y μ' cls dd s' hE x' R r => ?_⟩
    obtain ⟨b, hb1, yes, no⟩ := hE
    obtain ⟨rfl, hr⟩ := id r
    refine ⟨b, hb1, fun h a na => ?_, fun h => l.xq y μ' _ dd σ s' (no h) x' R r⟩
    have l2 := l.go x' R
    exact ⟨s', η, μ', d, E, rfl, S.go x' R, yes h, l2⟩
section
variable {K : PySem.W.Frag} {c : Value} {tb ts v : TDS} {d : DEnds} {E : XQ} {η : DEnv} {μ : Mu}
theorem s_tryX (h : tb d (fun x μ' => ∃ b, PySem.W.exmOne K (.ref x.c) c = some b ∧ (b = true → ts d E η μ') ∧ (b = false → E x μ')) η μ) : sTryX K c tb ts d E η μ := h
theorem q_tryX (h : sTryX K c tb ts { d with nx := v d E } E η μ) : sSeq (sTryX K c tb ts) v d E η μ := h
end
end DL
set_option Elab.async false
set_option linter.all false
set_option maxRecDepth 100000
set_option maxHeartbeats 4000000
namespace DL
open PySem PySem.Spec PyProof.Rows L2
/-! ### range(i, j, c), c above nought -/
def cntS (i j c : Int) : Nat := if i < j then ((j - i - 1) / c + 1).toNat else 0
theorem rg_up {i j c : Int} (h1 : -1000000 ≤ i) (h2 : i ≤ 1000000) (h3 : -1000000 ≤ j) (h4 : j ≤ 1000000) (c1 : 1 ≤ c) (c2 : c ≤ 1000) : RgC i j c (cntS i j c) := by
  have hsz : Builtin.Range.rangeSize i j c = ((cntS i j c : Nat) : Int) := by
    unfold Builtin.Range.rangeSize cntS
    rw [if_pos (show c > 0 by omega)]
    split
    · have : 0 ≤ (j - i - 1) / c := Int.ediv_nonneg (by omega) (by omega)
      omega
    · rfl
  have hb : (cntS i j c : Int) ≤ 2000001 := by
    unfold cntS
    split
    · have h0 : 0 ≤ (j - i - 1) / c := Int.ediv_nonneg (by omega) (by omega)
      have : (j - i - 1) / c ≤ j - i - 1 := Int.ediv_le_self _ (by omega)
      omega
    · decide
  refine ⟨by omega, by omega, ?_, hsz⟩
  unfold Builtin.Range.small
  rw [hsz]
  simp only [Builtin.Range.rangeFitsLong, Bool.and_eq_true, Bool.or_eq_true, decide_eq_true_eq, beq_iff_eq]
  rw [if_pos (show c > 0 by omega)]
  refine ⟨by omega, .inr ?_⟩
  rw [Bool.and_eq_true, decide_eq_true_eq, decide_eq_true_eq]
  omega
def rngS (lo c : Int) (n : Nat) : List EV := (List.range n).map fun k => .dat (.int (lo + (k : Nat) * c))
theorem walkRS {K : PySem.W.Frag} {s0 : Wd} {N0 : Nat} {lo c : Int} {n : Nat} {G : Mu → Prop} : WalkS K (Itc lo c n) s0 N0 (rngS lo c n) G := by
  intro m s μ x R g
  refine ⟨fun hn => (by simpa [rngS] using hn : m < n), ?_, fun v H' hn hy => ?_⟩
  · show n ≤ _
    simp [rngS]
  · obtain ⟨e1, rfl⟩ := hy
    have hn' : m < n := by simpa [rngS] using hn
    refine ⟨s, .dat (.int (lo + (m : Nat) * c)), e1.symm, by simp [rngS, hn'], rfl, Ext.refl _ _, R, .int _⟩
def rgK3 (r : RI) (es : List EV) (μ1 : Mu) : Prop := match es with
  | [.dat (.int i), .dat (.int j), .dat (.int c)] => (-1000000 ≤ i ∧ i ≤ 1000000 ∧ -1000000 ≤ j ∧ j ≤ 1000000 ∧ 1 ≤ c ∧ c ≤ 1000) ∧ r (rngS i c (cntS i j c)) (fun _ => True) μ1
  | _ => False
def iRange3 (t : TDA) : TDI := fun η μ r E => t η μ (fun es μ1 => rgK3 r es μ1) E
theorem x_iRange3 {t : TDA} {η : DEnv} {μ : Mu} {r : RI} {E : XQ} : iRange3 t η μ r E = t η μ (fun es μ1 => rgK3 r es μ1) E := Eq.trans rfl rfl
theorem rgK3_i {r : RI} {i j c : Int} {μ : Mu} : rgK3 r [.dat (.int i), .dat (.int j), .dat (.int c)] μ = ((-1000000 ≤ i ∧ i ≤ 1000000 ∧ -1000000 ≤ j ∧ j ≤ 1000000 ∧ 1 ≤ c ∧ c ≤ 1000) ∧ r (rngS i c (cntS i j c)) (fun _ => True) μ) := Eq.trans rfl rfl
section
variable {X : Cx} {W : WX} {tg a b c : Expr} {t : TDA} {p pos : Pos}
theorem di_range3 (hg : Gl X "range") (hm : X.mg "range" = none) (ha : DA X W [a, b, c] t) (hs : starEach [a, b, c] X.env = (false, eval a X.env) :: starEach [b, c] X.env := by rfl) (hpl : (backTo pos (starEach [b, c] X.env)).any (·.1) = false := by rfl) : DI X W tg (.Call (.Name "range" p) [a, b, c] [] pos) (iRange3 t) := by
  obtain ⟨t1, p1, g1⟩ := ha.ex
  refine ⟨_, pi_range3 hg hm p1 hs hpl, fun s σ η μ R r E S hq l lx => g1 s σ η μ _ _ E S hq (fun es μ1 vs s1 hk x1 R1 rv => ?_) lx⟩
  unfold rgK3 at hk
  split at hk
  · cases rv with
    | cons rx fx rr =>
      cases rr with
      | cons ry fy rr =>
        cases rr with
        | cons rz fz rr =>
          cases rr
          obtain ⟨⟨h1, h2, h3, h4, h5, h6⟩, hk⟩ := hk
          exact ⟨_, _, _, _, by rw [vr_i rx, vr_i ry, vr_i rz], rg_up h1 h2 h3 h4 h5 h6, l _ _ _ μ1 s1 hk x1 R1 walkRS⟩
  · exact hk.elim
/-! ### x, y, z = a, b, c -/
def parK3 (i j l : Nat) (d : DEnds) (η : DEnv) (es : List EV) (μ1 : Mu) : Prop := match es with
  | [e1, e2, e3] => (noNew e1 = true ∧ noNew e2 = true ∧ noNew e3 = true) ∧ d.nx (((η.set i (some e1)).set j (some e2)).set l (some e3)) μ1
  | _ => False
def sPar3 (i j l : Nat) (t : TDA) : TDS := fun d E η μ => t η μ (fun es μ1 => parK3 i j l d η es μ1) E
theorem ds_par3 {i j l : Nat} {x y z : Str} {ta : TDA} {px py pz pt : Pos} {kt k2 pt2} (hc : X.calm = true) (hN : X.N.Nodup) (hi : X.N[i]? = some x) (hj : X.N[j]? = some y) (hl : X.N[l]? = some z) (hij : i ≠ j) (hil : i ≠ l) (hjl : j ≠ l)
    (hx : X.env.scope.names.lookup x = some .local) (hy : X.env.scope.names.lookup y = some .local) (hz : X.env.scope.names.lookup z = some .local) (ha : DA X W [a, b, c] ta)
    (hw : swappedStores [.Tuple [.Name x px, .Name y py, .Name z pz] kt pt] (.Tuple [a, b, c] k2 pt2) X.env = pure (some [x, y, z]))
    (hs : swapsWithSole [.Tuple [.Name x px, .Name y py, .Name z pz] kt pt] (.Tuple [a, b, c] k2 pt2) pos.line X.env = pure false := by rfl) :
    DS X W (.Assign [.Tuple [.Name x px, .Name y py, .Name z pz] kt pt] (.Tuple [a, b, c] k2 pt2) pos) (sPar3 i j l ta) := by
  obtain ⟨t1, p1, g1⟩ := ha.ex
  refine ⟨_, ps_par3 hc hN hi hj hl hij hil hjl hx hy hz p1 hw hs, fun s σ η μ D d E S hq l => g1 s σ η μ _ _ E S hq (fun es μ1 vs s1 hk x R r => ?_) (l.lx σ)⟩
  unfold parK3 at hk
  split at hk
  · cases r with
    | cons r1 f1 rr =>
      cases rr with
      | cons r2 f2 rr =>
        cases rr with
        | cons r3 f3 rr =>
          cases rr
          exact ⟨_, _, _, rfl, l.nx _ μ1 _ s1 hk.2 x ⟨R, (((S.go x R).er.set i r1).set j r2).set _ r3⟩⟩
  · exact hk.elim
end
section
variable {t v : TDS} {ta : TDA} {d : DEnds} {E : XQ} {η : DEnv} {μ : Mu} {i j l : Nat}
theorem s_par3 (h : ta η μ (fun es μ1 => parK3 i j l d η es μ1) E) : sPar3 i j l ta d E η μ := h
theorem q_par3 (h : sPar3 i j l ta { d with nx := v d E } E η μ) : sSeq (sPar3 i j l ta) v d E η μ := h
theorem parK3_e {e1 e2 e3 : EV} : parK3 i j l d η [e1, e2, e3] μ = ((noNew e1 = true ∧ noNew e2 = true ∧ noNew e3 = true) ∧ d.nx (((η.set i (some e1)).set j (some e2)).set l (some e3)) μ) := Eq.trans rfl rfl
end
end DL
set_option Elab.async false
set_option linter.all false
set_option maxRecDepth 100000
set_option maxHeartbeats 4000000
namespace DL
open PySem PySem.Spec PyProof.Rows L2
/-! ### methods by their bodies -/
end DL
set_option Elab.async false
set_option linter.all false
set_option maxRecDepth 100000
set_option maxHeartbeats 4000000
namespace DL
open PySem PySem.Spec PyProof.Rows L2
/-! ### sorted(d), d a dict that is a part of a tree -/
end DL
set_option Elab.async false
set_option linter.all false
set_option maxRecDepth 100000
set_option maxHeartbeats 4000000
namespace DL
open PySem PySem.Spec PyProof.Rows L2
/-! ### xs.pop(i) -/
end DL
set_option Elab.async false
set_option linter.all false
set_option maxRecDepth 100000
set_option maxHeartbeats 4000000
namespace DL
open PySem PySem.Spec PyProof.Rows L2
/-! ### what goes out of a def: a part of a cell of its own -/
/-! ### for x in a list that is a part of a tree -/
/-! ### [parts of a cell, in some turn]: the parts become a new list's -/
end DL
set_option Elab.async false
set_option linter.all false
set_option maxRecDepth 100000
set_option maxHeartbeats 4000000
namespace DL
open PySem PySem.Spec PyProof.Rows L2
/-! ### max(a, b), min(a, b) of two alike data -/
/-! .. as readings -/
/-! {} of either kind -/
end DL
set_option Elab.async false
set_option linter.all false
set_option maxRecDepth 100000
set_option maxHeartbeats 4000000
namespace DL
open PySem PySem.Spec PyProof.Rows L2
/-! ### sorted(d), d a dict of any keys that is a part of a tree -/
/-! ### things of one kind that may be a dict's keys -/
/-! a dict of things, a part of an instance -/
end DL
set_option Elab.async false
set_option linter.all false
set_option maxRecDepth 100000
set_option maxHeartbeats 4000000
namespace DL
open PySem PySem.Spec PyProof.Rows L2
/-! ### len of a list that is a part of a tree -/
end DL
set_option Elab.async false
set_option linter.all false
set_option maxRecDepth 100000
set_option maxHeartbeats 4000000
namespace DL
open PySem PySem.Spec PyProof.Rows L2
/-! ### lists of lists of things, parts of a tree -/
end DL
set_option Elab.async false
set_option linter.all false
set_option maxRecDepth 100000
set_option maxHeartbeats 4000000
namespace DL
open PySem PySem.Spec PyProof.Rows L2
/-! ### a cell of its own told by its address alone -/
/-! ### things: numbers, texts, legs -/
end DL
set_option Elab.async false
set_option linter.all false
set_option maxRecDepth 100000
set_option maxHeartbeats 4000000
namespace DL
open PySem PySem.Spec PyProof.Rows L2
/-! ### a text times a number -/
/-! ### list(d), d a dict that is a part of a tree -/
/-! ### xs[i] = e, xs a list that is a part of a tree, e new -/
def oSetLT : EV → EV → EV → Mu → (Mu → Prop) → Prop := fun z x y μ q => match x, y with
  | .at n p b, .dat (.int k) => nodK μ n p b fun kd ts => kd = .lst ∧ ∃ j, ixN ts.length k = some j ∧ atK (some j) ts fun _ _ => treeK (fun t => q (putAt μ n p (.nod .lst b (ts.set j t)))) z
  | _, _ => False
def sSetLT (to ti tv : TDE) : TDS := fun d E η μ => tv η μ (fun z μ1 => to η μ1 (fun x μ2 => ti η μ2 (fun y μ3 => oSetLT z x y μ3 fun μ4 => d.nx η μ4) fun _ _ => False) fun _ _ => False) E
theorem s_setLT {to ti tv : TDE} {d : DEnds} {E : XQ} {η : DEnv} {μ : Mu} (h : tv η μ (fun z μ1 => to η μ1 (fun x μ2 => ti η μ2 (fun y μ3 => oSetLT z x y μ3 fun μ4 => d.nx η μ4) fun _ _ => False) fun _ _ => False) E) : sSetLT to ti tv d E η μ := h
theorem q_setLT {to ti tv : TDE} {v : TDS} {d : DEnds} {E : XQ} {η : DEnv} {μ : Mu} (h : tv η μ (fun z μ1 => to η μ1 (fun x μ2 => ti η μ2 (fun y μ3 => oSetLT z x y μ3 fun μ4 => v d E η μ4) fun _ _ => False) fun _ _ => False) E) : sSeq (sSetLT to ti tv) v d E η μ := h
end DL
namespace DL
open PySem PySem.Spec PyProof.Rows L2
end DL
set_option Elab.async false
set_option linter.all false
set_option maxRecDepth 100000
set_option maxHeartbeats 4000000
namespace DL
open PySem PySem.Spec PyProof.Rows L2
/-! ### sets of tuples of texts: what is asked of a member, and the search -/
abbrev TxRow := List Str × Addr
abbrev TxAt (P : Program) (w : World) (h : Heap) (r : TxRow) : Prop := IsTupleKey (strKind P w) h r.1 r.2
abbrev txH (P : Program) (w : World) (k : List Str) : Int := tupleKeyHash (strKind P w) k
end DL
set_option Elab.async false
set_option linter.all false
set_option maxRecDepth 100000
set_option maxHeartbeats 4000000
namespace DL
open PySem PySem.Spec PyProof.Rows L2
/-! ### sets of tuples of texts: the set, and the search in it -/
def cellsOf (P : Program) (w : World) (m : List TxRow) : List (Int × Value) := m.map fun r => (txH P w r.1, .ref r.2)
structure SetPs (P : Program) (w : World) (h : Heap) (a : Addr) (m : List TxRow) (es : Array (Int × Value)) (ep : Nat) (t : SetTable) : Prop where
  here : ∃ o, h.get? a = some o ∧ o.ExactSet ∧ o.data = .set es ep t
  ents : es.toList = cellsOf P w m
  tb : TabOk t (m.map fun r => txH P w r.1)
  kn : (m.map Prod.fst).Nodup
  each : ∀ r ∈ m, TxAt P w h r
  shown : w.params.followText "set-order" = true ∨ t.led = true
  space : m.length * 5 < t.mask * 3
  small : m.length < 64
end DL
set_option Elab.async false
set_option linter.all false
set_option maxRecDepth 100000
set_option maxHeartbeats 4000000
namespace DL
open PySem PySem.Spec PyProof.Rows L2
/-! ### sets of tuples of texts: growing -/
end DL
set_option Elab.async false
set_option linter.all false
set_option maxRecDepth 100000
set_option maxHeartbeats 4000000
namespace DL
open PySem PySem.Spec PyProof.Rows L2
/-! ### set(xs), xs a list of tuples of texts -/
section
variable {P : Program} {w : World} {A : Around} {E : Value → Shared → Prop} {s : Shared}
theorem SetPs.kept {h h' : Heap} {a : Addr} {m : List TxRow} {es : Array (Int × Value)} {ep : Nat} {t : SetTable} (R : SetPs P w h a m es ep t) (k : ∀ o, h.get? a = some o → h'.get? a = some o) (e : ∀ r ∈ m, TxAt P w h' r) : SetPs P w h' a m es ep t := by
  obtain ⟨o, ho, more⟩ := R.here
  exact { R with here := ⟨o, k o ho, more⟩, each := e }
end
end DL
set_option Elab.async false
set_option linter.all false
set_option maxRecDepth 100000
set_option maxHeartbeats 4000000
namespace DL
open PySem PySem.Spec PyProof.Rows L2
/-! ### sorted(set(xs)), xs a list of tuples of texts -/
/-! ### as an expression -/
end DL
set_option Elab.async false
set_option linter.all false
set_option maxRecDepth 100000
set_option maxHeartbeats 4000000
namespace DL
open PySem PySem.Spec PyProof.Rows L2
/-! ### xs += t, t a tuple -/
end DL
set_option Elab.async false
set_option linter.all false
set_option maxRecDepth 100000
set_option maxHeartbeats 4000000
namespace DL
open PySem PySem.Spec PyProof.Rows L2
/-! ### for, its body laying cells that stay -/
def sForG (vs : List Nat) (ti : TDI) (g : TDG) (tb : TDS) : TDS := fun d E η μ => ti η μ (fun items G μ1 => ∃ Inv : Nat → DEnv → Mu → Prop, Inv 0 (forget η vs) μ1 ∧ (∀ i η μ, Inv i η μ → G μ) ∧
  (∀ (i : Nat) (e : EV) η μ, items[i]? = some e → Inv i η μ → g e η μ fun η2 μ2 => tb { nx := fun η' μ' => Inv (i + 1) (forget η' vs) μ', ct := fun η' μ' => Inv (i + 1) (forget η' vs) μ', bk := d.nx, rt := d.rt } E η2 μ2) ∧
  ∀ η μ, Inv items.length η μ → d.nx η μ) E
def ForGG (vs : List Nat) (g : TDG) (tb : TDS) (d : DEnds) (E : XQ) (η : DEnv) (items : List EV) (G : Mu → Prop) (μ1 : Mu) : Prop := ∃ Inv : Nat → DEnv → Mu → Prop, Inv 0 (forget η vs) μ1 ∧ (∀ i η μ, Inv i η μ → G μ) ∧
  (∀ (i : Nat) (e : EV) η μ, items[i]? = some e → Inv i η μ → g e η μ fun η2 μ2 => tb { nx := fun η' μ' => Inv (i + 1) (forget η' vs) μ', ct := fun η' μ' => Inv (i + 1) (forget η' vs) μ', bk := d.nx, rt := d.rt } E η2 μ2) ∧
  ∀ η μ, Inv items.length η μ → d.nx η μ
section
variable {t v : TDS} {ti : TDI} {g : TDG} {d : DEnds} {E : XQ} {η : DEnv} {μ μ1 : Mu} {vs : List Nat}
theorem s_forG (h : ti η μ (ForGG vs g t d E η) E) : sForG vs ti g t d E η μ := h
theorem q_forG (h : ti η μ (ForGG vs g t { d with nx := v d E } E η) E) : sSeq (sForG vs ti g t) v d E η μ := h
end
end DL
set_option Elab.async false
set_option linter.all false
set_option maxRecDepth 100000
set_option maxHeartbeats 4000000
namespace DL
open PySem PySem.Spec PyProof.Rows L2 NdefX LamX
/-! ### max of three whole numbers -/
/-! ### for x in A + B, both lists that are parts of trees -/
/-! ### what is walked, by one of two readings -/
/-! ### a call that is told of some cells alone -/
def pickM (is : List Nat) (μ : Mu) : Mu := is.map fun i => (μ[i]?).getD .dead
theorem pickM_len {is : List Nat} {μ : Mu} : (pickM is μ).length = is.length := by unfold pickM; simp
theorem pickM_get {is : List Nat} {μ : Mu} {k i : Nat} (h : is[k]? = some i) : (pickM is μ)[k]? = some ((μ[i]?).getD .dead) := by unfold pickM; rw [List.getElem?_map, h]; rfl
/-- the world seen so -/
abbrev Wd.pick (s : Wd) (is : List Nat) : Wd := { s with L := fun k => s.L (is.getD k 0), O := fun k a => s.O (is.getD k 0) a }
def PickOk (is : List Nat) (μ : Mu) : Prop := is.Nodup ∧ ∀ i ∈ is, i < μ.length
theorem getD_get {is : List Nat} {k : Nat} (h : k < is.length) : is[k]? = some (is.getD k 0) := by
  rw [List.getD_eq_getElem?_getD, List.getElem?_eq_getElem h]
  rfl
section
variable {K : PySem.W.Frag} {s s' : Wd} {μ : Mu} {is : List Nat}
theorem PickOk.cell (h : PickOk is μ) {k : Nat} (hk : k < is.length) : is.getD k 0 < μ.length ∧ (pickM is μ)[k]? = μ[is.getD k 0]? := by
  have e := getD_get hk
  have h1 := h.2 _ (List.mem_of_getElem? e)
  refine ⟨h1, ?_⟩
  rw [pickM_get e, List.getElem?_eq_getElem h1]
  rfl
theorem PickOk.inj (h : PickOk is μ) {k j : Nat} (hk : k < is.length) (hj : j < is.length) (e : is.getD k 0 = is.getD j 0) : k = j := by
  have e1 := getD_get hk
  have e2 := getD_get hj
  rw [List.getElem?_eq_getElem hk] at e1
  rw [List.getElem?_eq_getElem hj] at e2
  have z := List.pairwise_iff_getElem.mp h.1
  have e3 : is[k] = is[j] := by rw [Option.some.inj e1, Option.some.inj e2, e]
  by_cases q : k < j
  · exact absurd e3 (z k j hk hj q)
  · by_cases q2 : j < k
    · exact absurd e3.symm (z j k hj hk q2)
    · omega
theorem Rep.pick (R : Rep K s μ) (h : PickOk is μ) : Rep K (s.pick is) (pickM is μ) := by
  refine ⟨R.sub, fun k c hc => ?_, fun k j a hk hj h1 h2 => ?_, fun k hk => ?_, fun k a hk h1 => ?_, fun k t ht => ?_⟩
  · have hk : k < is.length := by have := (List.getElem?_eq_some_iff.mp hc).1; rw [pickM_len] at this; exact this
    rw [(h.cell hk).2] at hc
    exact (R.cell _ c hc).atL
  · rw [pickM_len] at hk hj
    exact h.inj hk hj (R.dis _ _ a (h.cell hk).1 (h.cell hj).1 h1 h2)
  · rw [pickM_len] at hk
    exact R.root _ (h.cell hk).1
  · rw [pickM_len] at hk
    exact R.live _ a (h.cell hk).1 h1
  · have hk : k < is.length := by have := (List.getElem?_eq_some_iff.mp ht).1; rw [pickM_len] at this; exact this
    rw [(h.cell hk).2] at ht
    obtain ⟨a, b, c⟩ := R.tree _ t ht
    exact ⟨a, b, c⟩
theorem CellAt.keeps {s' : Wd} {a : Addr} {c : Cell} (h : CellAt K s a c) (e : Same s.F s'.F) (k : Keeps s.F s.H s'.F s'.H a) : CellAt K s' a c := by
  cases c with
  | lst xs =>
    obtain ⟨h0, vs, h1, h2⟩ := h
    exact ⟨k.2 h0 (fun ws z => by rw [h1] at z; cases z), vs, k.1.trans h1, h2.mono e⟩
  | frz xs => obtain ⟨vs, h1, h2⟩ := h; exact ⟨vs, e _ _ h1, h2.mono e⟩
  | dct kvs =>
    obtain ⟨h0, vs, h1, h2, h3⟩ := h
    exact ⟨k.2 h0 (fun ws z => by rw [h1] at z; cases z), vs, k.1.trans h1, h2, h3.mono e⟩
  | dck kvs =>
    obtain ⟨h0, vs, h1, h2, h3⟩ := h
    exact ⟨k.2 h0 (fun ws z => by rw [h1] at z; cases z), vs, k.1.trans h1, h2, h3.mono e⟩
  | abs P =>
    obtain ⟨xs, hP, h0, vs, h1, h2⟩ := h
    exact ⟨xs, hP, k.2 h0 (fun ws z => by rw [h1] at z; cases z), vs, k.1.trans h1, h2.mono e⟩
  | tab P nm =>
    obtain ⟨rfl, ht⟩ := h
    obtain ⟨ps, h1, _⟩ := ht.ex
    exact ⟨rfl, ht.to e (k.2 ht.nf (fun ws z => by rw [h1] at z; cases z)) fun ps hp => k.1.trans hp⟩
  | own t => exact fun z => h (k.1.symm.trans z)
  | dead => exact fun z => h (k.1.symm.trans z)
end
/-- what is handed over, its cells by the places in the pick -/
inductive DisP (P : Program) (w : World) (mg : Str → Option Value) (base : Heap) (D : Need → Prop) (is : List Nat) : EV → EV → Prop
  | dat (d : PyData) : DisP P w mg base D is (.dat d) (.dat d)
  | loc {n k : Nat} : is[k]? = some n → DisP P w mg base D is (.loc n) (.loc k)
  | fn {N N' : Need} {k : Nat} {g : PyData → Option Int} : Left D N N' → DisP P w mg base D is (.per (wP P w mg base N k g)) (.per (wP P w mg base N' k g))
inductive DisPs (P : Program) (w : World) (mg : Str → Option Value) (base : Heap) (D : Need → Prop) (is : List Nat) : List EV → List EV → Prop
  | nil : DisPs P w mg base D is [] []
  | cons {e e' : EV} {es es' : List EV} : DisP P w mg base D is e e' → DisPs P w mg base D is es es' → DisPs P w mg base D is (e :: es) (e' :: es')
section
variable {P : Program} {w : World} {mg : Str → Option Value} {base : Heap} {D : Need → Prop} {K : PySem.W.Frag} {s : Wd} {N : Nat} {C : CMap} {is : List Nat}
theorem DisP.ok {v : V} {y y' : EV} (hD : ∀ N, D N → N.ψ K (layC s.F C)) (nF : ∀ a u, C a = some u → s.F a = none) (h : DisP P w mg base D is y y') (r : VR K s N v y) : VR K (({ s with H := layC s.H C, F := layC s.F C } : Wd).pick is) is.length v y' := by
  cases h with
  | dat d => exact DR.mono (same_lay nF) r
  | loc hk =>
    rename_i n k
    have r' : n < N ∧ v = .ref (s.L n) := r
    have hl := (List.getElem?_eq_some_iff.mp hk).1
    have e := getD_get hl
    rw [hk] at e
    refine ⟨hl, ?_⟩
    show v = .ref (s.L (is.getD k 0))
    rw [← Option.some.inj e]
    exact r'.2
  | fn l => exact left_ok hD (same_lay nF) l r
theorem DisPs.ok (hD : ∀ N, D N → N.ψ K (layC s.F C)) (nF : ∀ a u, C a = some u → s.F a = none) : ∀ {vs : List V} {es es' : List EV}, DisPs P w mg base D is es es' → VL K s N vs es → VL K (({ s with H := layC s.H C, F := layC s.F C } : Wd).pick is) is.length vs es'
  | _, _, _, .nil, .nil => .nil
  | _, _, _, .cons h hs, .cons r rs => .cons (h.ok hD nF r) (DisPs.ok hD nF hs rs)
end
end DL
set_option Elab.async false
set_option linter.all false
set_option maxRecDepth 100000
set_option maxHeartbeats 4000000
namespace DL
open PySem PySem.Spec PyProof.Rows L2 NdefX LamX
/-! ### what goes out of a def: a new list, its last item a cell of the def's own -/
end DL
set_option Elab.async false
set_option linter.all false
set_option maxRecDepth 100000
set_option maxHeartbeats 4000000
namespace DL
open PySem PySem.Spec PyProof.Rows L2
/-! ### exceptions with one field -/
def rfK (C : Addr) (f : Str) (E : XQ) : List EV → Mu → Prop := fun es μ1 => match es with
  | [.dat d] => E ⟨C, some [(f, d)]⟩ μ1
  | _ => False
def sRaiseF (C : Addr) (f : Str) (t : TDA) : TDS := fun _ E η μ => t η μ (rfK C f E) E
theorem s_raiseF {C : Addr} {f : Str} {t : TDA} {d : DEnds} {E : XQ} {η : DEnv} {μ : Mu} (h : t η μ (rfK C f E) E) : sRaiseF C f t d E η μ := h
theorem q_raiseF {C : Addr} {f : Str} {t : TDA} {d : DEnds} {E : XQ} {η : DEnv} {μ : Mu} {v : TDS} (h : t η μ (rfK C f E) E) : sSeq (sRaiseF C f t) v d E η μ := h
end DL
set_option Elab.async false
set_option linter.all false
set_option maxRecDepth 100000
set_option maxHeartbeats 4000000
namespace DL
open PySem PySem.Spec PyProof.Rows L2
/-! ### e.f, e a caught exception that is kept -/
/-! ### try with two clauses, either keeping its exception -/
end DL
set_option Elab.async false
set_option linter.all false
set_option maxRecDepth 100000
set_option maxHeartbeats 4000000
namespace DL
open PySem PySem.Spec PyProof.Rows L2
/-! ### an exception that leaves a comprehension -/
end DL
set_option Elab.async false
set_option linter.all false
set_option maxRecDepth 100000
set_option maxHeartbeats 4000000
namespace DL
open PySem PySem.Spec PyProof.Rows L2
end DL
set_option Elab.async false
set_option linter.all false
set_option maxRecDepth 100000
set_option maxHeartbeats 4000000
namespace DL
open PySem PySem.Spec PyProof.Rows L2
/-! ### .. by data -/
end DL
set_option Elab.async false
set_option linter.all false
set_option maxRecDepth 100000
set_option maxHeartbeats 4000000
namespace DL
open PySem PySem.Spec PyProof.Rows L2 TL
/-! ### texts: split at a sign, startswith, int, str, f-strings -/
end DL
set_option Elab.async false
set_option linter.all false
set_option maxRecDepth 100000
set_option maxHeartbeats 4000000
namespace DL
open PySem PySem.Spec PyProof.Rows L2
/-! ### (data, .., a new list): a tuple that is a tree -/
/-! ### a, b = a tuple that is a part of a tree -/
/-! ### a text times a number, nought too -/
end DL
set_option Elab.async false
set_option linter.all false
set_option maxRecDepth 100000
set_option maxHeartbeats 4000000
namespace DL
open PySem PySem.Spec PyProof.Rows L2
/-! ### {"k1": v1, "k2": v2}.get(e, d) -/
end DL
set_option Elab.async false
set_option linter.all false
set_option maxRecDepth 100000
set_option maxHeartbeats 4000000
namespace DL
open PySem PySem.Spec PyProof.Rows L2
/-! ### a list that is a part of a tree, == and != [] -/
end DL
set_option Elab.async false
set_option linter.all false
set_option maxRecDepth 100000
set_option maxHeartbeats 4000000
namespace DL
open PySem PySem.Spec PyProof.Rows L2
/-! ### a comprehension whose items may raise -/
end DL
set_option Elab.async false
set_option linter.all false
set_option maxRecDepth 100000
set_option maxHeartbeats 4000000
namespace B
open PySem L2 DL
def top (i : Nat) : Stmt := PySem.Challenge.pw_boardlay_k72_cells_in_numbers.main.body.getD i (.Pass ⟨0, 0, 0, 0⟩)
abbrev s_is_number : Stmt := top 21
abbrev s_size_of : Stmt := top 25
abbrev s_common : Stmt := top 26
abbrev s_without : Stmt := top 27
abbrev s_summed : Stmt := top 31
abbrev s_bytes_of : Stmt := top 32
abbrev s_need_numbers : Stmt := top 33
abbrev s_cells_from : Stmt := top 34
abbrev s_law_cell_at : Stmt := top 36
abbrev s_law_state : Stmt := top 37
abbrev s_law_next : Stmt := top 38
abbrev s_law_kinds : Stmt := top 39
abbrev s_law_sum : Stmt := top 40
abbrev s_law_numbers : Stmt := top 41
abbrev s_law_cells : Stmt := top 42
abbrev s_law_tells : Stmt := top 43
abbrev s_law_other : Stmt := top 44
abbrev s_law_tried : Stmt := top 45
abbrev s_law_right : Stmt := top 46
abbrev s_law : Stmt := top 47
structure Top (K : PySem.W.Frag) (mg : Str → Option Value) where
  a_is_number : Addr
  fd_is_number : FuncData
  F_is_number : Fun K "is_number" "is_number" s_is_number a_is_number fd_is_number
  m_is_number : mg "is_number" = some (.ref a_is_number)
  b_is_number : Binds K fd_is_number ["thing", "least", "most"] []
  a_size_of : Addr
  fd_size_of : FuncData
  F_size_of : Fun K "size_of" "size_of" s_size_of a_size_of fd_size_of
  m_size_of : mg "size_of" = some (.ref a_size_of)
  b_size_of : Binds K fd_size_of ["thing"] []
  a_common : Addr
  fd_common : FuncData
  F_common : Fun K "common" "common" s_common a_common fd_common
  m_common : mg "common" = some (.ref a_common)
  b_common : Binds K fd_common ["one", "other"] []
  a_without : Addr
  fd_without : FuncData
  F_without : Fun K "without" "without" s_without a_without fd_without
  m_without : mg "without" = some (.ref a_without)
  b_without : Binds K fd_without ["one", "other"] []
  a_summed : Addr
  fd_summed : FuncData
  F_summed : Fun K "summed" "summed" s_summed a_summed fd_summed
  m_summed : mg "summed" = some (.ref a_summed)
  b_summed : Binds K fd_summed ["numbers"] []
  a_bytes_of : Addr
  fd_bytes_of : FuncData
  F_bytes_of : Fun K "bytes_of" "bytes_of" s_bytes_of a_bytes_of fd_bytes_of
  m_bytes_of : mg "bytes_of" = some (.ref a_bytes_of)
  b_bytes_of : Binds K fd_bytes_of ["cells"] []
  a_need_numbers : Addr
  fd_need_numbers : FuncData
  F_need_numbers : Fun K "need_numbers" "need_numbers" s_need_numbers a_need_numbers fd_need_numbers
  m_need_numbers : mg "need_numbers" = some (.ref a_need_numbers)
  b_need_numbers : Binds K fd_need_numbers ["numbers"] []
  a_cells_from : Addr
  fd_cells_from : FuncData
  F_cells_from : Fun K "cells_from" "cells_from" s_cells_from a_cells_from fd_cells_from
  m_cells_from : mg "cells_from" = some (.ref a_cells_from)
  b_cells_from : Binds K fd_cells_from ["numbers"] []
  a_law_cell_at : Addr
  fd_law_cell_at : FuncData
  F_law_cell_at : Fun K "_law_cell_at" "_law_cell_at" s_law_cell_at a_law_cell_at fd_law_cell_at
  m_law_cell_at : mg "_law_cell_at" = some (.ref a_law_cell_at)
  b_law_cell_at : Binds K fd_law_cell_at ["_law_script", "_law_k"] []
  a_law_state : Addr
  fd_law_state : FuncData
  F_law_state : Fun K "_law_state" "_law_state" s_law_state a_law_state fd_law_state
  m_law_state : mg "_law_state" = some (.ref a_law_state)
  b_law_state : Binds K fd_law_state ["_law_cell", "_law_k"] []
  a_law_next : Addr
  fd_law_next : FuncData
  F_law_next : Fun K "_law_next" "_law_next" s_law_next a_law_next fd_law_next
  m_law_next : mg "_law_next" = some (.ref a_law_next)
  b_law_next : Binds K fd_law_next ["_law_state_here", "_law_size"] []
  a_law_kinds : Addr
  fd_law_kinds : FuncData
  F_law_kinds : Fun K "_law_kinds" "_law_kinds" s_law_kinds a_law_kinds fd_law_kinds
  m_law_kinds : mg "_law_kinds" = some (.ref a_law_kinds)
  b_law_kinds : Binds K fd_law_kinds ["_law_e"] []
  a_law_sum : Addr
  fd_law_sum : FuncData
  F_law_sum : Fun K "_law_sum" "_law_sum" s_law_sum a_law_sum fd_law_sum
  m_law_sum : mg "_law_sum" = some (.ref a_law_sum)
  b_law_sum : Binds K fd_law_sum ["_law_numbers_here"] []
  a_law_numbers : Addr
  fd_law_numbers : FuncData
  F_law_numbers : Fun K "_law_numbers" "_law_numbers" s_law_numbers a_law_numbers fd_law_numbers
  m_law_numbers : mg "_law_numbers" = some (.ref a_law_numbers)
  b_law_numbers : Binds K fd_law_numbers ["_law_cells_here"] []
  a_law_cells : Addr
  fd_law_cells : FuncData
  F_law_cells : Fun K "_law_cells" "_law_cells" s_law_cells a_law_cells fd_law_cells
  m_law_cells : mg "_law_cells" = some (.ref a_law_cells)
  b_law_cells : Binds K fd_law_cells ["_law_state_here"] []
  a_law_tells : Addr
  fd_law_tells : FuncData
  F_law_tells : Fun K "_law_tells" "_law_tells" s_law_tells a_law_tells fd_law_tells
  m_law_tells : mg "_law_tells" = some (.ref a_law_tells)
  b_law_tells : Binds K fd_law_tells ["_law_thing"] []
  a_law_other : Addr
  fd_law_other : FuncData
  F_law_other : Fun K "_law_other" "_law_other" s_law_other a_law_other fd_law_other
  m_law_other : mg "_law_other" = some (.ref a_law_other)
  b_law_other : Binds K fd_law_other ["_law_state_here", "_law_numbers_here"] []
  a_law_tried : Addr
  fd_law_tried : FuncData
  F_law_tried : Fun K "_law_tried" "_law_tried" s_law_tried a_law_tried fd_law_tried
  m_law_tried : mg "_law_tried" = some (.ref a_law_tried)
  b_law_tried : Binds K fd_law_tried ["_law_thing"] []
  a_law_right : Addr
  fd_law_right : FuncData
  F_law_right : Fun K "_law_right" "_law_right" s_law_right a_law_right fd_law_right
  m_law_right : mg "_law_right" = some (.ref a_law_right)
  b_law_right : Binds K fd_law_right ["_law_state_here", "_law_cells_here"] []
  a_law : Addr
  fd_law : FuncData
  F_law : Fun K "law" "law" s_law a_law fd_law
  m_law : mg "law" = some (.ref a_law)
  b_law : Binds K fd_law ["_law_script"] []
  n_ValueError : mg "ValueError" = none
  n_all : mg "all" = none
  n_any : mg "any" = none
  n_bool : mg "bool" = none
  n_divmod : mg "divmod" = none
  n_enumerate : mg "enumerate" = none
  n_int : mg "int" = none
  n_isinstance : mg "isinstance" = none
  n_len : mg "len" = none
  n_list : mg "list" = none
  n_max : mg "max" = none
  n_min : mg "min" = none
  n_range : mg "range" = none
  n_tuple : mg "tuple" = none
  n_zip : mg "zip" = none
  g_LEAST : ∃ t, mg "LEAST" = some (.int 3 t)
  g_MOST : ∃ t, mg "MOST" = some (.int 10 t)
  g_REST : ∃ t, mg "REST" = some (.int 65521 t)
  g_SIDE : ∃ t, mg "SIDE" = some (.int 256 t)
  c_BoardError : Addr
  gx_BoardError : mg "BoardError" = some (.ref c_BoardError)
  c_NoBytes : Addr
  gx_NoBytes : mg "NoBytes" = some (.ref c_NoBytes)
  c_NoDeed : Addr
  gx_NoDeed : mg "NoDeed" = some (.ref c_NoDeed)
  c_NoDrawing : Addr
  gx_NoDrawing : mg "NoDrawing" = some (.ref c_NoDrawing)
  c_NoOrder : Addr
  gx_NoOrder : mg "NoOrder" = some (.ref c_NoOrder)
  c_NoPart : Addr
  gx_NoPart : mg "NoPart" = some (.ref c_NoPart)
  c_NoSize : Addr
  gx_NoSize : mg "NoSize" = some (.ref c_NoSize)
  c_NoSpot : Addr
  gx_NoSpot : mg "NoSpot" = some (.ref c_NoSpot)
  c_NoText : Addr
  gx_NoText : mg "NoText" = some (.ref c_NoText)
  c_NoTie : Addr
  gx_NoTie : mg "NoTie" = some (.ref c_NoTie)
  c_NoTurn : Addr
  gx_NoTurn : mg "NoTurn" = some (.ref c_NoTurn)
  c_NoWay : Addr
  gx_NoWay : mg "NoWay" = some (.ref c_NoWay)
  c_NoWeight : Addr
  gx_NoWeight : mg "NoWeight" = some (.ref c_NoWeight)
  c_NoWord : Addr
  gx_NoWord : mg "NoWord" = some (.ref c_NoWord)
  c_OffFloor : Addr
  gx_OffFloor : mg "OffFloor" = some (.ref c_OffFloor)
  c_OnShut : Addr
  gx_OnShut : mg "OnShut" = some (.ref c_OnShut)
  c_Overlap : Addr
  gx_Overlap : mg "Overlap" = some (.ref c_Overlap)
  c_TooMany : Addr
  gx_TooMany : mg "TooMany" = some (.ref c_TooMany)
  c_TooNear : Addr
  gx_TooNear : mg "TooNear" = some (.ref c_TooNear)
  hd_BoardError : PySem.W.hasDictIn K c_BoardError = true
  xt_BoardError : PySem.W.typeIn K (.ref c_BoardError) = some (.type "type")
  hd_NoBytes : PySem.W.hasDictIn K c_NoBytes = true
  xt_NoBytes : PySem.W.typeIn K (.ref c_NoBytes) = some (.type "type")
  hd_NoDeed : PySem.W.hasDictIn K c_NoDeed = true
  xt_NoDeed : PySem.W.typeIn K (.ref c_NoDeed) = some (.type "type")
  hd_NoDrawing : PySem.W.hasDictIn K c_NoDrawing = true
  xt_NoDrawing : PySem.W.typeIn K (.ref c_NoDrawing) = some (.type "type")
  hd_NoOrder : PySem.W.hasDictIn K c_NoOrder = true
  xt_NoOrder : PySem.W.typeIn K (.ref c_NoOrder) = some (.type "type")
  hd_NoPart : PySem.W.hasDictIn K c_NoPart = true
  xt_NoPart : PySem.W.typeIn K (.ref c_NoPart) = some (.type "type")
  hd_NoSize : PySem.W.hasDictIn K c_NoSize = true
  xt_NoSize : PySem.W.typeIn K (.ref c_NoSize) = some (.type "type")
  hd_NoSpot : PySem.W.hasDictIn K c_NoSpot = true
  xt_NoSpot : PySem.W.typeIn K (.ref c_NoSpot) = some (.type "type")
  hd_NoText : PySem.W.hasDictIn K c_NoText = true
  xt_NoText : PySem.W.typeIn K (.ref c_NoText) = some (.type "type")
  hd_NoTie : PySem.W.hasDictIn K c_NoTie = true
  xt_NoTie : PySem.W.typeIn K (.ref c_NoTie) = some (.type "type")
  hd_NoTurn : PySem.W.hasDictIn K c_NoTurn = true
  xt_NoTurn : PySem.W.typeIn K (.ref c_NoTurn) = some (.type "type")
  hd_NoWay : PySem.W.hasDictIn K c_NoWay = true
  xt_NoWay : PySem.W.typeIn K (.ref c_NoWay) = some (.type "type")
  hd_NoWeight : PySem.W.hasDictIn K c_NoWeight = true
  xt_NoWeight : PySem.W.typeIn K (.ref c_NoWeight) = some (.type "type")
  hd_NoWord : PySem.W.hasDictIn K c_NoWord = true
  xt_NoWord : PySem.W.typeIn K (.ref c_NoWord) = some (.type "type")
  hd_OffFloor : PySem.W.hasDictIn K c_OffFloor = true
  xt_OffFloor : PySem.W.typeIn K (.ref c_OffFloor) = some (.type "type")
  hd_OnShut : PySem.W.hasDictIn K c_OnShut = true
  xt_OnShut : PySem.W.typeIn K (.ref c_OnShut) = some (.type "type")
  hd_Overlap : PySem.W.hasDictIn K c_Overlap = true
  xt_Overlap : PySem.W.typeIn K (.ref c_Overlap) = some (.type "type")
  hd_TooMany : PySem.W.hasDictIn K c_TooMany = true
  xt_TooMany : PySem.W.typeIn K (.ref c_TooMany) = some (.type "type")
  hd_TooNear : PySem.W.hasDictIn K c_TooNear = true
  xt_TooNear : PySem.W.typeIn K (.ref c_TooNear) = some (.type "type")
  xb_BoardError : PySem.W.subIn K (.ref c_BoardError) (.type "BaseException") = some true
  xb_NoSize : PySem.W.subIn K (.ref c_NoSize) (.type "BaseException") = some true
  xx_NoBytes : PySem.W.excIn K c_NoBytes [.type "ValueError", .type "Exception", .type "BaseException", .type "object"] "ValueError.__new__" = true
  xk_NoBytes : PySem.W.keepIn K (.ref c_NoBytes) = true
  xb_NoBytes : PySem.W.subIn K (.ref c_NoBytes) (.type "BaseException") = some true
  xe_NoBytes : ExcC K c_NoBytes
  sb_NoBytes_BoardError : PySem.W.subIn K (.ref c_NoBytes) (.ref c_BoardError) = some true
  ne_NoBytes_NoDeed : c_NoBytes ≠ c_NoDeed
  sb_NoBytes_NoDeed : PySem.W.subIn K (.ref c_NoBytes) (.ref c_NoDeed) = some false
  ne_NoBytes_NoDrawing : c_NoBytes ≠ c_NoDrawing
  sb_NoBytes_NoDrawing : PySem.W.subIn K (.ref c_NoBytes) (.ref c_NoDrawing) = some false
  ne_NoBytes_NoOrder : c_NoBytes ≠ c_NoOrder
  sb_NoBytes_NoOrder : PySem.W.subIn K (.ref c_NoBytes) (.ref c_NoOrder) = some false
  ne_NoBytes_NoPart : c_NoBytes ≠ c_NoPart
  sb_NoBytes_NoPart : PySem.W.subIn K (.ref c_NoBytes) (.ref c_NoPart) = some false
  ne_NoBytes_NoSize : c_NoBytes ≠ c_NoSize
  sb_NoBytes_NoSize : PySem.W.subIn K (.ref c_NoBytes) (.ref c_NoSize) = some false
  ne_NoBytes_NoSpot : c_NoBytes ≠ c_NoSpot
  sb_NoBytes_NoSpot : PySem.W.subIn K (.ref c_NoBytes) (.ref c_NoSpot) = some false
  ne_NoBytes_NoText : c_NoBytes ≠ c_NoText
  sb_NoBytes_NoText : PySem.W.subIn K (.ref c_NoBytes) (.ref c_NoText) = some false
  ne_NoBytes_NoTie : c_NoBytes ≠ c_NoTie
  sb_NoBytes_NoTie : PySem.W.subIn K (.ref c_NoBytes) (.ref c_NoTie) = some false
  ne_NoBytes_NoTurn : c_NoBytes ≠ c_NoTurn
  sb_NoBytes_NoTurn : PySem.W.subIn K (.ref c_NoBytes) (.ref c_NoTurn) = some false
  ne_NoBytes_NoWay : c_NoBytes ≠ c_NoWay
  sb_NoBytes_NoWay : PySem.W.subIn K (.ref c_NoBytes) (.ref c_NoWay) = some false
  ne_NoBytes_NoWeight : c_NoBytes ≠ c_NoWeight
  sb_NoBytes_NoWeight : PySem.W.subIn K (.ref c_NoBytes) (.ref c_NoWeight) = some false
  ne_NoBytes_NoWord : c_NoBytes ≠ c_NoWord
  sb_NoBytes_NoWord : PySem.W.subIn K (.ref c_NoBytes) (.ref c_NoWord) = some false
  ne_NoBytes_OffFloor : c_NoBytes ≠ c_OffFloor
  sb_NoBytes_OffFloor : PySem.W.subIn K (.ref c_NoBytes) (.ref c_OffFloor) = some false
  ne_NoBytes_OnShut : c_NoBytes ≠ c_OnShut
  sb_NoBytes_OnShut : PySem.W.subIn K (.ref c_NoBytes) (.ref c_OnShut) = some false
  ne_NoBytes_Overlap : c_NoBytes ≠ c_Overlap
  sb_NoBytes_Overlap : PySem.W.subIn K (.ref c_NoBytes) (.ref c_Overlap) = some false
  ne_NoBytes_TooMany : c_NoBytes ≠ c_TooMany
  sb_NoBytes_TooMany : PySem.W.subIn K (.ref c_NoBytes) (.ref c_TooMany) = some false
  ne_NoBytes_TooNear : c_NoBytes ≠ c_TooNear
  sb_NoBytes_TooNear : PySem.W.subIn K (.ref c_NoBytes) (.ref c_TooNear) = some false
  sb_NoBytes_ValueError : PySem.W.subIn K (.ref c_NoBytes) (.type "ValueError") = some true
  xx_NoSize : PySem.W.excIn K c_NoSize [.type "ValueError", .type "Exception", .type "BaseException", .type "object"] "ValueError.__new__" = true
  xk_NoSize : PySem.W.keepIn K (.ref c_NoSize) = true
  xe_NoSize : ExcC K c_NoSize
  sb_NoSize_BoardError : PySem.W.subIn K (.ref c_NoSize) (.ref c_BoardError) = some true
  ne_NoSize_NoBytes : c_NoSize ≠ c_NoBytes
  sb_NoSize_NoBytes : PySem.W.subIn K (.ref c_NoSize) (.ref c_NoBytes) = some false
  ne_NoSize_NoDeed : c_NoSize ≠ c_NoDeed
  sb_NoSize_NoDeed : PySem.W.subIn K (.ref c_NoSize) (.ref c_NoDeed) = some false
  ne_NoSize_NoDrawing : c_NoSize ≠ c_NoDrawing
  sb_NoSize_NoDrawing : PySem.W.subIn K (.ref c_NoSize) (.ref c_NoDrawing) = some false
  ne_NoSize_NoOrder : c_NoSize ≠ c_NoOrder
  sb_NoSize_NoOrder : PySem.W.subIn K (.ref c_NoSize) (.ref c_NoOrder) = some false
  ne_NoSize_NoPart : c_NoSize ≠ c_NoPart
  sb_NoSize_NoPart : PySem.W.subIn K (.ref c_NoSize) (.ref c_NoPart) = some false
  sb_NoSize_NoSize : PySem.W.subIn K (.ref c_NoSize) (.ref c_NoSize) = some true
  ne_NoSize_NoSpot : c_NoSize ≠ c_NoSpot
  sb_NoSize_NoSpot : PySem.W.subIn K (.ref c_NoSize) (.ref c_NoSpot) = some false
  ne_NoSize_NoText : c_NoSize ≠ c_NoText
  sb_NoSize_NoText : PySem.W.subIn K (.ref c_NoSize) (.ref c_NoText) = some false
  ne_NoSize_NoTie : c_NoSize ≠ c_NoTie
  sb_NoSize_NoTie : PySem.W.subIn K (.ref c_NoSize) (.ref c_NoTie) = some false
  ne_NoSize_NoTurn : c_NoSize ≠ c_NoTurn
  sb_NoSize_NoTurn : PySem.W.subIn K (.ref c_NoSize) (.ref c_NoTurn) = some false
  ne_NoSize_NoWay : c_NoSize ≠ c_NoWay
  sb_NoSize_NoWay : PySem.W.subIn K (.ref c_NoSize) (.ref c_NoWay) = some false
  ne_NoSize_NoWeight : c_NoSize ≠ c_NoWeight
  sb_NoSize_NoWeight : PySem.W.subIn K (.ref c_NoSize) (.ref c_NoWeight) = some false
  ne_NoSize_NoWord : c_NoSize ≠ c_NoWord
  sb_NoSize_NoWord : PySem.W.subIn K (.ref c_NoSize) (.ref c_NoWord) = some false
  ne_NoSize_OffFloor : c_NoSize ≠ c_OffFloor
  sb_NoSize_OffFloor : PySem.W.subIn K (.ref c_NoSize) (.ref c_OffFloor) = some false
  ne_NoSize_OnShut : c_NoSize ≠ c_OnShut
  sb_NoSize_OnShut : PySem.W.subIn K (.ref c_NoSize) (.ref c_OnShut) = some false
  ne_NoSize_Overlap : c_NoSize ≠ c_Overlap
  sb_NoSize_Overlap : PySem.W.subIn K (.ref c_NoSize) (.ref c_Overlap) = some false
  ne_NoSize_TooMany : c_NoSize ≠ c_TooMany
  sb_NoSize_TooMany : PySem.W.subIn K (.ref c_NoSize) (.ref c_TooMany) = some false
  ne_NoSize_TooNear : c_NoSize ≠ c_TooNear
  sb_NoSize_TooNear : PySem.W.subIn K (.ref c_NoSize) (.ref c_TooNear) = some false
  sb_NoSize_ValueError : PySem.W.subIn K (.ref c_NoSize) (.type "ValueError") = some true
theorem sc_is_number : FnScope ["thing", "least", "most"] ["thing", "least", "most"] (defScope s_is_number) := ⟨rfl, rfl, rfl, by decide +kernel, rfl, by decide +kernel, by decide +kernel⟩
theorem sc_size_of : FnScope ["thing", "number"] ["thing"] (defScope s_size_of) := ⟨rfl, rfl, rfl, by decide +kernel, rfl, by decide +kernel, by decide +kernel⟩
theorem sc_common : FnScope ["one", "other", "row", "more"] ["one", "other"] (defScope s_common) := ⟨rfl, rfl, rfl, by decide +kernel, rfl, by decide +kernel, by decide +kernel⟩
theorem sc_without : FnScope ["one", "other", "row", "more"] ["one", "other"] (defScope s_without) := ⟨rfl, rfl, rfl, by decide +kernel, rfl, by decide +kernel, by decide +kernel⟩
theorem sc_summed : FnScope ["numbers", "found", "place", "number"] ["numbers"] (defScope s_summed) := ⟨rfl, rfl, rfl, by decide +kernel, rfl, by decide +kernel, by decide +kernel⟩
theorem sc_bytes_of : FnScope ["cells", "numbers", "sheet", "row", "quotient", "rest"] ["cells"] (defScope s_bytes_of) := ⟨rfl, rfl, rfl, by decide +kernel, rfl, by decide +kernel, by decide +kernel⟩
theorem sc_need_numbers : FnScope ["numbers", "size", "number"] ["numbers"] (defScope s_need_numbers) := ⟨rfl, rfl, rfl, by decide +kernel, rfl, by decide +kernel, by decide +kernel⟩
theorem sc_cells_from : FnScope ["numbers", "wide", "high", "rows", "place", "front", "back", "holes", "row"] ["numbers"] (defScope s_cells_from) := ⟨rfl, rfl, rfl, by decide +kernel, rfl, by decide +kernel, by decide +kernel⟩
theorem sc_law_cell_at : FnScope ["_law_script", "_law_k"] ["_law_script", "_law_k"] (defScope s_law_cell_at) := ⟨rfl, rfl, rfl, by decide +kernel, rfl, by decide +kernel, by decide +kernel⟩
theorem sc_law_state : FnScope ["_law_cell", "_law_k", "_law_drawn"] ["_law_cell", "_law_k"] (defScope s_law_state) := ⟨rfl, rfl, rfl, by decide +kernel, rfl, by decide +kernel, by decide +kernel⟩
theorem sc_law_next : FnScope ["_law_state_here", "_law_size", "_law_found", "_law_mixed"] ["_law_state_here", "_law_size"] (defScope s_law_next) := ⟨rfl, rfl, rfl, by decide +kernel, rfl, by decide +kernel, by decide +kernel⟩
theorem sc_law_kinds : FnScope ["_law_e", "_law_some", "_law_k"] ["_law_e"] (defScope s_law_kinds) := ⟨rfl, rfl, rfl, by decide +kernel, rfl, by decide +kernel, by decide +kernel⟩
theorem sc_law_sum : FnScope ["_law_numbers_here", "_law_total", "_law_k"] ["_law_numbers_here"] (defScope s_law_sum) := ⟨rfl, rfl, rfl, by decide +kernel, rfl, by decide +kernel, by decide +kernel⟩
theorem sc_law_numbers : FnScope ["_law_cells_here", "_law_numbers_here", "_law_sheet", "_law_row"] ["_law_cells_here"] (defScope s_law_numbers) := ⟨rfl, rfl, rfl, by decide +kernel, rfl, by decide +kernel, by decide +kernel⟩
theorem sc_law_cells : FnScope ["_law_state_here", "_law_size", "_law_most", "_law_sheets", "_law_k", "_law_thick", "_law_rows", "_law_bored", "_law_y", "_law_row"] ["_law_state_here"] (defScope s_law_cells) := ⟨rfl, rfl, rfl, by decide +kernel, rfl, by decide +kernel, by decide +kernel⟩
theorem sc_law_tells : FnScope ["_law_thing", "_law_one", "_law_wide", "_law_high", "_law_rows", "_law_y", "_law_k", "_law_row"] ["_law_thing"] (defScope s_law_tells) := ⟨rfl, rfl, rfl, by decide +kernel, rfl, by decide +kernel, by decide +kernel⟩
theorem sc_law_other : FnScope ["_law_state_here", "_law_numbers_here", "_law_way", "_law_at", "_law_some", "_law_to"] ["_law_state_here", "_law_numbers_here"] (defScope s_law_other) := ⟨rfl, rfl, rfl, by decide +kernel, rfl, by decide +kernel, by decide +kernel⟩
theorem sc_law_tried : FnScope ["_law_thing", "_law_found", "_law_caught", "_law_e", "_law_kinds_here"] ["_law_thing"] (defScope s_law_tried) := ⟨rfl, rfl, rfl, by decide +kernel, rfl, by decide +kernel, by decide +kernel⟩
theorem sc_law_right : FnScope ["_law_state_here", "_law_cells_here", "_law_numbers_here", "_law_found", "_law_at", "_law_turn", "_law_other_here", "_law_due"] ["_law_state_here", "_law_cells_here"] (defScope s_law_right) := ⟨rfl, rfl, rfl, by decide +kernel, rfl, by decide +kernel, by decide +kernel⟩
theorem sc_law : FnScope ["_law_script", "_law_k", "_law_state_here"] ["_law_script"] (defScope s_law) := ⟨rfl, rfl, rfl, by decide +kernel, rfl, by decide +kernel, by decide +kernel⟩
local macro_rules | `(tactic| walk_at "dx0") => `(tactic| simp (disch := first | assumption | omega) only [↓x_tVal, ↓x_dOp, startD, List.map_cons, List.map_nil, List.length_cons, List.length_nil, Nat.zero_add, Nat.reduceAdd, Nat.reduceSub, List.replicate.eq_1, List.append_nil, ↓x_dCB, ↓x_aCons, ↓x_aNil, oLt, dVar_0, ↓old_ro, ↓lnD_ro, List.length_map, dVar_1, ↓old_dat, ↓oI0_ii, ↓wB_b, ↓ix_ro, at_nn, ↓exitQ_dat, ↓tk_0, ↓x_dC, ↓x_dStl, List.replicate.eq_2, List.replicate, List.cons_append, List.nil_append, oMod, oSub, oPow, List.set_cons_succ, List.set_cons_zero, ↓mul_int, cmul_l, true_and, ↓add_int, cmul_r, ↓oI_ii, ilt_h, ↓stl_dat, ↓nN_dat, ↓x_dLst, ↓x_dFrz, ↓dVar_2, ↓dVar_1, ↓wD_dat, ↓dVar_0, cpow_h, ↓wDs_cons, ↓wDs_nil, Int.reduceToNat, nle_h, ↓exitQ_new, oGt, ↓old_loc, ↓c_ix, ↓lcR_l, List.getElem?_cons_succ, List.getElem?_cons_zero, Option.some.injEq, exists_eq_left', oDiv, ↓x_gSb, ↓c_set, cdiv_h, ↓lcK_l, ↓dVar_3])
local macro_rules | `(tactic| walk_at "one") => `(tactic| (first | refine q_setLT ?_ | refine s_setLT ?_ | refine q_par3 ?_ | refine s_par3 ?_ | refine s_lock ?_ | refine q_lock ?_ | refine s_par ?_ | refine q_aug ?_ | refine s_aug ?_ | refine q_augS ?_ | refine s_augS ?_ | refine q_next ?_ | refine q_when ?_ | refine q_if ?_ | refine q_ret ?_ | refine q_retN ?_ | refine q_set ?_ | refine q_asg ?_ | refine q_par ?_ | refine q_drop ?_ | refine q_forF ?_ | refine q_forG ?_ | refine q_wipe ?_ | refine s_next ?_ | refine s_when ?_ | refine s_if ?_ | refine s_ret ?_ | refine s_retN ?_ | refine s_set ?_ | refine s_asg ?_ | refine s_drop ?_ | refine s_forF ?_ | refine s_forG ?_ | refine s_wipe ?_ | refine s_raise ?_ | refine q_raise ?_ | refine q_tryX ?_ | refine s_tryX ?_ | refine s_raiseF ?_ | refine q_raiseF ?_))
local macro_rules | `(tactic| walk_at "ok") => `(tactic| repeat (with_reducible refine And.intro ?_ ?_; focus (first | assumption | omega | decide | trivial | (simp only [List.length_map, List.length_append, List.length_cons, List.length_nil, List.length_range, List.length_replicate]; omega))))
section
variable {P : Program} {w : World} {K : PySem.W.Frag} {mg : Str → Option Value} {base : Heap}
abbrev sp_law_cell_at := sp_cell
abbrev sp_law_state := sp_state
abbrev sp_law_next := sp_next
theorem okC_law_cell_at (T : Top K mg) : DefAt P w K mg base "_law_cell_at" 1 ["_law_script", "_law_k"] [] [] sp_law_cell_at := by
  refine def_ok sp_law_cell_at T.F_law_cell_at sc_law_cell_at T.m_law_cell_at T.b_law_cell_at (fun cdv A outer s H E hr tk pw => (dss_cons (ds_if (dt_cmp op_lt os_lt (dv 1) (de_callB call_lenA cs_lenD (by rfl) T.n_len bb_len (da_cons (dv 0) da_nil)) (nomark _)) (dss_one (ds_ret (de_ix ix_seq os_ix (dv 0) (dv 1) (fun _ _ => rfl)))) dss_nil)
    (dss_one (ds_ret de_int)))) ?_
  rintro es μ q x - ⟨ns, k, rfl, h0, h1, hl, h⟩
  refine q_whenB (decide (k < ns.length)) (fun K hK => ?_) (fun hb => ?_) (fun hb => ?_)
  · walk_at "dx0"
    simpa using hK
  · (first | (walk_at "one" <;> (try walk_at "dx0")) | skip)
    simp only [decide_eq_true_eq] at hb
    obtain ⟨j, rfl⟩ : ∃ j : Nat, k = j := ⟨k.toNat, by omega⟩
    have hj : j < ns.length := by omega
    exact ⟨.int ns[j], by simp [hj], h _⟩
  · (first | (walk_at "one" <;> (try walk_at "dx0")) | skip)
    exact h 0
theorem ok_law_cell_at (T : Top K mg) : DefAt P w K mg base "_law_cell_at" 1 ["_law_script", "_law_k"] [] [] sp_cellA := (okC_law_cell_at T).imp cell_abs
theorem okC_law_state (T : Top K mg) : DefAt P w K mg base "_law_state" 1 ["_law_cell", "_law_k"] [] [] sp_law_state := by
  refine def_ok sp_law_state T.F_law_state sc_law_state T.m_law_state T.b_law_state (fun cdv A outer s H E hr tk pw => (dss_cons (ds_set (i := 2) sc_law_state.nd rfl (by first | exact Or.inl rfl | exact Or.inr rfl) (de_stl (de_op op_mod os_mod (de_op opA_mul os_mul (de_op opA_add os_add (de_op opA_add os_add (dv 0) (de_op opA_mul os_mul de_int (dv 1))) de_int) de_int) de_int)))
    (dss_one (ds_ret (de_lst (da_cons (de_frz (de_op op_mod os_mod (de_op opA_add os_add (de_op opA_add os_add (de_op opA_mul os_mul (dv 2) (dv 2)) (de_op opA_mul os_mul de_int (dv 2))) (dv 1)) de_int)) (da_cons (de_frz (de_op op_sub os_sub (dv 0) (de_op op_pow os_pow de_int de_int))) da_nil))))))) ?_
  rintro es μ q x - ⟨c, k, rfl, h0, h1, h⟩
  (first | (walk_at "one" <;> (try walk_at "dx0")) | skip)
  have hm := Int.emod_nonneg ((c + 7919 * k + 1) * 48271) (show (2147483647 : Int) ≠ 0 by decide)
  have hm2 := Int.emod_lt_of_pos ((c + 7919 * k + 1) * 48271) (show (0 : Int) < 2147483647 by decide)
  generalize (c + 7919 * k + 1) * 48271 % 2147483647 = z at hm hm2
  (first | (walk_at "one" <;> (try walk_at "dx0")) | skip)
  exact h _ _ (by omega) (by omega)
theorem ok_law_state (T : Top K mg) : DefAt P w K mg base "_law_state" 1 ["_law_cell", "_law_k"] [] [] sp_stateA := (okC_law_state T).imp state_abs
theorem okC_law_next (T : Top K mg) : DefAt P w K mg base "_law_next" 1 ["_law_state_here", "_law_size"] [] [] sp_law_next := by
  refine def_ok sp_law_next T.F_law_next sc_law_next T.m_law_next T.b_law_next (fun cdv A outer s H E hr tk pw => (dss_cons (ds_if (dt_cmp op_gt os_gt (de_ix ix_seq os_ix (dv 0) de_int (fun _ _ => rfl)) de_int (nomark _)) (dss_cons (ds_set (i := 2) sc_law_next.nd rfl (by first | exact Or.inl rfl | exact Or.inr rfl) (de_stl (de_op op_mod os_mod (de_ix ix_seq os_ix (dv 0) de_int (fun _ _ => rfl)) (dv 1))))
    (dss_cons (ds_asg (de_frz (de_op op_fdiv os_div (de_ix ix_seq os_ix (dv 0) de_int (fun _ _ => rfl)) (dv 1))) (dg_sub (W := WF) (dv 0) de_int set_list ss_list))
    (dss_one (ds_ret (dv 2))))) dss_nil)
    (dss_cons (ds_asg (de_frz (de_op op_mod os_mod (de_op opA_add os_add (de_op opA_mul os_mul (de_ix ix_seq os_ix (dv 0) de_int (fun _ _ => rfl)) de_int) de_int) de_int)) (dg_sub (W := WF) (dv 0) de_int set_list ss_list))
    (dss_cons (ds_set (i := 3) sc_law_next.nd rfl (by first | exact Or.inl rfl | exact Or.inr rfl) (de_stl (de_op op_mod os_mod (de_op opA_mul os_mul (de_ix ix_seq os_ix (dv 0) de_int (fun _ _ => rfl)) (de_ix ix_seq os_ix (dv 0) de_int (fun _ _ => rfl))) de_int)))
    (dss_one (ds_ret (de_op op_mod os_mod (de_op op_fdiv os_div (dv 3) de_int) (dv 1)))))))) ?_
  rintro es μ q x - ⟨n, k, rfl, ⟨a, b, hn, ha, hb⟩, h0, h1, h⟩
  have hlt := get_lt hn
  refine q_whenB (decide (1 < b)) (fun K hK => ?_) (fun hb1 => ?_) (fun hb1 => ?_)
  · walk_at "dx0"
    simp only [hn]
    walk_at "dx0"
    exact hK
  · (first | (walk_at "one" <;> (try walk_at "dx0")) | skip)
    simp only [hn]
    walk_at "dx0"
    (walk_at "one" <;> (try walk_at "dx0"))
    simp only [hn]
    walk_at "dx0"
    simp only [hn]
    walk_at "dx0"
    refine ⟨1, rfl, ?_⟩
    (first | (walk_at "one" <;> (try walk_at "dx0")) | skip)
    have st : Stp μ n (μ.set n (.lst [.int a, .int (b / k)])) := ⟨a, _, rfl, ha, hb⟩
    rw [st.take]
    exact h _ _ (Int.emod_nonneg _ (by omega)) (Int.emod_lt_of_pos _ h0) st
  · (walk_at "one" <;> (try walk_at "dx0"))
    simp only [hn]
    walk_at "dx0"
    simp only [hn]
    walk_at "dx0"
    refine ⟨0, rfl, ?_⟩
    have hm := Int.emod_nonneg (a * 69621 + 11) (show (2147483629 : Int) ≠ 0 by decide)
    have hm2 := Int.emod_lt_of_pos (a * 69621 + 11) (show (0 : Int) < 2147483629 by decide)
    generalize (a * 69621 + 11) % 2147483629 = z at hm hm2
    have st : Stp μ n (μ.set n (.lst [.int z, .int b])) := ⟨z, _, rfl, hm, by omega⟩
    have hn2 : (μ.set n (.lst [.int z, .int b]))[n]? = some (.lst [.int z, .int b]) := List.getElem?_set_self hlt
    (walk_at "one" <;> (try walk_at "dx0"))
    simp only [hn2]
    walk_at "dx0"
    (first | (walk_at "one" <;> (try walk_at "dx0")) | skip)
    rw [st.take]
    exact h _ _ (Int.emod_nonneg _ (by omega)) (Int.emod_lt_of_pos _ h0) st
theorem ok_law_next (T : Top K mg) : DefAt P w K mg base "_law_next" 1 ["_law_state_here", "_law_size"] [] [] sp_nextA := (okC_law_next T).abs next_abs
local macro_rules | `(tactic| walk_at "dx1") => `(tactic| simp (disch := first | assumption | omega) only [↓x_dAndV, ↓x_dCB, ↓x_aCons, startD, List.map_cons, List.map_nil, List.length_cons, List.length_nil, Nat.zero_add, Nat.reduceAdd, Nat.reduceSub, List.replicate.eq_1, List.append_nil, ↓x_dRaw, ↓x_aNil, ↓x_dNotV, ↓wB_b, ↓x_dChain, oLe, dVar_2, ↓old_dat, ↓exitQ_dat, dVar_0, ↓nN_dat, true_and, dVar_1, ↓isi_bool, ↓isi_int, ↓tk_0, Bool.not_false, ↓oI0_ii, decide_eq_true_eq, if_true, Bool.false_eq_true, if_false, Bool.not_true])
def sp_is_number : SpD := fun es μ q x => ∃ (d : PyData) (a : Int) (b : Int), es = [.dat d, .dat (.int a), .dat (.int b)] ∧ (q (.dat (.bool (isNum d a b))) μ)
theorem e_is_number {d : PyData} {a : Int} {b : Int} {μ : Mu} {q : PQ} {x : XQ} : sp_is_number [.dat d, .dat (.int a), .dat (.int b)] μ q x = (q (.dat (.bool (isNum d a b))) μ) := by
  refine propext ⟨fun hyp0 => ?_, fun hyp0 => ⟨d, a, b, rfl, hyp0⟩⟩
  obtain ⟨d', a', b', eq0, hyp0⟩ := hyp0
  simp only [List.cons.injEq, Exn.mk.injEq, EV.at.injEq, eq_self, EV.dat.injEq, EV.loc.injEq, EV.new.injEq, EV.ro.injEq, EV.exc.injEq, EV.per.injEq, PyData.int.injEq, PyData.str.injEq, PyData.bool.injEq, PyData.list.injEq, PyData.tuple.injEq, and_true, true_and, and_assoc, map_int_inj, ] at eq0
  obtain ⟨rfl, rfl, rfl⟩ := eq0
  exact hyp0
theorem ok_is_number (T : Top K mg) : DefAt P w K mg base "is_number" 1 ["thing", "least", "most"] [] [] sp_is_number := by
  refine def_ok sp_is_number T.F_is_number sc_is_number T.m_is_number T.b_is_number (fun cdv A outer s H E hr tk pw => (dss_one (ds_ret (de_and (de_callB call_isiY cs_isi (by rfl) T.n_isinstance bb_isinstance (da_cons (dv 0) (da_cons (de_ty T.n_int bt_int) da_nil))) (de_and (de_not (de_callB call_isiY cs_isi (by rfl) T.n_isinstance bb_isinstance (da_cons (dv 0) (da_cons (de_ty T.n_bool bt_bool) da_nil)))) (de_one (de_chain op_le os_le op_le os_le (dv 1) (dv 0) (dv 2)))))))) ?_
  rintro es μ q x - ⟨d, a, b, rfl, h⟩
  refine s_ret ?_
  (try walk_at "dx1")
  cases d with
  | int i =>
    simp only [isIntD, isBoolD, isNum] at h ⊢
    (try walk_at "dx1")
    by_cases h1 : a ≤ i
    · simpa [h1] using h
    · simpa [h1] using h
  | _ =>
    simp only [isIntD, isBoolD, isNum] at h ⊢
    (try walk_at "dx1")
    exact h
local macro_rules | `(tactic| walk_at "dx2") => `(tactic| simp (disch := first | assumption | omega) only [↓x_dAndV, ↓x_dCB, ↓x_aCons, startD, List.map_cons, List.map_nil, List.length_cons, List.length_nil, Nat.zero_add, Nat.reduceAdd, Nat.reduceSub, List.replicate.eq_1, List.append_nil, ↓x_dRaw, ↓x_aNil, ↓x_dNotV, ↓wB_b, ↓x_dChain, oLe, dVar_2, ↓old_dat, ↓exitQ_dat, dVar_0, ↓nN_dat, true_and, dVar_1, ↓isi_bool, ↓isi_int, ↓tk_0, Bool.not_false, ↓oI0_ii, decide_eq_true_eq, if_true, Bool.false_eq_true, if_false, Bool.not_true])
local macro_rules | `(tactic| walk_at "dx3") => `(tactic| simp (disch := first | assumption | omega) only [List.length_cons, List.length_nil, Nat.zero_add, Nat.reduceAdd, ↓exitQ_dat, startD, List.map_cons, List.map_nil, Nat.reduceSub, List.replicate.eq_2, List.replicate, List.cons_append, List.nil_append, ↓x_tOrD, ↓x_tNotD, ↓x_tVal, ↓x_dCB, ↓x_aCons, ↓dVar_0, ↓old_dat, ↓x_dRaw, ↓x_aNil, ↓isi_tuple, ↓wB_b, ↓isTupD_tuple, Bool.not_true, Bool.false_eq_true, if_true, ↓x_dOp, ↓lnD_tup, ↓x_dC, ↓ne_dd, ↓noD_i, and_true, dep_int, nle_h, eqv_int, true_and, if_false, ↓x_iSeqD, ↓seqDK_t, ↓x_gNm, ↓nN_dat, ↓fg_cons, ↓fg_nil, List.set_cons_succ, List.set_cons_zero, ↓x_dCallF, ↓x_dStl, ↓dVar_1, ↓stl_dat, ↓aO_cons, ↓aO_nil, Bool.and_true, List.append_nil, cl_dat, ↓cl_none, ↓cl_nil, ↓e_is_number, ↓isNum_i, ↓tk_0, oAnd, ↓x_lc, ↓x_iZipD, ↓zipK_t, List.length_map, ↓x_oTuple, ↓x_gTp, ↓x_gCn, ↓x_gNl0, wipeD, dVar_3, dVar_2, ↓oI0_ii, ↓wD_dat, ↓sqK_new, ↓x_dUn, ↓inv_i, oMod, ↓x_iEnumD, ↓enumK_lk, ile_h, List.getElem?_cons_succ, List.getElem?_cons_zero, ↓dVar_2, ↓dVar_3, ↓mul_int, cmul_l, cl_none, augK_s, ↓iadd_ii, ↓cl_dat, ↓oI_ii, ilt_h, ↓divmod_ii, cdiv_h, ↓lsA_t, ↓exitQ_new, ↓old_loc, ↓stl_loc, ↓enumK_ck, ↓seqE_l])
/-! ### cells and their numbers -/
abbrev Cs := (Int × Int) × List Int × List Int × List Int
def csD (c : Cs) : PyData := .tuple [.tuple [.int c.1.1, .int c.1.2], .tuple (c.2.1.map .int), .tuple (c.2.2.1.map .int), .tuple (c.2.2.2.map .int)]
theorem enc_cs : Enc csD 5 := Enc.t4 (Enc.t2 enc_int enc_int) enc_int.tup enc_int.tup enc_int.tup
theorem csD_inj {a b : Cs} : (csD a = csD b) = (a = b) := enc_cs.eq
theorem csD_eq {c : Cs} : EV.dat (csD c) = .dat (.tuple [.tuple [.int c.1.1, .int c.1.2], .tuple (c.2.1.map .int), .tuple (c.2.2.1.map .int), .tuple (c.2.2.2.map .int)]) := rfl
def wsum : Nat → List Int → Int
  | _, [] => 0
  | k, n :: ns => (k : Int) * n + wsum (k + 1) ns
theorem wsum_app : ∀ (k : Nat) (a b : List Int), wsum k (a ++ b) = wsum k a + wsum (k + a.length) b
  | k, [], b => by simp [wsum]
  | k, n :: a, b => by
    rw [List.cons_append, wsum, wsum, wsum_app (k + 1) a b, List.length_cons, show k + 1 + a.length = k + (a.length + 1) by omega]
    omega
def sumS (ns : List Int) : Int := wsum 1 ns % 65521
theorem sumS_b (ns : List Int) : 0 ≤ sumS ns ∧ sumS ns < 65521 := ⟨Int.emod_nonneg _ (by decide), Int.emod_lt_of_pos _ (by decide)⟩
def sumL (ns : List Int) : List Int := [sumS ns / 256, sumS ns % 256]
def two (rs : List Int) : List Int := rs.flatMap fun r => [r % 256, r / 256]
theorem two_app (a b : List Int) : two (a ++ b) = two a ++ two b := by simp [two]
theorem two_len : ∀ a : List Int, (two a).length = 2 * a.length
  | [] => rfl
  | r :: a => by
    have := two_len a
    simp only [two, List.flatMap_cons, List.length_append, List.length_cons, List.length_nil] at *
    omega
def encN (c : Cs) : List Int := [c.1.1, c.1.2] ++ two (c.2.1 ++ c.2.2.1 ++ c.2.2.2)
def numsOf (c : Cs) : List Int := encN c ++ sumL (encN c)
def sz72 (a b : Int) : Bool := decide (3 ≤ a ∧ a ≤ 10 ∧ 3 ≤ b ∧ b ≤ 10)
def sp_size_of (T : Top K mg) : SpD := fun es μ q x => ∃ (a : Int) (b : Int), es = [.dat (.tuple [.int a, .int b])] ∧ ((if sz72 a b = true then q (.dat (.tuple [.int a, .int b])) μ else x ⟨T.c_NoSize, none⟩ μ))
theorem e_size_of (T : Top K mg) {a : Int} {b : Int} {μ : Mu} {q : PQ} {x : XQ} : sp_size_of T [.dat (.tuple [.int a, .int b])] μ q x = ((if sz72 a b = true then q (.dat (.tuple [.int a, .int b])) μ else x ⟨T.c_NoSize, none⟩ μ)) := by
  refine propext ⟨fun hyp0 => ?_, fun hyp0 => ⟨a, b, rfl, hyp0⟩⟩
  obtain ⟨a', b', eq0, hyp0⟩ := hyp0
  simp only [List.cons.injEq, Exn.mk.injEq, EV.at.injEq, eq_self, EV.dat.injEq, EV.loc.injEq, EV.new.injEq, EV.ro.injEq, EV.exc.injEq, EV.per.injEq, PyData.int.injEq, PyData.str.injEq, PyData.bool.injEq, PyData.list.injEq, PyData.tuple.injEq, and_true, true_and, and_assoc, map_int_inj, ] at eq0
  obtain ⟨rfl, rfl⟩ := eq0
  exact hyp0
theorem ok_size_of (T : Top K mg) : DefAtN P w K mg base "size_of" 2 ["thing"] [] [] (sp_size_of T) := by
  refine def_okN (sp_size_of T) T.F_size_of sc_size_of T.m_size_of T.b_size_of (fun cdv A outer s H E hr tk pw => (dss_cons (ds_if (dw_or (dt_not (dt_val (de_callB call_isiY cs_isi (by rfl) T.n_isinstance bb_isinstance (da_cons (dv 0) (da_cons (de_ty T.n_tuple bt_tuple) da_nil))))) (dw_or1 (dt_cmp (opA_ne hr.units) os_ne (de_callB call_lenA cs_lenD (by rfl) T.n_len bb_len (da_cons (dv 0) da_nil)) de_int (nomark _)))).dt (dss_one (ds_raiseN rfl tk PySem.F.excBase_ValueError T.xx_NoSize T.gx_NoSize T.xk_NoSize (raises_own T.xb_NoSize T.xt_NoSize) (by rfl))) dss_nil)
    (dss_cons (ds_forF [1] pw rfl (di_seqD (dv 0)) (dg_name (i := 1) sc_size_of.nd rfl (by first | exact Or.inl rfl | exact Or.inr rfl)) (dss_one (ds_if (dt_not (dt_val (de_callF (ok_is_number T) hr (by decide) (by rfl) (fun _ _ => .nil) (da_cons (de_stl (dv 1)) (da_cons (de_stl (de_gint T.g_LEAST)) (da_cons (de_stl (de_gint T.g_MOST)) da_nil)))))) (dss_one (ds_raiseN rfl tk PySem.F.excBase_ValueError T.xx_NoSize T.gx_NoSize T.xk_NoSize (raises_own T.xb_NoSize T.xt_NoSize) (by rfl))) dss_nil)))
    (dss_one (ds_ret (dv 0)))))) ?_
  rintro es μ q x - ⟨a, b, rfl, h⟩
  ((try walk_at "dx3"); repeat (walk_at "one" <;> (try walk_at "dx3")))
  rw [show [EV.dat (PyData.int a), EV.dat (PyData.int b)] = ([a, b] : List Int).map (fun n => EV.dat (.int n)) from rfl]
  refine for_st (h := fun n : Int => EV.dat (.int n)) (fun i (_ : Unit) => ∀ n ∈ [a, b].take i, 3 ≤ n ∧ n ≤ 10) (fun η _ => η) (fun μ _ => μ) () rfl rfl (by simp) (fun _ => trivial) ?_ ?_
  · rintro i n s J hi hk hJ
    have hm := List.mem_of_getElem? hi
    ((try walk_at "dx3"); repeat (walk_at "one" <;> (try walk_at "dx3")))
    split
    · rename_i g
      have hbad : ¬ (3 ≤ n ∧ n ≤ 10) := by simp at g; omega
      have : sz72 a b = false := by
        simp only [sz72, decide_eq_false_iff_not]
        simp only [List.mem_cons, List.not_mem_nil, or_false] at hm
        rcases hm with rfl | rfl <;> omega
      rw [this] at h
      ((try walk_at "dx3"); repeat (walk_at "one" <;> (try walk_at "dx3")))
      simpa using h
    · rename_i g
      have hgood : 3 ≤ n ∧ n ≤ 10 := by simp at g; omega
      have hk' : ∀ m ∈ [a, b].take (i + 1), 3 ≤ m ∧ m ≤ 10 := fun m hm => by
        rw [List.take_add_one, hi] at hm
        rcases List.mem_append.mp hm with hm | hm
        · exact hk m hm
        · have e : m = n := by simpa using hm
          rw [e]
          exact hgood
      (have j := hJ () hk'; simp only [List.range_succ, List.map_append, List.map_cons, List.map_nil, fg_cons, fg_nil, List.set_cons_succ, List.set_cons_zero] at j; exact j)
  · rintro s hk
    have : sz72 a b = true := by
      have h1 := hk a (by simp)
      have h2 := hk b (by simp)
      simp only [sz72, decide_eq_true_eq]
      omega
    rw [this, if_pos rfl] at h
    ((try walk_at "dx3"); repeat (walk_at "one" <;> (try walk_at "dx3")))
    exact h
local macro_rules | `(tactic| walk_at "dx4") => `(tactic| simp (disch := first | assumption | omega) only [List.length_cons, List.length_nil, Nat.zero_add, Nat.reduceAdd, ↓exitQ_dat, startD, List.map_cons, List.map_nil, Nat.reduceSub, List.replicate.eq_2, List.replicate, List.cons_append, List.nil_append, ↓x_tOrD, ↓x_tNotD, ↓x_tVal, ↓x_dCB, ↓x_aCons, ↓dVar_0, ↓old_dat, ↓x_dRaw, ↓x_aNil, ↓isi_tuple, ↓wB_b, ↓isTupD_tuple, Bool.not_true, Bool.false_eq_true, if_true, ↓x_dOp, ↓lnD_tup, ↓x_dC, ↓ne_dd, ↓noD_i, and_true, dep_int, nle_h, eqv_int, true_and, if_false, ↓x_iSeqD, ↓seqDK_t, ↓x_gNm, ↓nN_dat, ↓fg_cons, ↓fg_nil, List.set_cons_succ, List.set_cons_zero, ↓x_dCallF, ↓x_dStl, ↓dVar_1, ↓stl_dat, ↓aO_cons, ↓aO_nil, Bool.and_true, List.append_nil, cl_dat, ↓cl_none, ↓cl_nil, ↓e_is_number, ↓isNum_i, ↓tk_0, oAnd, ↓x_lc, ↓x_iZipD, ↓zipK_t, List.length_map, ↓x_oTuple, ↓x_gTp, ↓x_gCn, ↓x_gNl0, wipeD, dVar_3, dVar_2, ↓oI0_ii, ↓wD_dat, ↓sqK_new, ↓x_dUn, ↓inv_i, oMod, ↓x_iEnumD, ↓enumK_lk, ile_h, List.getElem?_cons_succ, List.getElem?_cons_zero, ↓dVar_2, ↓dVar_3, ↓mul_int, cmul_l, cl_none, augK_s, ↓iadd_ii, ↓cl_dat, ↓oI_ii, ilt_h, ↓divmod_ii, cdiv_h, ↓lsA_t, ↓exitQ_new, ↓old_loc, ↓stl_loc, ↓enumK_ck, ↓seqE_l])
def andI (a b : List Int) : List Int := (a.zip b).map fun p => Builtin.bitAnd p.1 p.2
def notI (a b : List Int) : List Int := (a.zip b).map fun p => Builtin.bitAnd p.1 (Builtin.bitNot p.2)
theorem zipI {a b : List Int} : (((a.map PyData.int).zip (b.map PyData.int)).map fun p => EV.dat (.tuple [p.1, p.2])) = ((a.zip b).map fun p : Int × Int => PyData.tuple [.int p.1, .int p.2]).map .dat := by
  rw [List.zip_map, List.map_map, List.map_map]
  rfl
def sp_common : SpD := fun es μ q x => ∃ (a : List Int) (b : List Int), es = [.dat (.tuple (a.map .int)), .dat (.tuple (b.map .int))] ∧ (a.length = b.length ∧ a.length ≤ 1000 ∧ q (.dat (.tuple ((andI a b).map .int))) μ)
theorem e_common {a : List Int} {b : List Int} {μ : Mu} {q : PQ} {x : XQ} : sp_common [.dat (.tuple (a.map .int)), .dat (.tuple (b.map .int))] μ q x = (a.length = b.length ∧ a.length ≤ 1000 ∧ q (.dat (.tuple ((andI a b).map .int))) μ) := by
  refine propext ⟨fun hyp0 => ?_, fun hyp0 => ⟨a, b, rfl, hyp0⟩⟩
  obtain ⟨a', b', eq0, hyp0⟩ := hyp0
  simp only [List.cons.injEq, Exn.mk.injEq, EV.at.injEq, eq_self, EV.dat.injEq, EV.loc.injEq, EV.new.injEq, EV.ro.injEq, EV.exc.injEq, EV.per.injEq, PyData.int.injEq, PyData.str.injEq, PyData.bool.injEq, PyData.list.injEq, PyData.tuple.injEq, and_true, true_and, and_assoc, map_int_inj, ] at eq0
  obtain ⟨rfl, rfl⟩ := eq0
  exact hyp0
theorem ok_common (T : Top K mg) : DefAt P w K mg base "common" 1 ["one", "other"] [] [] sp_common := by
  refine def_ok sp_common T.F_common sc_common T.m_common T.b_common (fun cdv A outer s H E hr tk pw => (dss_one (ds_ret (de_callTy call_tuple_of cs_tuple (by rfl) T.n_tuple bt_tuple (da_cons (de_lc (own := [("row", 2), ("more", 3)]) rfl sc_common.nd (di_zip (by rfl) T.n_zip (da_cons (de_stl (dv 0)) (da_cons (de_stl (dv 1)) da_nil))) (blkOk_by (N := ["one", "other", "row", "more"]) (sc := (defScope s_common)) (by decide +kernel)) (by decide) (fun _ _ _ _ _ => (dg_tup (n := 2) rfl (dgs_cons (dg_name (i := 2) sc_common.nd rfl (by first | exact Or.inl rfl | exact Or.inr rfl)) (dgs_cons (dg_name (i := 3) sc_common.nd rfl (by first | exact Or.inl rfl | exact Or.inr rfl)) dgs_nil)))) (fun _ _ _ _ _ => dts_nil) (fun _ _ _ _ _ => (de_op op_and os_and (dv 2) (dv 3)))) da_nil))))) ?_
  rintro es μ q x - ⟨a, b, rfl, hl, hz, h⟩
  ((try walk_at "dx4"); repeat (walk_at "one" <;> (try walk_at "dx4")))
  refine ⟨hl, ?_⟩
  rw [zipI]
  refine lc_mapD (f := ?f) (by simp; omega) trivial (fun p K hp hK => ?e) ?_
  case e => (try walk_at "dx4"); exact hK
  (try walk_at "dx4")
  rw [andI, List.map_map] at h
  exact h
local macro_rules | `(tactic| walk_at "dx5") => `(tactic| simp (disch := first | assumption | omega) only [List.length_cons, List.length_nil, Nat.zero_add, Nat.reduceAdd, ↓exitQ_dat, startD, List.map_cons, List.map_nil, Nat.reduceSub, List.replicate.eq_2, List.replicate, List.cons_append, List.nil_append, ↓x_tOrD, ↓x_tNotD, ↓x_tVal, ↓x_dCB, ↓x_aCons, ↓dVar_0, ↓old_dat, ↓x_dRaw, ↓x_aNil, ↓isi_tuple, ↓wB_b, ↓isTupD_tuple, Bool.not_true, Bool.false_eq_true, if_true, ↓x_dOp, ↓lnD_tup, ↓x_dC, ↓ne_dd, ↓noD_i, and_true, dep_int, nle_h, eqv_int, true_and, if_false, ↓x_iSeqD, ↓seqDK_t, ↓x_gNm, ↓nN_dat, ↓fg_cons, ↓fg_nil, List.set_cons_succ, List.set_cons_zero, ↓x_dCallF, ↓x_dStl, ↓dVar_1, ↓stl_dat, ↓aO_cons, ↓aO_nil, Bool.and_true, List.append_nil, cl_dat, ↓cl_none, ↓cl_nil, ↓e_is_number, ↓isNum_i, ↓tk_0, oAnd, ↓x_lc, ↓x_iZipD, ↓zipK_t, List.length_map, ↓x_oTuple, ↓x_gTp, ↓x_gCn, ↓x_gNl0, wipeD, dVar_3, dVar_2, ↓oI0_ii, ↓wD_dat, ↓sqK_new, ↓x_dUn, ↓inv_i, oMod, ↓x_iEnumD, ↓enumK_lk, ile_h, List.getElem?_cons_succ, List.getElem?_cons_zero, ↓dVar_2, ↓dVar_3, ↓mul_int, cmul_l, cl_none, augK_s, ↓iadd_ii, ↓cl_dat, ↓oI_ii, ilt_h, ↓divmod_ii, cdiv_h, ↓lsA_t, ↓exitQ_new, ↓old_loc, ↓stl_loc, ↓enumK_ck, ↓seqE_l])
def sp_without : SpD := fun es μ q x => ∃ (a : List Int) (b : List Int), es = [.dat (.tuple (a.map .int)), .dat (.tuple (b.map .int))] ∧ (a.length = b.length ∧ a.length ≤ 1000 ∧ q (.dat (.tuple ((notI a b).map .int))) μ)
theorem e_without {a : List Int} {b : List Int} {μ : Mu} {q : PQ} {x : XQ} : sp_without [.dat (.tuple (a.map .int)), .dat (.tuple (b.map .int))] μ q x = (a.length = b.length ∧ a.length ≤ 1000 ∧ q (.dat (.tuple ((notI a b).map .int))) μ) := by
  refine propext ⟨fun hyp0 => ?_, fun hyp0 => ⟨a, b, rfl, hyp0⟩⟩
  obtain ⟨a', b', eq0, hyp0⟩ := hyp0
  simp only [List.cons.injEq, Exn.mk.injEq, EV.at.injEq, eq_self, EV.dat.injEq, EV.loc.injEq, EV.new.injEq, EV.ro.injEq, EV.exc.injEq, EV.per.injEq, PyData.int.injEq, PyData.str.injEq, PyData.bool.injEq, PyData.list.injEq, PyData.tuple.injEq, and_true, true_and, and_assoc, map_int_inj, ] at eq0
  obtain ⟨rfl, rfl⟩ := eq0
  exact hyp0
theorem ok_without (T : Top K mg) : DefAt P w K mg base "without" 1 ["one", "other"] [] [] sp_without := by
  refine def_ok sp_without T.F_without sc_without T.m_without T.b_without (fun cdv A outer s H E hr tk pw => (dss_one (ds_ret (de_callTy call_tuple_of cs_tuple (by rfl) T.n_tuple bt_tuple (da_cons (de_lc (own := [("row", 2), ("more", 3)]) rfl sc_without.nd (di_zip (by rfl) T.n_zip (da_cons (de_stl (dv 0)) (da_cons (de_stl (dv 1)) da_nil))) (blkOk_by (N := ["one", "other", "row", "more"]) (sc := (defScope s_without)) (by decide +kernel)) (by decide) (fun _ _ _ _ _ => (dg_tup (n := 2) rfl (dgs_cons (dg_name (i := 2) sc_without.nd rfl (by first | exact Or.inl rfl | exact Or.inr rfl)) (dgs_cons (dg_name (i := 3) sc_without.nd rfl (by first | exact Or.inl rfl | exact Or.inr rfl)) dgs_nil)))) (fun _ _ _ _ _ => dts_nil) (fun _ _ _ _ _ => (de_op op_and os_and (dv 2) (de_un un_inv us_inv (dv 3))))) da_nil))))) ?_
  rintro es μ q x - ⟨a, b, rfl, hl, hz, h⟩
  ((try walk_at "dx5"); repeat (walk_at "one" <;> (try walk_at "dx5")))
  refine ⟨hl, ?_⟩
  rw [zipI]
  refine lc_mapD (f := ?f) (by simp; omega) trivial (fun p K hp hK => ?e) ?_
  case e => (try walk_at "dx5"); exact hK
  (try walk_at "dx5")
  rw [notI, List.map_map] at h
  exact h
local macro_rules | `(tactic| walk_at "dx6") => `(tactic| simp (disch := first | assumption | omega) only [List.length_cons, List.length_nil, Nat.zero_add, Nat.reduceAdd, ↓exitQ_dat, startD, List.map_cons, List.map_nil, Nat.reduceSub, List.replicate.eq_2, List.replicate, List.cons_append, List.nil_append, ↓x_tOrD, ↓x_tNotD, ↓x_tVal, ↓x_dCB, ↓x_aCons, ↓dVar_0, ↓old_dat, ↓x_dRaw, ↓x_aNil, ↓isi_tuple, ↓wB_b, ↓isTupD_tuple, Bool.not_true, Bool.false_eq_true, if_true, ↓x_dOp, ↓lnD_tup, ↓x_dC, ↓ne_dd, ↓noD_i, and_true, dep_int, nle_h, eqv_int, true_and, if_false, ↓x_iSeqD, ↓seqDK_t, ↓x_gNm, ↓nN_dat, ↓fg_cons, ↓fg_nil, List.set_cons_succ, List.set_cons_zero, ↓x_dCallF, ↓x_dStl, ↓dVar_1, ↓stl_dat, ↓aO_cons, ↓aO_nil, Bool.and_true, List.append_nil, cl_dat, ↓cl_none, ↓cl_nil, ↓e_is_number, ↓isNum_i, ↓tk_0, oAnd, ↓x_lc, ↓x_iZipD, ↓zipK_t, List.length_map, ↓x_oTuple, ↓x_gTp, ↓x_gCn, ↓x_gNl0, wipeD, dVar_3, dVar_2, ↓oI0_ii, ↓wD_dat, ↓sqK_new, ↓x_dUn, ↓inv_i, oMod, ↓x_iEnumD, ↓enumK_lk, ile_h, List.getElem?_cons_succ, List.getElem?_cons_zero, ↓dVar_2, ↓dVar_3, ↓mul_int, cmul_l, cl_none, augK_s, ↓iadd_ii, ↓cl_dat, ↓oI_ii, ilt_h, ↓divmod_ii, cdiv_h, ↓lsA_t, ↓exitQ_new, ↓old_loc, ↓stl_loc, ↓enumK_ck, ↓seqE_l])
theorem wsum_take {ns : List Int} {i : Nat} {n : Int} (h : ns[i]? = some n) : wsum 1 (ns.take (i + 1)) = wsum 1 (ns.take i) + (1 + (i : Int)) * n := by
  have hl : i < ns.length := (List.getElem?_eq_some_iff.mp h).1
  rw [List.take_add_one, h, wsum_app, List.length_take, Nat.min_eq_left (by omega)]
  simp [wsum]
theorem zip_get {ns : List Int} {i : Nat} {p : Int × Nat} (hi : ns.zipIdx[i]? = some p) : ns[i]? = some p.1 ∧ p.2 = i := by
  rw [List.getElem?_zipIdx] at hi
  cases e : ns[i]? with
  | none => rw [e] at hi; cases hi
  | some n =>
    rw [e] at hi
    have : (n, 0 + i) = p := by simpa using hi
    rw [← this]
    exact ⟨rfl, by simp⟩
/-- a thing as it is handed over: data, or a list that lives -/
inductive Thing (μ : Mu) : EV → PyData → Prop
  | dat (d : PyData) : Thing μ (.dat d) d
  | loc {n : Nat} {xs : List PyData} : μ[n]? = some (.lst xs) → Thing μ (.loc n) (.list xs)
def sp_summed : SpD := fun es μ q x => ∃ (e : EV), es = [e] ∧ (∃ ns : List Int, Thing μ e (.list (ns.map .int)) ∧ ns.length ≤ 100 ∧ q (.new ((sumL ns).map .int)) μ)
theorem e_summed {e : EV} {μ : Mu} {q : PQ} {x : XQ} : sp_summed [e] μ q x = (∃ ns : List Int, Thing μ e (.list (ns.map .int)) ∧ ns.length ≤ 100 ∧ q (.new ((sumL ns).map .int)) μ) := by
  refine propext ⟨fun hyp0 => ?_, fun hyp0 => ⟨e, rfl, hyp0⟩⟩
  obtain ⟨e', eq0, hyp0⟩ := hyp0
  simp only [List.cons.injEq, Exn.mk.injEq, EV.at.injEq, eq_self, EV.dat.injEq, EV.loc.injEq, EV.new.injEq, EV.ro.injEq, EV.exc.injEq, EV.per.injEq, PyData.int.injEq, PyData.str.injEq, PyData.bool.injEq, PyData.list.injEq, PyData.tuple.injEq, and_true, true_and, and_assoc, map_int_inj, ] at eq0
  subst eq0
  exact hyp0
theorem ok_summed (T : Top K mg) : DefAt P w K mg base "summed" 1 ["numbers"] [] [] sp_summed := by
  refine def_ok sp_summed T.F_summed sc_summed T.m_summed T.b_summed (fun cdv A outer s H E hr tk pw => (dss_cons (ds_set (i := 1) sc_summed.nd rfl (by first | exact Or.inl rfl | exact Or.inr rfl) de_int)
    (dss_cons (ds_forF [0, 2, 3] pw rfl (di_enum2 (by rfl) T.n_enumerate (da_cons (de_stl (dv 0)) (da_cons de_int da_nil))) (dg_tup (n := 2) rfl (dgs_cons (dg_name (i := 2) sc_summed.nd rfl (by first | exact Or.inl rfl | exact Or.inr rfl)) (dgs_cons (dg_name (i := 3) sc_summed.nd rfl (by first | exact Or.inl rfl | exact Or.inr rfl)) dgs_nil))) (dss_one (ds_aug (i := 1) sc_summed.nd rfl (by first | exact Or.inl rfl | exact Or.inr rfl) (de_op opA_mul os_mul (dv 2) (dv 3)) ip_addA os_iadd)))
    (dss_one (ds_ret (de_callTy (call_listA rfl) cs_listA (by rfl) T.n_list bt_list (da_cons (de_callB call_divmod cs_divmod (by rfl) T.n_divmod bb_divmod (da_cons (de_op op_mod os_mod (dv 1) (de_gint T.g_REST)) (da_cons (de_gint T.g_SIDE) da_nil))) da_nil))))))) ?_
  rintro es μ q x - ⟨e, rfl, ns, ht, hl, h⟩
  cases ht with
  | dat =>
    ((try walk_at "dx6"); repeat (walk_at "one" <;> (try walk_at "dx6")))
    rw [enumE_map]
    refine for_st (h := fun p : Int × Nat => EV.dat (.tuple [.int (1 + (p.2 : Nat)), .int p.1])) (fun i (t : Int) => t = wsum 1 (ns.take i)) (fun η t => η.set 1 (some (.dat (.int t)))) (fun μ _ => μ) 0 rfl rfl rfl (fun _ => trivial) ?_ ?_
    · rintro i p t J hi rfl hJ
      have hp := zip_get hi
      obtain ⟨n, j⟩ := p
      obtain ⟨hp, rfl⟩ := hp
      have := get_lt hp
      ((try walk_at "dx6"); repeat (walk_at "one" <;> (try walk_at "dx6")))
      (have j := hJ _ (wsum_take hp).symm; simp only [List.range_succ, List.map_append, List.map_cons, List.map_nil, fg_cons, fg_nil, List.set_cons_succ, List.set_cons_zero] at j; exact j)
    · rintro t ht
      rw [List.length_zipIdx, List.take_length] at ht
      subst ht
      ((try walk_at "dx6"); repeat (walk_at "one" <;> (try walk_at "dx6")))
      exact h
  | loc hn =>
    ((try walk_at "dx6"); repeat (walk_at "one" <;> (try walk_at "dx6")))
    rw [hn]
    (try walk_at "dx6")
    rw [enumE_map]
    refine for_st (h := fun p : Int × Nat => EV.dat (.tuple [.int (1 + (p.2 : Nat)), .int p.1])) (fun i (t : Int) => t = wsum 1 (ns.take i)) (fun η t => η.set 1 (some (.dat (.int t)))) (fun μ _ => μ) 0 rfl rfl rfl (fun _ => hn) ?_ ?_
    · rintro i p t J hi rfl hJ
      have hp := zip_get hi
      obtain ⟨n, j⟩ := p
      obtain ⟨hp, rfl⟩ := hp
      have := get_lt hp
      ((try walk_at "dx6"); repeat (walk_at "one" <;> (try walk_at "dx6")))
      (have j := hJ _ (wsum_take hp).symm; simp only [List.range_succ, List.map_append, List.map_cons, List.map_nil, fg_cons, fg_nil, List.set_cons_succ, List.set_cons_zero] at j; exact j)
    · rintro t ht
      rw [List.length_zipIdx, List.take_length] at ht
      subst ht
      ((try walk_at "dx6"); repeat (walk_at "one" <;> (try walk_at "dx6")))
      exact h
local macro_rules | `(tactic| walk_at "dx7") => `(tactic| simp (disch := first | assumption | omega) only [List.length_cons, List.length_nil, Nat.zero_add, Nat.reduceAdd, ↓exitQ_dat, startD, List.map_cons, List.map_nil, Nat.reduceSub, List.replicate.eq_2, List.replicate, List.cons_append, List.nil_append, ↓x_tOrD, ↓x_tNotD, ↓x_tVal, ↓x_dCB, ↓x_aCons, ↓dVar_0, ↓old_dat, ↓x_dRaw, ↓x_aNil, ↓isi_tuple, ↓wB_b, ↓isTupD_tuple, Bool.not_true, Bool.false_eq_true, if_true, ↓x_dOp, ↓lnD_tup, ↓x_dC, ↓ne_dd, ↓noD_i, and_true, dep_int, nle_h, eqv_int, true_and, if_false, ↓x_iSeqD, ↓seqDK_t, ↓x_gNm, ↓nN_dat, ↓fg_cons, ↓fg_nil, List.set_cons_succ, List.set_cons_zero, ↓x_dCallF, ↓x_dStl, ↓dVar_1, ↓stl_dat, ↓aO_cons, ↓aO_nil, Bool.and_true, List.append_nil, cl_dat, ↓cl_none, ↓cl_nil, ↓e_is_number, ↓isNum_i, ↓tk_0, oAnd, ↓x_lc, ↓x_iZipD, ↓zipK_t, List.length_map, ↓x_oTuple, ↓x_gTp, ↓x_gCn, ↓x_gNl0, wipeD, dVar_3, dVar_2, ↓oI0_ii, ↓wD_dat, ↓sqK_new, ↓x_dUn, ↓inv_i, oMod, ↓x_iEnumD, ↓enumK_lk, ile_h, List.getElem?_cons_succ, List.getElem?_cons_zero, ↓dVar_2, ↓dVar_3, ↓mul_int, cmul_l, cl_none, augK_s, ↓iadd_ii, ↓cl_dat, ↓oI_ii, ilt_h, ↓divmod_ii, cdiv_h, ↓lsA_t, ↓exitQ_new, ↓old_loc, ↓stl_loc, ↓enumK_ck, ↓seqE_l])
local macro_rules | `(tactic| walk_at "dx8") => `(tactic| simp (disch := first | assumption | omega) only [List.length_cons, List.length_nil, Nat.zero_add, ↓exitQ_dat, startD, List.map_cons, List.map_nil, Nat.reduceAdd, Nat.reduceSub, List.replicate.eq_2, List.replicate, List.cons_append, List.nil_append, ↓x_dCell, ↓x_dCB, ↓x_aCons, ↓x_dOp, ↓dVar_0, ↓old_dat, ↓x_dC, ↓ix_tupD, at_nn, Int.reduceToNat, List.getElem?_cons_zero, Option.some.injEq, ↓x_aNil, List.set_cons_succ, List.set_cons_zero, exists_eq_left', ↓lsA_t, ↓cel_new, ↓nN_loc, true_and, ↓x_iSeqD, ↓x_dSl, ↓x_oSome, ↓intK_i, ↓x_oNo, ↓sl_tupD, ↓seqDK_t, ↓x_gNm, ↓nN_dat, List.length_append, ↓fg_cons, ↓fg_nil, ↓dVar_2, ↓x_dFrz, ↓dVar_3, ↓divmod_ii, cdiv_h, ↓wD_dat, ↓x_gTp, ↓x_gCn, ↓x_gNl0, List.getElem?_cons_succ, ↓x_dLst, ↓dVar_5, ↓dVar_4, ↓wDs_cons, ↓wDs_nil, nle_h, cl_none, augK_s, ↓c_iaddn, ↓get_a0, Nat.reduceLeDiff, cl_loc, ↓cl_nil, ↓set_a0, tk_a1, lcK_l, List.length_map, ↓tk_a1, ↓dVar_1, ↓old_loc, ↓x_dCall, ↓x_dStl, ↓stl_loc, ↓aO_cons, ↓aO_nil, Bool.and_true, List.append_nil, ↓e_summed, ↓c_addn, ↓exitQ_new, ↓tk_a0, lcR_l, oSub, oLt, ↓x_tOrD, ↓x_tNotD, ↓x_tVal, ↓x_dRaw, ↓isi_list, ↓wB_b, ↓isListD_list, Bool.not_true, Bool.false_eq_true, if_true, ↓x_lc, ↓seqDK_l, ↓x_oAll, if_false, wipeD, ↓oI0_ii, ↓stl_dat, dVar_2, ↓e_is_number, ↓tk_0, ↓lstK_new, ↓bools_k, ↓lnD_lst, decide_eq_true_eq, ↓x_dTup, ↓ix_lstD, ↓e_size_of, ↓mul_int, cmul_l, ↓add_int, ↓ne_dd, ↓noD_i, and_true, dep_int, eqv_int, ↓isListD_none, Bool.not_false, ↓isListD_bool, ↓isListD_int, ↓isListD_tuple, ↓isListD_str, ↓seqDK_s, ↓seqK_str, ↓isListD_dict, ↓seqDK_d, ↓c_isi_list, ↓seqDK_c, ↓isiB_l, ↓seqC_l, ↓c_lenD, ↓lnC_l, ↓c_len, ↓lcR_l, ↓c_ix])
section
variable {K : PySem.W.Frag} {mg : Str → Option Value} {D : Addr → Prop} {μ : Mu} {q : PQ}
theorem ki_NoBytes_NoBytes (T : Top K mg) : PySem.W.kitOne K (.ref T.c_NoBytes) (.ref T.c_NoBytes) = some true := kit_self
theorem ki_NoBytes_NoDeed (T : Top K mg) : PySem.W.kitOne K (.ref T.c_NoBytes) (.ref T.c_NoDeed) = some false := kit_ref T.ne_NoBytes_NoDeed T.hd_NoDeed T.xt_NoDeed T.sb_NoBytes_NoDeed
theorem ki_NoBytes_NoDrawing (T : Top K mg) : PySem.W.kitOne K (.ref T.c_NoBytes) (.ref T.c_NoDrawing) = some false := kit_ref T.ne_NoBytes_NoDrawing T.hd_NoDrawing T.xt_NoDrawing T.sb_NoBytes_NoDrawing
theorem ki_NoBytes_NoOrder (T : Top K mg) : PySem.W.kitOne K (.ref T.c_NoBytes) (.ref T.c_NoOrder) = some false := kit_ref T.ne_NoBytes_NoOrder T.hd_NoOrder T.xt_NoOrder T.sb_NoBytes_NoOrder
theorem ki_NoBytes_NoPart (T : Top K mg) : PySem.W.kitOne K (.ref T.c_NoBytes) (.ref T.c_NoPart) = some false := kit_ref T.ne_NoBytes_NoPart T.hd_NoPart T.xt_NoPart T.sb_NoBytes_NoPart
theorem ki_NoBytes_NoSize (T : Top K mg) : PySem.W.kitOne K (.ref T.c_NoBytes) (.ref T.c_NoSize) = some false := kit_ref T.ne_NoBytes_NoSize T.hd_NoSize T.xt_NoSize T.sb_NoBytes_NoSize
theorem ki_NoBytes_NoSpot (T : Top K mg) : PySem.W.kitOne K (.ref T.c_NoBytes) (.ref T.c_NoSpot) = some false := kit_ref T.ne_NoBytes_NoSpot T.hd_NoSpot T.xt_NoSpot T.sb_NoBytes_NoSpot
theorem ki_NoBytes_NoText (T : Top K mg) : PySem.W.kitOne K (.ref T.c_NoBytes) (.ref T.c_NoText) = some false := kit_ref T.ne_NoBytes_NoText T.hd_NoText T.xt_NoText T.sb_NoBytes_NoText
theorem ki_NoBytes_NoTie (T : Top K mg) : PySem.W.kitOne K (.ref T.c_NoBytes) (.ref T.c_NoTie) = some false := kit_ref T.ne_NoBytes_NoTie T.hd_NoTie T.xt_NoTie T.sb_NoBytes_NoTie
theorem ki_NoBytes_NoTurn (T : Top K mg) : PySem.W.kitOne K (.ref T.c_NoBytes) (.ref T.c_NoTurn) = some false := kit_ref T.ne_NoBytes_NoTurn T.hd_NoTurn T.xt_NoTurn T.sb_NoBytes_NoTurn
theorem ki_NoBytes_NoWay (T : Top K mg) : PySem.W.kitOne K (.ref T.c_NoBytes) (.ref T.c_NoWay) = some false := kit_ref T.ne_NoBytes_NoWay T.hd_NoWay T.xt_NoWay T.sb_NoBytes_NoWay
theorem ki_NoBytes_NoWeight (T : Top K mg) : PySem.W.kitOne K (.ref T.c_NoBytes) (.ref T.c_NoWeight) = some false := kit_ref T.ne_NoBytes_NoWeight T.hd_NoWeight T.xt_NoWeight T.sb_NoBytes_NoWeight
theorem ki_NoBytes_NoWord (T : Top K mg) : PySem.W.kitOne K (.ref T.c_NoBytes) (.ref T.c_NoWord) = some false := kit_ref T.ne_NoBytes_NoWord T.hd_NoWord T.xt_NoWord T.sb_NoBytes_NoWord
theorem ki_NoBytes_OffFloor (T : Top K mg) : PySem.W.kitOne K (.ref T.c_NoBytes) (.ref T.c_OffFloor) = some false := kit_ref T.ne_NoBytes_OffFloor T.hd_OffFloor T.xt_OffFloor T.sb_NoBytes_OffFloor
theorem ki_NoBytes_OnShut (T : Top K mg) : PySem.W.kitOne K (.ref T.c_NoBytes) (.ref T.c_OnShut) = some false := kit_ref T.ne_NoBytes_OnShut T.hd_OnShut T.xt_OnShut T.sb_NoBytes_OnShut
theorem ki_NoBytes_Overlap (T : Top K mg) : PySem.W.kitOne K (.ref T.c_NoBytes) (.ref T.c_Overlap) = some false := kit_ref T.ne_NoBytes_Overlap T.hd_Overlap T.xt_Overlap T.sb_NoBytes_Overlap
theorem ki_NoBytes_TooMany (T : Top K mg) : PySem.W.kitOne K (.ref T.c_NoBytes) (.ref T.c_TooMany) = some false := kit_ref T.ne_NoBytes_TooMany T.hd_TooMany T.xt_TooMany T.sb_NoBytes_TooMany
theorem ki_NoBytes_TooNear (T : Top K mg) : PySem.W.kitOne K (.ref T.c_NoBytes) (.ref T.c_TooNear) = some false := kit_ref T.ne_NoBytes_TooNear T.hd_TooNear T.xt_TooNear T.sb_NoBytes_TooNear
theorem ki_NoBytes_ValueError (T : Top K mg) : PySem.W.kitOne K (.ref T.c_NoBytes) (.type "ValueError") = some true := kit_typ (by decide +kernel) (by intro h; cases h) T.sb_NoBytes_ValueError
theorem em_NoBytes_BoardError (T : Top K mg) : PySem.W.exmOne K (.ref T.c_NoBytes) (.ref T.c_BoardError) = some true := PySem.W.exm_ref T.xb_BoardError T.hd_BoardError T.xt_BoardError T.sb_NoBytes_BoardError
theorem em_NoSize_NoSize (T : Top K mg) : PySem.W.exmOne K (.ref T.c_NoSize) (.ref T.c_NoSize) = some true := PySem.W.exm_ref T.xb_NoSize T.hd_NoSize T.xt_NoSize T.sb_NoSize_NoSize
theorem kd_NoBytes_NoBytes (T : Top K mg) {fs : Option (List (Str × PyData))} : oIsK K D [.exc ⟨T.c_NoBytes, fs⟩, .raw (.ref T.c_NoBytes)] μ q = q (.dat (.bool true)) μ := isK_mk T.xe_NoBytes rel_ref rfl (ki_NoBytes_NoBytes T)
theorem kd_NoBytes_NoDeed (T : Top K mg) {fs : Option (List (Str × PyData))} : oIsK K D [.exc ⟨T.c_NoBytes, fs⟩, .raw (.ref T.c_NoDeed)] μ q = q (.dat (.bool false)) μ := isK_mk T.xe_NoBytes rel_ref rfl (ki_NoBytes_NoDeed T)
theorem kd_NoBytes_NoDrawing (T : Top K mg) {fs : Option (List (Str × PyData))} : oIsK K D [.exc ⟨T.c_NoBytes, fs⟩, .raw (.ref T.c_NoDrawing)] μ q = q (.dat (.bool false)) μ := isK_mk T.xe_NoBytes rel_ref rfl (ki_NoBytes_NoDrawing T)
theorem kd_NoBytes_NoOrder (T : Top K mg) {fs : Option (List (Str × PyData))} : oIsK K D [.exc ⟨T.c_NoBytes, fs⟩, .raw (.ref T.c_NoOrder)] μ q = q (.dat (.bool false)) μ := isK_mk T.xe_NoBytes rel_ref rfl (ki_NoBytes_NoOrder T)
theorem kd_NoBytes_NoPart (T : Top K mg) {fs : Option (List (Str × PyData))} : oIsK K D [.exc ⟨T.c_NoBytes, fs⟩, .raw (.ref T.c_NoPart)] μ q = q (.dat (.bool false)) μ := isK_mk T.xe_NoBytes rel_ref rfl (ki_NoBytes_NoPart T)
theorem kd_NoBytes_NoSize (T : Top K mg) {fs : Option (List (Str × PyData))} : oIsK K D [.exc ⟨T.c_NoBytes, fs⟩, .raw (.ref T.c_NoSize)] μ q = q (.dat (.bool false)) μ := isK_mk T.xe_NoBytes rel_ref rfl (ki_NoBytes_NoSize T)
theorem kd_NoBytes_NoSpot (T : Top K mg) {fs : Option (List (Str × PyData))} : oIsK K D [.exc ⟨T.c_NoBytes, fs⟩, .raw (.ref T.c_NoSpot)] μ q = q (.dat (.bool false)) μ := isK_mk T.xe_NoBytes rel_ref rfl (ki_NoBytes_NoSpot T)
theorem kd_NoBytes_NoText (T : Top K mg) {fs : Option (List (Str × PyData))} : oIsK K D [.exc ⟨T.c_NoBytes, fs⟩, .raw (.ref T.c_NoText)] μ q = q (.dat (.bool false)) μ := isK_mk T.xe_NoBytes rel_ref rfl (ki_NoBytes_NoText T)
theorem kd_NoBytes_NoTie (T : Top K mg) {fs : Option (List (Str × PyData))} : oIsK K D [.exc ⟨T.c_NoBytes, fs⟩, .raw (.ref T.c_NoTie)] μ q = q (.dat (.bool false)) μ := isK_mk T.xe_NoBytes rel_ref rfl (ki_NoBytes_NoTie T)
theorem kd_NoBytes_NoTurn (T : Top K mg) {fs : Option (List (Str × PyData))} : oIsK K D [.exc ⟨T.c_NoBytes, fs⟩, .raw (.ref T.c_NoTurn)] μ q = q (.dat (.bool false)) μ := isK_mk T.xe_NoBytes rel_ref rfl (ki_NoBytes_NoTurn T)
theorem kd_NoBytes_NoWay (T : Top K mg) {fs : Option (List (Str × PyData))} : oIsK K D [.exc ⟨T.c_NoBytes, fs⟩, .raw (.ref T.c_NoWay)] μ q = q (.dat (.bool false)) μ := isK_mk T.xe_NoBytes rel_ref rfl (ki_NoBytes_NoWay T)
theorem kd_NoBytes_NoWeight (T : Top K mg) {fs : Option (List (Str × PyData))} : oIsK K D [.exc ⟨T.c_NoBytes, fs⟩, .raw (.ref T.c_NoWeight)] μ q = q (.dat (.bool false)) μ := isK_mk T.xe_NoBytes rel_ref rfl (ki_NoBytes_NoWeight T)
theorem kd_NoBytes_NoWord (T : Top K mg) {fs : Option (List (Str × PyData))} : oIsK K D [.exc ⟨T.c_NoBytes, fs⟩, .raw (.ref T.c_NoWord)] μ q = q (.dat (.bool false)) μ := isK_mk T.xe_NoBytes rel_ref rfl (ki_NoBytes_NoWord T)
theorem kd_NoBytes_OffFloor (T : Top K mg) {fs : Option (List (Str × PyData))} : oIsK K D [.exc ⟨T.c_NoBytes, fs⟩, .raw (.ref T.c_OffFloor)] μ q = q (.dat (.bool false)) μ := isK_mk T.xe_NoBytes rel_ref rfl (ki_NoBytes_OffFloor T)
theorem kd_NoBytes_OnShut (T : Top K mg) {fs : Option (List (Str × PyData))} : oIsK K D [.exc ⟨T.c_NoBytes, fs⟩, .raw (.ref T.c_OnShut)] μ q = q (.dat (.bool false)) μ := isK_mk T.xe_NoBytes rel_ref rfl (ki_NoBytes_OnShut T)
theorem kd_NoBytes_Overlap (T : Top K mg) {fs : Option (List (Str × PyData))} : oIsK K D [.exc ⟨T.c_NoBytes, fs⟩, .raw (.ref T.c_Overlap)] μ q = q (.dat (.bool false)) μ := isK_mk T.xe_NoBytes rel_ref rfl (ki_NoBytes_Overlap T)
theorem kd_NoBytes_TooMany (T : Top K mg) {fs : Option (List (Str × PyData))} : oIsK K D [.exc ⟨T.c_NoBytes, fs⟩, .raw (.ref T.c_TooMany)] μ q = q (.dat (.bool false)) μ := isK_mk T.xe_NoBytes rel_ref rfl (ki_NoBytes_TooMany T)
theorem kd_NoBytes_TooNear (T : Top K mg) {fs : Option (List (Str × PyData))} : oIsK K D [.exc ⟨T.c_NoBytes, fs⟩, .raw (.ref T.c_TooNear)] μ q = q (.dat (.bool false)) μ := isK_mk T.xe_NoBytes rel_ref rfl (ki_NoBytes_TooNear T)
theorem kd_NoBytes_ValueError (T : Top K mg) {fs : Option (List (Str × PyData))} : oIsK K D [.exc ⟨T.c_NoBytes, fs⟩, .raw (.ty "ValueError")] μ q = q (.dat (.bool true)) μ := isK_mk T.xe_NoBytes rel_ty rfl (ki_NoBytes_ValueError T)
end
theorem two_take {s : List Int} {j : Nat} {r : Int} (h : s[j]? = some r) : two (s.take (j + 1)) = two (s.take j) ++ [r % 256, r / 256] := by
  rw [List.take_add_one, h, two_app]
  rfl
theorem flat_take {ss : List (List Int)} {i : Nat} {s : List Int} (h : ss[i]? = some s) : (ss.take (i + 1)).flatten = (ss.take i).flatten ++ s := by
  rw [List.take_add_one, h]
  simp
def sp_bytes_of : SpD := fun es μ q x => ∃ (c : Cs), es = [.dat (csD c)] ∧ ((c.2.1.length ≤ 10 ∧ c.2.2.1.length ≤ 10 ∧ c.2.2.2.length ≤ 10) ∧ q (.new ((numsOf c).map .int)) μ)
theorem e_bytes_of {c : Cs} {μ : Mu} {q : PQ} {x : XQ} : sp_bytes_of [.dat (csD c)] μ q x = ((c.2.1.length ≤ 10 ∧ c.2.2.1.length ≤ 10 ∧ c.2.2.2.length ≤ 10) ∧ q (.new ((numsOf c).map .int)) μ) := by
  refine propext ⟨fun hyp0 => ?_, fun hyp0 => ⟨c, rfl, hyp0⟩⟩
  obtain ⟨c', eq0, hyp0⟩ := hyp0
  simp only [List.cons.injEq, Exn.mk.injEq, EV.at.injEq, eq_self, EV.dat.injEq, EV.loc.injEq, EV.new.injEq, EV.ro.injEq, EV.exc.injEq, EV.per.injEq, PyData.int.injEq, PyData.str.injEq, PyData.bool.injEq, PyData.list.injEq, PyData.tuple.injEq, and_true, true_and, and_assoc, map_int_inj, csD_inj] at eq0
  subst eq0
  exact hyp0
theorem ok_bytes_of (T : Top K mg) : DefAt P w K mg base "bytes_of" 2 ["cells"] [] [] sp_bytes_of := by
  refine def_ok sp_bytes_of T.F_bytes_of sc_bytes_of T.m_bytes_of T.b_bytes_of (fun cdv A outer s H E hr tk pw => (dss_cons (ds_set (i := 1) sc_bytes_of.nd rfl (by first | exact Or.inl rfl | exact Or.inr rfl) (de_cell (de_callTy (call_listA rfl) cs_listA (by rfl) T.n_list bt_list (da_cons (de_ix ix_seq os_ix (dv 0) de_int (fun _ _ => rfl)) da_nil))))
    (dss_cons (ds_forF [0, 2, 3, 4, 5] pw rfl (di_seqD (de_slice slA os_sl (dv 0) (do_some de_int) do_none)) (dg_name (i := 2) sc_bytes_of.nd rfl (by first | exact Or.inl rfl | exact Or.inr rfl)) (dss_one (ds_forF [0, 2, 3, 4, 5] pw rfl (di_seqD (dv 2)) (dg_name (i := 3) sc_bytes_of.nd rfl (by first | exact Or.inl rfl | exact Or.inr rfl)) (dss_cons (ds_asg (de_frz (de_callB call_divmod cs_divmod (by rfl) T.n_divmod bb_divmod (da_cons (dv 3) (da_cons (de_gint T.g_SIDE) da_nil)))) (dg_tup (n := 2) rfl (dgs_cons (dg_name (i := 4) sc_bytes_of.nd rfl (by first | exact Or.inl rfl | exact Or.inr rfl)) (dgs_cons (dg_name (i := 5) sc_bytes_of.nd rfl (by first | exact Or.inl rfl | exact Or.inr rfl)) dgs_nil))))
    (dss_one (ds_aug (i := 1) sc_bytes_of.nd rfl (by first | exact Or.inl rfl | exact Or.inr rfl) (de_lst (da_cons (de_frz (dv 5)) (da_cons (de_frz (dv 4)) da_nil))) ip_addA os_iadd))))))
    (dss_one (ds_ret (de_op opA_add os_add (dv 1) (de_call (ok_summed T) hr (by decide) (by rfl) tk (fun _ _ => .nil) (da_cons (de_stl (dv 1)) da_nil)))))))) ?_
  rintro es μ q x - ⟨c, rfl, hl, h⟩
  rw [csD_eq]
  ((try walk_at "dx8"); repeat (walk_at "one" <;> (try walk_at "dx8")))
  rw [show (cutD [PyData.tuple [PyData.int c.1.1, PyData.int c.1.2], PyData.tuple (List.map PyData.int c.2.1), PyData.tuple (List.map PyData.int c.2.2.1), PyData.tuple (List.map PyData.int c.2.2.2)] (some 1) none) = [c.2.1, c.2.2.1, c.2.2.2].map (fun s => PyData.tuple (s.map .int)) from rfl]
  refine for_stD (fun i (xs : List Int) => xs = [c.1.1, c.1.2] ++ two (([c.2.1, c.2.2.1, c.2.2.2].take i).flatten) ∧ xs.length ≤ 2 + 20 * i) (fun η _ => η) (fun _ xs => μ ++ [.lst (xs.map .int)]) [c.1.1, c.1.2] rfl rfl ⟨rfl, by simp⟩ (fun _ => trivial) ?_ ?_
  · rintro i s xs J hi ⟨hx, hxl⟩ hJ
    have hi3 : i < 3 := get_lt hi
    have hs : s.length ≤ 10 := by
      have hm := List.mem_of_getElem? hi
      simp only [List.mem_cons, List.not_mem_nil, or_false] at hm
      rcases hm with rfl | rfl | rfl
      · exact hl.1
      · exact hl.2.1
      · exact hl.2.2
    ((try walk_at "dx8"); repeat (walk_at "one" <;> (try walk_at "dx8")))
    refine for_stD (fun j (ys : List Int) => ys = xs ++ two (s.take j) ∧ ys.length = xs.length + 2 * j) (fun η _ => η) (fun _ ys => μ ++ [.lst (ys.map .int)]) xs rfl rfl ⟨by simp [two], rfl⟩ (fun _ => trivial) ?_ ?_
    · rintro j r ys J2 hj ⟨hy, hyl⟩ hJ2
      have hj' := get_lt hj
      ((try walk_at "dx8"); repeat (walk_at "one" <;> (try walk_at "dx8")))
      have hy2 : (ys ++ [r % 256, r / 256]) = xs ++ two (s.take (j + 1)) := by rw [two_take hj, hy, List.append_assoc]
      (have j := hJ2 (ys ++ [r % 256, r / 256]) ⟨hy2, by simp; omega⟩; simp only [List.range_succ, List.map_append, List.map_cons, List.map_nil, fg_cons, fg_nil, List.set_cons_succ, List.set_cons_zero] at j; exact j)
    · rintro ys ⟨hy, hyl⟩
      rw [List.take_length] at hy
      have hx2 : ys = [c.1.1, c.1.2] ++ two (([c.2.1, c.2.2.1, c.2.2.2].take (i + 1)).flatten) := by rw [flat_take hi, two_app, hy, hx, List.append_assoc]
      ((try walk_at "dx8"); repeat (walk_at "one" <;> (try walk_at "dx8")))
      (have j := hJ ys ⟨hx2, by omega⟩; simp only [List.range_succ, List.map_append, List.map_cons, List.map_nil, fg_cons, fg_nil, List.set_cons_succ, List.set_cons_zero] at j; exact j)
  · rintro xs ⟨hx, hxl⟩
    have hxl' : xs.length ≤ 62 := hxl
    have he : xs = encN c := by rw [hx]; simp [encN]
    ((try walk_at "dx8"); repeat (walk_at "one" <;> (try walk_at "dx8")))
    refine ⟨xs, .loc (by simp), by omega, by simp [sumL]; omega, ?_⟩
    rw [he, ← List.map_append]
    exact h
local macro_rules | `(tactic| walk_at "dx9") => `(tactic| simp (disch := first | assumption | omega) only [List.length_cons, List.length_nil, Nat.zero_add, ↓exitQ_dat, startD, List.map_cons, List.map_nil, Nat.reduceAdd, Nat.reduceSub, List.replicate.eq_2, List.replicate, List.cons_append, List.nil_append, ↓x_dCell, ↓x_dCB, ↓x_aCons, ↓x_dOp, ↓dVar_0, ↓old_dat, ↓x_dC, ↓ix_tupD, at_nn, Int.reduceToNat, List.getElem?_cons_zero, Option.some.injEq, ↓x_aNil, List.set_cons_succ, List.set_cons_zero, exists_eq_left', ↓lsA_t, ↓cel_new, ↓nN_loc, true_and, ↓x_iSeqD, ↓x_dSl, ↓x_oSome, ↓intK_i, ↓x_oNo, ↓sl_tupD, ↓seqDK_t, ↓x_gNm, ↓nN_dat, List.length_append, ↓fg_cons, ↓fg_nil, ↓dVar_2, ↓x_dFrz, ↓dVar_3, ↓divmod_ii, cdiv_h, ↓wD_dat, ↓x_gTp, ↓x_gCn, ↓x_gNl0, List.getElem?_cons_succ, ↓x_dLst, ↓dVar_5, ↓dVar_4, ↓wDs_cons, ↓wDs_nil, nle_h, cl_none, augK_s, ↓c_iaddn, ↓get_a0, Nat.reduceLeDiff, cl_loc, ↓cl_nil, ↓set_a0, tk_a1, lcK_l, List.length_map, ↓tk_a1, ↓dVar_1, ↓old_loc, ↓x_dCall, ↓x_dStl, ↓stl_loc, ↓aO_cons, ↓aO_nil, Bool.and_true, List.append_nil, ↓e_summed, ↓c_addn, ↓exitQ_new, ↓tk_a0, lcR_l, oSub, oLt, ↓x_tOrD, ↓x_tNotD, ↓x_tVal, ↓x_dRaw, ↓isi_list, ↓wB_b, ↓isListD_list, Bool.not_true, Bool.false_eq_true, if_true, ↓x_lc, ↓seqDK_l, ↓x_oAll, if_false, wipeD, ↓oI0_ii, ↓stl_dat, dVar_2, ↓e_is_number, ↓tk_0, ↓lstK_new, ↓bools_k, ↓lnD_lst, decide_eq_true_eq, ↓x_dTup, ↓ix_lstD, ↓e_size_of, ↓mul_int, cmul_l, ↓add_int, ↓ne_dd, ↓noD_i, and_true, dep_int, eqv_int, ↓isListD_none, Bool.not_false, ↓isListD_bool, ↓isListD_int, ↓isListD_tuple, ↓isListD_str, ↓seqDK_s, ↓seqK_str, ↓isListD_dict, ↓seqDK_d, ↓c_isi_list, ↓seqDK_c, ↓isiB_l, ↓seqC_l, ↓c_lenD, ↓lnC_l, ↓c_len, ↓lcR_l, ↓c_ix])
def gg (ns : List Int) (i : Nat) : Int := (ns[i]?).getD 0
def okN (ns : List Int) : Prop := (∀ n ∈ ns, 0 ≤ n ∧ n ≤ 255) ∧ 2 ≤ ns.length ∧ (3 ≤ gg ns 0 ∧ gg ns 0 ≤ 10) ∧ (3 ≤ gg ns 1 ∧ gg ns 1 ≤ 10) ∧ (ns.length : Int) = 4 + 6 * gg ns 1
theorem lst_inj {a b : List Int} (h : PyData.list (a.map .int) = PyData.list (b.map .int)) : a = b := by
  have h' := PyData.list.inj h
  rwa [map_int_inj] at h'
theorem bools_map' (xs : List PyData) : (xs.map fun d => PyData.bool (isNum d 0 255)) = (xs.map fun d => isNum d 0 255).map .bool := by
  rw [List.map_map]
  rfl
theorem nums_of : ∀ {xs : List PyData}, (∀ d ∈ xs, isNum d 0 255 = true) → ∃ ns : List Int, xs = ns.map .int ∧ ∀ n ∈ ns, 0 ≤ n ∧ n ≤ 255
  | [], _ => ⟨[], rfl, by simp⟩
  | d :: xs, h => by
    obtain ⟨ns, rfl, hr⟩ := nums_of (xs := xs) fun e he => h e (by simp [he])
    have hd := h d (by simp)
    cases d with
    | int i =>
      rw [isNum_i] at hd
      refine ⟨i :: ns, rfl, fun n hn => ?_⟩
      rcases List.mem_cons.mp hn with rfl | hn
      · simpa using hd
      · exact hr n hn
    | _ => simp [isNum] at hd
def sp_need_numbers (T : Top K mg) : SpD := fun es μ q x => ∃ (e : EV), es = [e] ∧ (∃ d, Thing μ e d ∧ (∀ xs, d = .list xs → xs.length ≤ 100) ∧ (∀ ns : List Int, d = .list (ns.map .int) → okN ns → q (.dat (.tuple [.int (gg ns 0), .int (gg ns 1)])) μ) ∧ ((¬ ∃ ns : List Int, d = .list (ns.map .int) ∧ okN ns) → x ⟨T.c_NoBytes, none⟩ μ))
theorem e_need_numbers (T : Top K mg) {e : EV} {μ : Mu} {q : PQ} {x : XQ} : sp_need_numbers T [e] μ q x = (∃ d, Thing μ e d ∧ (∀ xs, d = .list xs → xs.length ≤ 100) ∧ (∀ ns : List Int, d = .list (ns.map .int) → okN ns → q (.dat (.tuple [.int (gg ns 0), .int (gg ns 1)])) μ) ∧ ((¬ ∃ ns : List Int, d = .list (ns.map .int) ∧ okN ns) → x ⟨T.c_NoBytes, none⟩ μ)) := by
  refine propext ⟨fun hyp0 => ?_, fun hyp0 => ⟨e, rfl, hyp0⟩⟩
  obtain ⟨e', eq0, hyp0⟩ := hyp0
  simp only [List.cons.injEq, Exn.mk.injEq, EV.at.injEq, eq_self, EV.dat.injEq, EV.loc.injEq, EV.new.injEq, EV.ro.injEq, EV.exc.injEq, EV.per.injEq, PyData.int.injEq, PyData.str.injEq, PyData.bool.injEq, PyData.list.injEq, PyData.tuple.injEq, and_true, true_and, and_assoc, map_int_inj, ] at eq0
  subst eq0
  exact hyp0
theorem ok_need_numbers (T : Top K mg) : DefAt P w K mg base "need_numbers" 3 ["numbers"] [] [] (sp_need_numbers T) := by
  refine def_ok (sp_need_numbers T) T.F_need_numbers sc_need_numbers T.m_need_numbers T.b_need_numbers (fun cdv A outer s H E hr tk pw => (dss_cons (ds_if (dw_or (dt_not (dt_val (de_callB call_isiY cs_isi (by rfl) T.n_isinstance bb_isinstance (da_cons (dv 0) (da_cons (de_ty T.n_list bt_list) da_nil))))) (dw_or1 (dt_not (dt_val (de_callB (cr_all rfl) cs_all (by rfl) T.n_all bb_all (da_cons (de_lc (own := [("number", 2)]) rfl sc_need_numbers.nd (di_seqD (dv 0)) (blkOk_by (N := ["numbers", "size", "number"]) (sc := (defScope s_need_numbers)) (by decide +kernel)) (by decide) (fun _ _ _ _ _ => (dg_name (i := 2) sc_need_numbers.nd rfl (by first | exact Or.inl rfl | exact Or.inr rfl))) (fun _ _ _ _ _ => dts_nil) (fun _ _ _ _ _ => (de_call (ok_is_number T) hr (by decide) (by rfl) tk0 (fun _ _ => .nil) (da_cons (de_stl (dv 2)) (da_cons de_int (da_cons (de_stl (de_op op_sub os_sub (de_gint T.g_SIDE) de_int)) da_nil)))))) da_nil)))))).dt (dss_one (ds_raise rfl tk PySem.F.excBase_ValueError T.xx_NoBytes T.gx_NoBytes T.xk_NoBytes (raises_own T.xb_NoBytes T.xt_NoBytes) (by rfl))) dss_nil)
    (dss_cons (ds_if (dt_cmp op_lt os_lt (de_callB call_lenA cs_lenD (by rfl) T.n_len bb_len (da_cons (dv 0) da_nil)) de_int (nomark _)) (dss_one (ds_raise rfl tk PySem.F.excBase_ValueError T.xx_NoBytes T.gx_NoBytes T.xk_NoBytes (raises_own T.xb_NoBytes T.xt_NoBytes) (by rfl))) dss_nil)
    (dss_cons (ds_tryX (K := K) rfl rfl rfl ⟨by rfl, by decide, .inl T.gx_NoSize⟩ (L2H.passesAt_of rfl) tk (fun W pn xe tk po => (dsx_set (i := 1) sc_need_numbers.nd rfl (by first | exact Or.inl rfl | exact Or.inr rfl) (de_stl (de_callN (ok_size_of T) hr (by decide) (by rfl) tk (fun _ _ => .nil) (da_cons (de_stl (de_tup (da_cons (de_frz (de_ix ix_seq os_ix (dv 0) de_int (fun _ _ => rfl))) (da_cons (de_frz (de_ix ix_seq os_ix (dv 0) de_int (fun _ _ => rfl))) da_nil)))) da_nil))))) (fun a oe pn tk hot => (dss_one (ds_raiseH hot tk PySem.F.excBase_ValueError T.xx_NoBytes T.gx_NoBytes T.xk_NoBytes (raises_own T.xb_NoBytes T.xt_NoBytes) (by rfl)))))
    (dss_cons (ds_if (dt_cmp (opA_ne hr.units) os_ne (de_callB call_lenA cs_lenD (by rfl) T.n_len bb_len (da_cons (dv 0) da_nil)) (de_op opA_add os_add de_int (de_op opA_mul os_mul de_int (de_ix ix_seq os_ix (dv 1) de_int (fun _ _ => rfl)))) (nomark _)) (dss_one (ds_raise rfl tk PySem.F.excBase_ValueError T.xx_NoBytes T.gx_NoBytes T.xk_NoBytes (raises_own T.xb_NoBytes T.xt_NoBytes) (by rfl))) dss_nil)
    (dss_one (ds_ret (dv 1)))))))) ?_
  rintro es μ q x - ⟨e, rfl, d, ht, hz, k, no⟩
  cases ht with
  | dat =>
    cases d with
    | list xs =>
      ((try walk_at "dx9"); repeat (walk_at "one" <;> (try walk_at "dx9")))
      refine lc_map (h := EV.dat) (fun d => PyData.bool (isNum d 0 255)) (by have := hz _ rfl; omega) trivial (fun d K hd hK => ?_) ?_
      · (try walk_at "dx9")
        exact hK
      (try walk_at "dx9")
      rw [bools_map' xs]
      ((try walk_at "dx9"); repeat (walk_at "one" <;> (try walk_at "dx9")))
      by_cases hall : ∀ d ∈ xs, isNum d 0 255 = true
      · obtain ⟨ns, rfl, hr⟩ := nums_of hall
        rw [if_neg (by simpa using hall)]
        have hz' : ns.length ≤ 100 := by simpa using hz _ rfl
        ((try walk_at "dx9"); repeat (walk_at "one" <;> (try walk_at "dx9")))
        split
        · rename_i g
          ((try walk_at "dx9"); repeat (walk_at "one" <;> (try walk_at "dx9")))
          refine no fun ⟨ms, e, h⟩ => ?_
          obtain rfl : ns = ms := lst_inj e
          have := h.2.1
          omega
        · rename_i g
          obtain ⟨a, b, r, rfl⟩ : ∃ a b r, ns = a :: b :: r := by
            match ns, g with
            | a :: b :: r, _ => exact ⟨a, b, r, rfl⟩
            | [a], g => simp at g
            | [], g => simp at g
          ((try walk_at "dx9"); repeat (walk_at "one" <;> (try walk_at "dx9")))
          split
          · rename_i gs
            have gs' : 3 ≤ a ∧ a ≤ 10 ∧ 3 ≤ b ∧ b ≤ 10 := by simpa [sz72] using gs
            ((try walk_at "dx9"); repeat (walk_at "one" <;> (try walk_at "dx9")))
            split
            · rename_i gl
              ((try walk_at "dx9"); repeat (walk_at "one" <;> (try walk_at "dx9")))
              refine no fun ⟨ms, e, h⟩ => ?_
              obtain rfl : a :: b :: r = ms := lst_inj e
              have h5 : ((a :: b :: r).length : Int) = 4 + 6 * b := h.2.2.2.2
              simp at gl h5
              omega
            · rename_i gl
              have h5 : ((a :: b :: r).length : Int) = 4 + 6 * b := by
                simp at gl ⊢
                omega
              ((try walk_at "dx9"); repeat (walk_at "one" <;> (try walk_at "dx9")))
              exact k _ rfl ⟨hr, by simp, ⟨gs'.1, gs'.2.1⟩, ⟨gs'.2.2.1, gs'.2.2.2⟩, h5⟩
          · rename_i gs
            refine ⟨true, em_NoSize_NoSize T, fun _ => ?_, fun z => by cases z⟩
            ((try walk_at "dx9"); repeat (walk_at "one" <;> (try walk_at "dx9")))
            refine no fun ⟨ms, e, h⟩ => gs ?_
            obtain rfl : a :: b :: r = ms := lst_inj e
            have h3 : 3 ≤ a ∧ a ≤ 10 := h.2.2.1
            have h4 : 3 ≤ b ∧ b ≤ 10 := h.2.2.2.1
            simp [sz72]
            omega
      · rw [if_pos (by simpa using hall)]
        ((try walk_at "dx9"); repeat (walk_at "one" <;> (try walk_at "dx9")))
        refine no fun ⟨ns, e, h⟩ => hall fun d hd => ?_
        cases e
        obtain ⟨n, hn, rfl⟩ := List.mem_map.mp hd
        have := h.1 n hn
        rw [isNum_i]
        simpa using this
    | none => ((try walk_at "dx9"); repeat (walk_at "one" <;> (try walk_at "dx9"))); exact no fun ⟨_, e, _⟩ => by cases e
    | bool b => ((try walk_at "dx9"); repeat (walk_at "one" <;> (try walk_at "dx9"))); exact no fun ⟨_, e, _⟩ => by cases e
    | int i => ((try walk_at "dx9"); repeat (walk_at "one" <;> (try walk_at "dx9"))); exact no fun ⟨_, e, _⟩ => by cases e
    | tuple xs => ((try walk_at "dx9"); repeat (walk_at "one" <;> (try walk_at "dx9"))); exact no fun ⟨_, e, _⟩ => by cases e
    | str z => ((try walk_at "dx9"); repeat (walk_at "one" <;> (try walk_at "dx9"))); exact no fun ⟨_, e, _⟩ => by cases e
    | dict kv => ((try walk_at "dx9"); repeat (walk_at "one" <;> (try walk_at "dx9"))); exact no fun ⟨_, e, _⟩ => by cases e
  | @loc m xs hn =>
      ((try walk_at "dx9"); repeat (walk_at "one" <;> (try walk_at "dx9")))
      rw [hn]
      ((try walk_at "dx9"); repeat (walk_at "one" <;> (try walk_at "dx9")))
      rw [hn]
      ((try walk_at "dx9"); repeat (walk_at "one" <;> (try walk_at "dx9")))
      refine lc_map (h := EV.dat) (fun d => PyData.bool (isNum d 0 255)) (by have := hz _ rfl; omega) (Or.inl hn) (fun d K hd hK => ?_) ?_
      · (try walk_at "dx9")
        exact hK
      (try walk_at "dx9")
      rw [bools_map' xs]
      ((try walk_at "dx9"); repeat (walk_at "one" <;> (try walk_at "dx9")))
      by_cases hall : ∀ d ∈ xs, isNum d 0 255 = true
      · obtain ⟨ns, rfl, hr⟩ := nums_of hall
        rw [if_neg (by simpa using hall)]
        have hz' : ns.length ≤ 100 := by simpa using hz _ rfl
        ((try walk_at "dx9"); repeat (walk_at "one" <;> (try walk_at "dx9")))
        (repeat (rw [hn]; ((try walk_at "dx9"); repeat (walk_at "one" <;> (try walk_at "dx9")))))
        split
        · rename_i g
          ((try walk_at "dx9"); repeat (walk_at "one" <;> (try walk_at "dx9")))
          refine no fun ⟨ms, e, h⟩ => ?_
          obtain rfl : ns = ms := lst_inj e
          have := h.2.1
          omega
        · rename_i g
          obtain ⟨a, b, r, rfl⟩ : ∃ a b r, ns = a :: b :: r := by
            match ns, g with
            | a :: b :: r, _ => exact ⟨a, b, r, rfl⟩
            | [a], g => simp at g
            | [], g => simp at g
          ((try walk_at "dx9"); repeat (walk_at "one" <;> (try walk_at "dx9")))
          (repeat (rw [hn]; ((try walk_at "dx9"); repeat (walk_at "one" <;> (try walk_at "dx9")))))
          split
          · rename_i gs
            have gs' : 3 ≤ a ∧ a ≤ 10 ∧ 3 ≤ b ∧ b ≤ 10 := by simpa [sz72] using gs
            ((try walk_at "dx9"); repeat (walk_at "one" <;> (try walk_at "dx9")))
            (repeat (rw [hn]; ((try walk_at "dx9"); repeat (walk_at "one" <;> (try walk_at "dx9")))))
            split
            · rename_i gl
              ((try walk_at "dx9"); repeat (walk_at "one" <;> (try walk_at "dx9")))
              refine no fun ⟨ms, e, h⟩ => ?_
              obtain rfl : a :: b :: r = ms := lst_inj e
              have h5 : ((a :: b :: r).length : Int) = 4 + 6 * b := h.2.2.2.2
              simp at gl h5
              omega
            · rename_i gl
              have h5 : ((a :: b :: r).length : Int) = 4 + 6 * b := by
                simp at gl ⊢
                omega
              ((try walk_at "dx9"); repeat (walk_at "one" <;> (try walk_at "dx9")))
              exact k _ rfl ⟨hr, by simp, ⟨gs'.1, gs'.2.1⟩, ⟨gs'.2.2.1, gs'.2.2.2⟩, h5⟩
          · rename_i gs
            refine ⟨true, em_NoSize_NoSize T, fun _ => ?_, fun z => by cases z⟩
            ((try walk_at "dx9"); repeat (walk_at "one" <;> (try walk_at "dx9")))
            refine no fun ⟨ms, e, h⟩ => gs ?_
            obtain rfl : a :: b :: r = ms := lst_inj e
            have h3 : 3 ≤ a ∧ a ≤ 10 := h.2.2.1
            have h4 : 3 ≤ b ∧ b ≤ 10 := h.2.2.2.1
            simp [sz72]
            omega
      · rw [if_pos (by simpa using hall)]
        ((try walk_at "dx9"); repeat (walk_at "one" <;> (try walk_at "dx9")))
        refine no fun ⟨ns, e, h⟩ => hall fun d hd => ?_
        cases e
        obtain ⟨n, hn, rfl⟩ := List.mem_map.mp hd
        have := h.1 n hn
        rw [isNum_i]
        simpa using this
local macro_rules | `(tactic| walk_at "dx10") => `(tactic| simp (disch := first | assumption | omega) only [List.length_cons, List.length_nil, Nat.zero_add, ↓exitQ_dat, startD, List.map_cons, List.map_nil, Nat.reduceAdd, Nat.reduceSub, List.replicate.eq_2, List.replicate, List.cons_append, List.nil_append, ↓x_dCell, ↓x_dCB, ↓x_aCons, ↓x_dOp, ↓dVar_0, ↓old_dat, ↓x_dC, ↓ix_tupD, at_nn, Int.reduceToNat, List.getElem?_cons_zero, Option.some.injEq, ↓x_aNil, List.set_cons_succ, List.set_cons_zero, exists_eq_left', ↓lsA_t, ↓cel_new, ↓nN_loc, true_and, ↓x_iSeqD, ↓x_dSl, ↓x_oSome, ↓intK_i, ↓x_oNo, ↓sl_tupD, ↓seqDK_t, ↓x_gNm, ↓nN_dat, List.length_append, ↓fg_cons, ↓fg_nil, ↓dVar_2, ↓x_dFrz, ↓dVar_3, ↓divmod_ii, cdiv_h, ↓wD_dat, ↓x_gTp, ↓x_gCn, ↓x_gNl0, List.getElem?_cons_succ, ↓x_dLst, ↓dVar_5, ↓dVar_4, ↓wDs_cons, ↓wDs_nil, nle_h, cl_none, augK_s, ↓c_iaddn, ↓get_a0, Nat.reduceLeDiff, cl_loc, ↓cl_nil, ↓set_a0, tk_a1, lcK_l, List.length_map, ↓tk_a1, ↓dVar_1, ↓old_loc, ↓x_dCall, ↓x_dStl, ↓stl_loc, ↓aO_cons, ↓aO_nil, Bool.and_true, List.append_nil, ↓e_summed, ↓c_addn, ↓exitQ_new, ↓tk_a0, lcR_l, oSub, oLt, ↓x_tOrD, ↓x_tNotD, ↓x_tVal, ↓x_dRaw, ↓isi_list, ↓wB_b, ↓isListD_list, Bool.not_true, Bool.false_eq_true, if_true, ↓x_lc, ↓seqDK_l, ↓x_oAll, if_false, wipeD, ↓oI0_ii, ↓stl_dat, dVar_2, ↓e_is_number, ↓tk_0, ↓lstK_new, ↓bools_k, ↓lnD_lst, decide_eq_true_eq, ↓x_dTup, ↓ix_lstD, ↓e_size_of, ↓mul_int, cmul_l, ↓add_int, ↓ne_dd, ↓noD_i, and_true, dep_int, eqv_int, ↓isListD_none, Bool.not_false, ↓isListD_bool, ↓isListD_int, ↓isListD_tuple, ↓isListD_str, ↓seqDK_s, ↓seqK_str, ↓isListD_dict, ↓seqDK_d, ↓c_isi_list, ↓seqDK_c, ↓isiB_l, ↓seqC_l, ↓c_lenD, ↓lnC_l, ↓c_len, ↓lcR_l, ↓c_ix])
local macro_rules | `(tactic| walk_at "dx11") => `(tactic| simp (disch := first | assumption | omega) only [List.length_cons, List.length_nil, Nat.zero_add, oSub, oGt, oShr, Nat.reduceAdd, List.map_cons, List.map_nil, ↓exitQ_dat, startD, Nat.reduceSub, List.replicate.eq_2, List.replicate, List.cons_append, List.nil_append, ↓x_dFrz, ↓x_dCall, ↓x_aCons, ↓x_dStl, ↓dVar_0, ↓old_dat, ↓stl_dat, ↓x_aNil, ↓aO_cons, ↓nN_dat, ↓aO_nil, Bool.and_true, List.append_nil, ↓e_need_numbers, ↓wD_dat, ↓x_gTp, ↓x_gCn, ↓x_gNm, ↓x_gNl0, List.set_cons_succ, List.set_cons_zero, true_and, ↓tk_0, ↓x_tVal, ↓x_dOp, ↓x_dSl, ↓x_oNo, ↓x_oSome, ↓x_dUn, ↓x_dC, ↓neg_i, ↓intK_i, ↓sl_lstD, ↓stl_new, ↓e_summed, ↓ne_nn, ↓noD_l, ↓noDs_i, dep_lst, ↓wB_b, eqv_lst, ↓x_dCell, ↓x_dLst, ↓wDs_nil, nle_h, ↓cel_new, ↓nN_loc, ↓x_iRange3, ↓x_dCB, ↓lnD_lst, ↓oI0_ii, ↓rgK3_i, ile_h, List.length_map, and_true, List.length_append, ↓fg_cons, ↓fg_nil, ↓x_dBM, ↓dVar_3, ↓old_loc, ↓c_isL, ↓get_a0, lcR_l, ↓dVar_4, ↓ix_lstD, at_nn, ↓add_int, ↓c_app, ↓mul_int, cmul_l, ↓set_a0, lcK_l, ↓c_ix, ↓dVar_1, cl_dat, cl_loc, ↓cl_none, ↓cl_nil, ↓oI_ii, decide_eq_true_eq, ↓tk_a1, ↓tk_a0, ↓dVar_2, ↓c_sl, ↓x_oTuple, ↓sqK_new, ↓parK3_e, ↓x_lc, ↓x_iSeqD, ↓dVar_7, ↓dVar_5, ↓dVar_6, Bool.true_and, ↓x_oAll, ↓e_common, ↓e_without, ↓seqDK_t, wipeD, dVar_8, ↓lstK_new, ↓bools_k, ↓x_dTup, ↓wDs_cons, ↓stl_loc, ↓lcR_l, ↓c_lenD, ↓lnC_l, ↓c_len, ↓cl_dat])
def rowK (ns : List Int) (k : Nat) : Int := gg ns (2 + 2 * k) + 256 * gg ns (3 + 2 * k)
def rows72 (ns : List Int) : List Int := (List.range ((ns.length - 4) / 2)).map (rowK ns)
def hi72 (ns : List Int) : Nat := (gg ns 1).toNat
def fr72 (ns : List Int) : List Int := (rows72 ns).take (hi72 ns)
def ba72 (ns : List Int) : List Int := ((rows72 ns).drop (hi72 ns)).take (hi72 ns)
def ho72 (ns : List Int) : List Int := (rows72 ns).drop (2 * hi72 ns)
def csOf (ns : List Int) : Cs := ((gg ns 0, gg ns 1), fr72 ns, ba72 ns, ho72 ns)
structure Good (ns : List Int) : Prop where
  ok : okN ns
  sum : sumL (ns.take (ns.length - 2)) = ns.drop (ns.length - 2)
  bits : ∀ r ∈ rows72 ns, r < 2 ^ (gg ns 0).toNat
  hole : ∀ r ∈ notI (ho72 ns) (andI (fr72 ns) (ba72 ns)), r = 0
inductive Tells (d : PyData) : Option Cs → Prop
  | no : (¬ ∃ ns : List Int, d = .list (ns.map .int) ∧ Good ns) → Tells d none
  | yes {ns : List Int} : d = .list (ns.map .int) → Good ns → Tells d (some (csOf ns))
theorem Tells.uniq {d : PyData} {a b : Option Cs} (h : Tells d a) (k : Tells d b) : a = b := by
  cases h with
  | no h => cases k with
    | no _ => rfl
    | yes e g => exact absurd ⟨_, e, g⟩ h
  | yes e g => cases k with
    | no k => exact absurd ⟨_, e, g⟩ k
    | yes e2 g2 => rw [lst_inj (e.symm.trans e2)]
theorem okN.len {ns : List Int} (h : okN ns) : ns.length = 4 + 6 * hi72 ns ∧ 3 ≤ hi72 ns ∧ hi72 ns ≤ 10 := by
  obtain ⟨_, _, _, h3, h4⟩ := h
  unfold hi72
  omega
theorem rows_len {ns : List Int} (h : okN ns) : (rows72 ns).length = 3 * hi72 ns := by
  have := h.len
  simp only [rows72, List.length_map, List.length_range]
  omega
theorem cut_m2 {ns : List Int} (h : 2 ≤ ns.length) : cutD (ns.map PyData.int) none (some (-2)) = (ns.take (ns.length - 2)).map .int := by
  unfold cutD
  simp only [HT.sIx, List.length_map]
  rw [List.map_take]
  simp
  omega
theorem cut_l2 {ns : List Int} (h : 2 ≤ ns.length) : cutD (ns.map PyData.int) (some (-2)) none = (ns.drop (ns.length - 2)).map .int := by
  unfold cutD
  simp only [HT.sIx, List.length_map]
  rw [List.map_drop]
  simp
  rw [List.take_of_length_le (by simp), show (-2 + (ns.length : Int)).toNat = ns.length - 2 by omega]
theorem cut_hi {ds : List PyData} {j : Int} (h : 0 ≤ j) : cutD ds none (some j) = ds.take j.toNat := by
  unfold cutD
  simp only [HT.sIx, if_neg (show ¬ j < 0 by omega), List.drop_zero, Nat.sub_zero]
  rw [List.take_eq_take_iff]
  omega
theorem cut_lo {ds : List PyData} {j : Int} (h : 0 ≤ j) : cutD ds (some j) none = ds.drop j.toNat := by
  unfold cutD
  simp only [HT.sIx, if_neg (show ¬ j < 0 by omega)]
  by_cases hj : j.toNat ≤ ds.length
  · rw [Nat.min_eq_left hj, List.take_of_length_le (by simp)]
  · rw [Nat.min_eq_right (by omega), List.drop_eq_nil_of_le (show ds.length ≤ j.toNat by omega)]
    simp
theorem cut_lh {ds : List PyData} {i j : Int} (h : 0 ≤ i) (h2 : i ≤ j) (h3 : j.toNat ≤ ds.length) : cutD ds (some i) (some j) = (ds.drop i.toNat).take (j.toNat - i.toNat) := by
  unfold cutD
  simp only [HT.sIx, if_neg (show ¬ i < 0 by omega), if_neg (show ¬ j < 0 by omega)]
  rw [Nat.min_eq_left h3, Nat.min_eq_left (by omega)]
theorem cutm_hi {rs : List Int} {H : Nat} : cutD (rs.map PyData.int) none (some (H : Int)) = (rs.take H).map .int := by
  rw [cut_hi (by omega), Int.toNat_natCast, List.map_take]
theorem cutm_lh {rs : List Int} {H : Nat} (h : rs.length = 3 * H) : cutD (rs.map PyData.int) (some (H : Int)) (some (2 * (H : Int))) = ((rs.drop H).take H).map .int := by
  rw [cut_lh (by omega) (by omega) (by rw [List.length_map]; omega), Int.toNat_natCast, show (2 * (H : Int)).toNat - H = H by omega, List.map_take, List.map_drop]
theorem cutm_lo {rs : List Int} {H : Nat} : cutD (rs.map PyData.int) (some (2 * (H : Int))) none = (rs.drop (2 * H)).map .int := by
  rw [cut_lo (by omega), show (2 * (H : Int)).toNat = 2 * H by omega, List.map_drop]
theorem bools_f (vs : List Int) : (vs.map fun r => PyData.bool (decide (0 < r))) = (vs.map fun r => decide (0 < r)).map .bool := by
  rw [List.map_map]
  rfl
theorem pos_ex : ∀ {vs : List Int}, (∀ r ∈ vs, 0 ≤ r) → ¬ (∀ r ∈ vs, r = 0) → ∃ r, r ∈ vs ∧ 0 < r := fun {vs} nn h => by
  rcases Classical.em (∃ r, r ∈ vs ∧ 0 < r) with c | c
  · exact c
  · refine absurd (fun r hr => ?_) h
    have h1 := nn r hr
    have h2 : ¬ 0 < r := fun z => c ⟨r, hr, z⟩
    omega
theorem cnt72 {n m : Nat} (h : n = 4 + 6 * m) : cntS 2 ((n : Int) - 2) 2 = 3 * m := by
  unfold cntS
  split <;> omega
theorem gg_at {ns : List Int} {i : Nat} {j : Int} (h : i < ns.length) (e : j = (i : Int)) : (ns.map PyData.int)[j.toNat]? = some (.int (gg ns i)) := by
  subst e
  rw [Int.toNat_natCast, List.getElem?_map]
  unfold gg
  rw [List.getElem?_eq_getElem h]
  rfl
theorem gg_mem {ns : List Int} {i : Nat} (h : i < ns.length) : gg ns i ∈ ns := by
  unfold gg
  rw [List.getElem?_eq_getElem h]
  exact List.getElem_mem h
theorem okN.row {ns : List Int} (h : okN ns) {k : Nat} (hk : k < 3 * hi72 ns) : 0 ≤ rowK ns k := by
  have := h.len
  have h1 := h.1 _ (gg_mem (i := 2 + 2 * k) (by omega))
  have h2 := h.1 _ (gg_mem (i := 3 + 2 * k) (by omega))
  unfold rowK
  omega
theorem rows_eq {ns : List Int} (h : okN ns) : rows72 ns = (List.range (3 * hi72 ns)).map (rowK ns) := by
  have := h.len
  unfold rows72
  rw [show (ns.length - 4) / 2 = 3 * hi72 ns by omega]
theorem rows_at {ns : List Int} (h : okN ns) {k : Nat} (hk : k < 3 * hi72 ns) : (rows72 ns).take (k + 1) = (rows72 ns).take k ++ [rowK ns k] := by
  rw [List.take_add_one, rows_eq h, List.getElem?_map, List.getElem?_range hk]
  rfl
theorem rows_nn {ns : List Int} (h : okN ns) : ∀ r ∈ rows72 ns, 0 ≤ r := fun r hr => by
  rw [rows_eq h] at hr
  obtain ⟨k, hk, rfl⟩ := List.mem_map.mp hr
  exact h.row (List.mem_range.mp hk)
theorem at_last {a : List PyData} {x : PyData} : atI (a ++ [x]) (-1) = some x := atI_ix (j := a.length) (by unfold ixN; rw [if_neg (by decide), List.length_append]; simp; omega) (by simp)
theorem band_nn {a b : Int} (h : 0 ≤ a) : 0 ≤ Builtin.bitAnd a b := by
  by_cases hb : 0 ≤ b
  · rw [PyProof.Rows.bitAnd_pp h hb]
    exact Int.natCast_nonneg _
  · rw [PyProof.Rows.bitAnd_pn h hb]
    have := @Nat.and_le_left a.toNat (Builtin.bitNot b).toNat
    omega
theorem notI_nn {a b : List Int} (h : ∀ r ∈ a, 0 ≤ r) : ∀ r ∈ notI a b, 0 ≤ r := fun r hr => by
  obtain ⟨p, hp, rfl⟩ := List.mem_map.mp hr
  exact band_nn (h _ (List.of_mem_zip hp).1)
theorem shr_pos {r : Int} {w : Nat} (h : 0 ≤ r) : 0 < r / 2 ^ w ↔ (2 : Int) ^ w ≤ r := by
  have hp : (0 : Int) < 2 ^ w := Int.pow_pos (by decide)
  rw [Int.lt_iff_add_one_le, Int.le_ediv_iff_mul_le hp]
  omega
def sp_cells_from (T : Top K mg) : SpD := fun es μ q x => ∃ (e : EV), es = [e] ∧ (∃ d, Thing μ e d ∧ (∀ xs, d = .list xs → xs.length ≤ 100) ∧ (∀ c, Tells d (some c) → q (.dat (csD c)) μ) ∧ (Tells d none → x ⟨T.c_NoBytes, none⟩ μ))
theorem e_cells_from (T : Top K mg) {e : EV} {μ : Mu} {q : PQ} {x : XQ} : sp_cells_from T [e] μ q x = (∃ d, Thing μ e d ∧ (∀ xs, d = .list xs → xs.length ≤ 100) ∧ (∀ c, Tells d (some c) → q (.dat (csD c)) μ) ∧ (Tells d none → x ⟨T.c_NoBytes, none⟩ μ)) := by
  refine propext ⟨fun hyp0 => ?_, fun hyp0 => ⟨e, rfl, hyp0⟩⟩
  obtain ⟨e', eq0, hyp0⟩ := hyp0
  simp only [List.cons.injEq, Exn.mk.injEq, EV.at.injEq, eq_self, EV.dat.injEq, EV.loc.injEq, EV.new.injEq, EV.ro.injEq, EV.exc.injEq, EV.per.injEq, PyData.int.injEq, PyData.str.injEq, PyData.bool.injEq, PyData.list.injEq, PyData.tuple.injEq, and_true, true_and, and_assoc, map_int_inj, ] at eq0
  subst eq0
  exact hyp0
theorem ok_cells_from (T : Top K mg) : DefAt P w K mg base "cells_from" 4 ["numbers"] [] [] (sp_cells_from T) := by
  refine def_ok (sp_cells_from T) T.F_cells_from sc_cells_from T.m_cells_from T.b_cells_from (fun cdv A outer s H E hr tk pw => (dss_cons (ds_asg (de_frz (de_call (ok_need_numbers T) hr (by decide) (by rfl) tk (fun _ _ => .nil) (da_cons (de_stl (dv 0)) da_nil))) (dg_tup (n := 2) rfl (dgs_cons (dg_name (i := 1) sc_cells_from.nd rfl (by first | exact Or.inl rfl | exact Or.inr rfl)) (dgs_cons (dg_name (i := 2) sc_cells_from.nd rfl (by first | exact Or.inl rfl | exact Or.inr rfl)) dgs_nil))))
    (dss_cons (ds_if (dt_cmp (opA_ne hr.units) os_ne (de_call (ok_summed T) hr (by decide) (by rfl) tk (fun _ _ => .nil) (da_cons (de_stl (de_slice slA os_sl (dv 0) do_none (do_some (de_un un_neg us_neg de_int)))) da_nil)) (de_slice slA os_sl (dv 0) (do_some (de_un un_neg us_neg de_int)) do_none) (nomark _)) (dss_one (ds_raise rfl tk PySem.F.excBase_ValueError T.xx_NoBytes T.gx_NoBytes T.xk_NoBytes (raises_own T.xb_NoBytes T.xt_NoBytes) (by rfl))) dss_nil)
    (dss_cons (ds_set (i := 3) sc_cells_from.nd rfl (by first | exact Or.inl rfl | exact Or.inr rfl) (de_cell (de_lst da_nil)))
    (dss_cons (ds_forF [4, 5, 6, 7] pw rfl (di_range3 (by rfl) T.n_range (da_cons de_int (da_cons (de_op op_sub os_sub (de_callB call_lenA cs_lenD (by rfl) T.n_len bb_len (da_cons (dv 0) da_nil)) de_int) (da_cons de_int da_nil)))) (dg_name (i := 4) sc_cells_from.nd rfl (by first | exact Or.inl rfl | exact Or.inr rfl)) (dss_cons (ds_expr (de_bm PySem.F.plainAttrs_list PySem.F.slot_list_append PySem.F.type_list_append mt_append rc_lst ms_append (dv 3) (da_cons (de_frz (de_op opA_add os_add (de_ix ix_seq os_ix (dv 0) (dv 4) (fun _ _ => rfl)) (de_op opA_mul os_mul (de_gint T.g_SIDE) (de_ix ix_seq os_ix (dv 0) (de_op opA_add os_add (dv 4) de_int) (fun _ _ => rfl))))) da_nil)))
    (dss_one (ds_if (dt_cmp op_gt os_gt (de_op op_shr os_shr (de_ix ix_seq os_ix (dv 3) (de_un un_neg us_neg de_int) (fun _ _ => rfl)) (dv 1)) de_int (nomark _)) (dss_one (ds_raise rfl tk PySem.F.excBase_ValueError T.xx_NoBytes T.gx_NoBytes T.xk_NoBytes (raises_own T.xb_NoBytes T.xt_NoBytes) (by rfl))) dss_nil))))
    (dss_cons (ds_par3 (i := 5) (j := 6) (l := 7) rfl sc_cells_from.nd rfl rfl rfl (by decide) (by decide) (by decide) rfl rfl rfl (da_cons (de_stl (de_callTy call_tuple_of cs_tuple (by rfl) T.n_tuple bt_tuple (da_cons (de_slice slA os_sl (dv 3) do_none (do_some (dv 2))) da_nil))) (da_cons (de_stl (de_callTy call_tuple_of cs_tuple (by rfl) T.n_tuple bt_tuple (da_cons (de_slice slA os_sl (dv 3) (do_some (dv 2)) (do_some (de_op opA_mul os_mul de_int (dv 2)))) da_nil))) (da_cons (de_stl (de_callTy call_tuple_of cs_tuple (by rfl) T.n_tuple bt_tuple (da_cons (de_slice slA os_sl (dv 3) (do_some (de_op opA_mul os_mul de_int (dv 2))) do_none) da_nil))) da_nil))) (by rfl))
    (dss_cons (ds_if (dt_val (de_callB (cr_any rfl) cs_any (by rfl) T.n_any bb_any (da_cons (de_lc (own := [("row", 8)]) rfl sc_cells_from.nd (di_seqD (de_stl (de_call (ok_without T) hr (by decide) (by rfl) tk (fun _ _ => .nil) (da_cons (de_stl (dv 7)) (da_cons (de_stl (de_call (ok_common T) hr (by decide) (by rfl) tk (fun _ _ => .nil) (da_cons (de_stl (dv 5)) (da_cons (de_stl (dv 6)) da_nil)))) da_nil))))) (blkOk_by (N := ["numbers", "wide", "high", "rows", "place", "front", "back", "holes", "row"]) (sc := (defScope s_cells_from)) (by decide +kernel)) (by decide) (fun _ _ _ _ _ => (dg_name (i := 8) sc_cells_from.nd rfl (by first | exact Or.inl rfl | exact Or.inr rfl))) (fun _ _ _ _ _ => dts_nil) (fun _ _ _ _ _ => (de_cmp op_gt os_gt (dv 8) de_int (nomark _)))) da_nil))) (dss_one (ds_raise rfl tk PySem.F.excBase_ValueError T.xx_NoBytes T.gx_NoBytes T.xk_NoBytes (raises_own T.xb_NoBytes T.xt_NoBytes) (by rfl))) dss_nil)
    (dss_one (ds_ret (de_tup (da_cons (de_frz (de_tup (da_cons (de_frz (dv 1)) (da_cons (de_frz (dv 2)) da_nil)))) (da_cons (de_frz (dv 5)) (da_cons (de_frz (dv 6)) (da_cons (de_frz (dv 7)) da_nil)))))))))))))) ?_
  rintro es μ q x - ⟨e, rfl, d, ht, hz, k, no⟩
  cases ht with
  | dat =>
    ((try walk_at "dx11"); repeat (walk_at "one" <;> (try walk_at "dx11")))
    refine ⟨d, .dat d, hz, fun ns e hk => ?_, fun z => no (.no fun ⟨ns, e, g⟩ => z ⟨ns, e, g.ok⟩)⟩
    subst e
    have hlen := hk.len
    ((try walk_at "dx11"); repeat (walk_at "one" <;> (try walk_at "dx11")))
    rw [cut_m2 (by omega), cut_l2 (by omega)]
    have d1 := depA_map PyData.int (n := 0) enc_int.dep (sumL (ns.take (ns.length - 2)))
    have d2 := depA_map PyData.int (n := 0) enc_int.dep (ns.drop (ns.length - 2))
    refine ⟨ns.take (ns.length - 2), .dat _, by rw [List.length_take]; omega, noDs_map (fun _ => rfl) _, by omega, ?_⟩
    by_cases hsum : sumL (ns.take (ns.length - 2)) = ns.drop (ns.length - 2)
    · rw [if_neg (by rw [(enc_int.all _ _).mpr hsum]; decide)]
      ((try walk_at "dx11"); repeat (walk_at "one" <;> (try walk_at "dx11")))
      rw [cnt72 hlen.1]
      have hw := hk.2.2.1
      have hh := hk.2.2.2.1
      have hln := hlen.1
      unfold rngS
      refine for_st (h := fun k : Nat => EV.dat (.int (2 + (k : Nat) * 2))) (fun i (rs : List Int) => rs = (rows72 ns).take i ∧ ∀ r ∈ rs, r < 2 ^ (gg ns 0).toNat) (fun η _ => η) (fun _ rs => μ ++ [.lst (rs.map .int)]) [] rfl rfl ⟨rfl, by simp⟩ (fun _ => trivial) ?_ ?_
      · rintro a b rs J hi ⟨hrs, hb⟩ hJ
        have ha : a < 3 * hi72 ns := by
          have := (List.getElem?_eq_some_iff.mp hi).1
          simpa using this
        obtain rfl : a = b := by
          rw [List.getElem?_range ha] at hi
          exact Option.some.inj hi
        have hr0 := hk.row ha
        ((try walk_at "dx11"); repeat (walk_at "one" <;> (try walk_at "dx11")))
        refine ⟨_, gg_at (i := 2 + 2 * a) (by omega) (by omega), ?_⟩
        ((try walk_at "dx11"); repeat (walk_at "one" <;> (try walk_at "dx11")))
        refine ⟨_, gg_at (i := 3 + 2 * a) (by omega) (by omega), ?_⟩
        ((try walk_at "dx11"); repeat (walk_at "one" <;> (try walk_at "dx11")))
        have hrl : rs.length ≤ 30 := by rw [hrs, List.length_take]; have := rows_len hk; omega
        refine ⟨by omega, ?_⟩
        rw [show gg ns (2 + 2 * a) + 256 * gg ns (3 + 2 * a) = rowK ns a from rfl]
        ((try walk_at "dx11"); repeat (walk_at "one" <;> (try walk_at "dx11")))
        refine ⟨_, at_last, ?_⟩
        ((try walk_at "dx11"); repeat (walk_at "one" <;> (try walk_at "dx11")))
        split
        · rename_i g
          ((try walk_at "dx11"); repeat (walk_at "one" <;> (try walk_at "dx11")))
          have g' := (shr_pos hr0).mp g
          refine no (.no fun ⟨ms, e, gd⟩ => ?_)
          obtain rfl : ns = ms := lst_inj e
          have := gd.bits (rowK ns a) (by rw [rows_eq hk]; exact List.mem_map_of_mem (List.mem_range.mpr ha))
          omega
        · rename_i g
          have g' : rowK ns a < 2 ^ (gg ns 0).toNat := Int.not_le.mp fun z => g ((shr_pos hr0).mpr z)
          have hb2 : ∀ r ∈ rs ++ [rowK ns a], r < 2 ^ (gg ns 0).toNat := fun r hr => by
            rcases List.mem_append.mp hr with hr | hr
            · exact hb r hr
            · rw [List.mem_singleton.mp hr]
              exact g'
          have hrs2 : rs ++ [rowK ns a] = (rows72 ns).take (a + 1) := by rw [rows_at hk ha, hrs]
          (have j := hJ (rs ++ [rowK ns a]) ⟨hrs2, hb2⟩; simp only [List.range_succ, List.map_append, List.map_cons, List.map_nil, fg_cons, fg_nil, List.set_cons_succ, List.set_cons_zero] at j; exact j)
      · rintro rs ⟨hrs, hb⟩
        rw [List.length_range, List.take_of_length_le (Nat.le_of_eq (rows_len hk))] at hrs
        have hrl : rs.length = 3 * hi72 ns := by rw [hrs]; exact rows_len hk
        have hgi : gg ns 1 = (hi72 ns : Int) := by unfold hi72; omega
        have fin : (∀ r ∈ notI (ho72 ns) (andI (fr72 ns) (ba72 ns)), r = 0) → q (.dat (.tuple [.tuple [.int (gg ns 0), .int (gg ns 1)], .tuple ((fr72 ns).map .int), .tuple ((ba72 ns).map .int), .tuple ((ho72 ns).map .int)])) μ := fun h0 => k (csOf ns) (.yes rfl ⟨hk, hsum, by rw [← hrs]; exact hb, h0⟩)
        have bad : ¬ (∀ r ∈ notI (ho72 ns) (andI (fr72 ns) (ba72 ns)), r = 0) → x ⟨T.c_NoBytes, none⟩ μ := fun h0 => no (.no fun ⟨ms, e, g⟩ => h0 (by
          obtain rfl : ns = ms := lst_inj e
          exact g.hole))
        have nn := notI_nn (a := ho72 ns) (b := andI (fr72 ns) (ba72 ns)) fun r hr => rows_nn hk r (List.mem_of_mem_drop hr)
        unfold fr72 ba72 ho72 at fin bad nn
        rw [← hrs] at fin bad nn
        rw [hgi] at fin ⊢
        have h3 := hlen.2
        clear hb hz k no hsum d1 d2 hrs hlen hk hh hln hgi
        generalize hi72 ns = H at *
        generalize gg ns 0 = W at *
        dsimp only
        simp only [fg_cons, fg_nil, List.set_cons_succ, List.set_cons_zero]
        refine q_par3 ?_
        refine s_par3 ?_
        (try walk_at "dx11")
        rw [cutm_hi, cutm_lh hrl, cutm_lo]
        have l1 : (rs.take H).length = H := by rw [List.length_take]; omega
        have l2 : ((rs.drop H).take H).length = H := by rw [List.length_take, List.length_drop]; omega
        have l3 : (rs.drop (2 * H)).length = H := by rw [List.length_drop]; omega
        generalize rs.take H = fa at *
        generalize (rs.drop H).take H = ba at *
        generalize rs.drop (2 * H) = ha at *
        ((try walk_at "dx11"); repeat (walk_at "one" <;> (try walk_at "dx11")))
        have l4 : (andI fa ba).length = H := by simp [andI]; omega
        have l5 : (notI ha (andI fa ba)).length ≤ 10 := by simp [notI]; omega
        refine ⟨by omega, by omega, ?_⟩
        generalize notI ha (andI fa ba) = vs at *
        refine lc_mapD (f := fun r : Int => PyData.bool (decide (0 < r))) (by omega) trivial (fun r K hr hK => ?_) ?_
        · (try walk_at "dx11")
          exact hK
        (try walk_at "dx11")
        rw [bools_f vs]
        ((try walk_at "dx11"); repeat (walk_at "one" <;> (try walk_at "dx11")))
        by_cases h0 : ∀ r ∈ vs, r = 0
        · rw [if_neg (by simp; exact fun r hr => by have := h0 r hr; omega)]
          ((try walk_at "dx11"); repeat (walk_at "one" <;> (try walk_at "dx11")))
          exact fin h0
        · rw [if_pos (by simp; exact pos_ex nn h0)]
          ((try walk_at "dx11"); repeat (walk_at "one" <;> (try walk_at "dx11")))
          exact bad h0
    · rw [if_pos (by rw [show PyData.eqvAll _ _ = false from Bool.eq_false_iff.mpr fun z => hsum ((enc_int.all _ _).mp z)]; decide)]
      ((try walk_at "dx11"); repeat (walk_at "one" <;> (try walk_at "dx11")))
      refine no (.no fun ⟨ms, e, g⟩ => hsum ?_)
      obtain rfl : ns = ms := lst_inj e
      exact g.sum
  | @loc m xs hn =>
    ((try walk_at "dx11"); repeat (walk_at "one" <;> (try walk_at "dx11")))
    refine ⟨_, .loc hn, hz, fun ns e hk => ?_, fun z => no (.no fun ⟨ns, e, g⟩ => z ⟨ns, e, g.ok⟩)⟩
    obtain rfl : xs = ns.map .int := PyData.list.inj e
    have hlen := hk.len
    have hm := (List.getElem?_eq_some_iff.mp hn).1
    have hn' : ∀ c, (μ ++ [c])[m]? = some (.lst (ns.map .int)) := fun c => by rw [List.getElem?_append_left (List.getElem?_eq_some_iff.mp hn).1, hn]
    ((try walk_at "dx11"); repeat (walk_at "one" <;> (try walk_at "dx11")))
    (repeat (rw [hn]; ((try walk_at "dx11"); repeat (walk_at "one" <;> (try walk_at "dx11")))))
    rw [cut_m2 (by omega), cut_l2 (by omega)]
    have d1 := depA_map PyData.int (n := 0) enc_int.dep (sumL (ns.take (ns.length - 2)))
    have d2 := depA_map PyData.int (n := 0) enc_int.dep (ns.drop (ns.length - 2))
    refine ⟨ns.take (ns.length - 2), .dat _, by rw [List.length_take]; omega, noDs_map (fun _ => rfl) _, by omega, ?_⟩
    by_cases hsum : sumL (ns.take (ns.length - 2)) = ns.drop (ns.length - 2)
    · rw [if_neg (by rw [(enc_int.all _ _).mpr hsum]; decide)]
      ((try walk_at "dx11"); repeat (walk_at "one" <;> (try walk_at "dx11")))
      (repeat (rw [hn']; ((try walk_at "dx11"); repeat (walk_at "one" <;> (try walk_at "dx11")))))
      rw [cnt72 hlen.1]
      have hw := hk.2.2.1
      have hh := hk.2.2.2.1
      have hln := hlen.1
      unfold rngS
      refine for_st (h := fun k : Nat => EV.dat (.int (2 + (k : Nat) * 2))) (fun i (rs : List Int) => rs = (rows72 ns).take i ∧ ∀ r ∈ rs, r < 2 ^ (gg ns 0).toNat) (fun η _ => η) (fun _ rs => μ ++ [.lst (rs.map .int)]) [] rfl rfl ⟨rfl, by simp⟩ (fun _ => trivial) ?_ ?_
      · rintro a b rs J hi ⟨hrs, hb⟩ hJ
        have ha : a < 3 * hi72 ns := by
          have := (List.getElem?_eq_some_iff.mp hi).1
          simpa using this
        obtain rfl : a = b := by
          rw [List.getElem?_range ha] at hi
          exact Option.some.inj hi
        have hr0 := hk.row ha
        ((try walk_at "dx11"); repeat (walk_at "one" <;> (try walk_at "dx11")))
        (repeat (rw [hn']; ((try walk_at "dx11"); repeat (walk_at "one" <;> (try walk_at "dx11")))))
        refine ⟨_, gg_at (i := 2 + 2 * a) (by omega) (by omega), ?_⟩
        ((try walk_at "dx11"); repeat (walk_at "one" <;> (try walk_at "dx11")))
        (repeat (rw [hn']; ((try walk_at "dx11"); repeat (walk_at "one" <;> (try walk_at "dx11")))))
        refine ⟨_, gg_at (i := 3 + 2 * a) (by omega) (by omega), ?_⟩
        ((try walk_at "dx11"); repeat (walk_at "one" <;> (try walk_at "dx11")))
        have hrl : rs.length ≤ 30 := by rw [hrs, List.length_take]; have := rows_len hk; omega
        refine ⟨by omega, ?_⟩
        rw [show gg ns (2 + 2 * a) + 256 * gg ns (3 + 2 * a) = rowK ns a from rfl]
        ((try walk_at "dx11"); repeat (walk_at "one" <;> (try walk_at "dx11")))
        refine ⟨_, at_last, ?_⟩
        ((try walk_at "dx11"); repeat (walk_at "one" <;> (try walk_at "dx11")))
        split
        · rename_i g
          ((try walk_at "dx11"); repeat (walk_at "one" <;> (try walk_at "dx11")))
          have g' := (shr_pos hr0).mp g
          refine no (.no fun ⟨ms, e, gd⟩ => ?_)
          obtain rfl : ns = ms := lst_inj e
          have := gd.bits (rowK ns a) (by rw [rows_eq hk]; exact List.mem_map_of_mem (List.mem_range.mpr ha))
          omega
        · rename_i g
          have g' : rowK ns a < 2 ^ (gg ns 0).toNat := Int.not_le.mp fun z => g ((shr_pos hr0).mpr z)
          have hb2 : ∀ r ∈ rs ++ [rowK ns a], r < 2 ^ (gg ns 0).toNat := fun r hr => by
            rcases List.mem_append.mp hr with hr | hr
            · exact hb r hr
            · rw [List.mem_singleton.mp hr]
              exact g'
          have hrs2 : rs ++ [rowK ns a] = (rows72 ns).take (a + 1) := by rw [rows_at hk ha, hrs]
          (have j := hJ (rs ++ [rowK ns a]) ⟨hrs2, hb2⟩; simp only [List.range_succ, List.map_append, List.map_cons, List.map_nil, fg_cons, fg_nil, List.set_cons_succ, List.set_cons_zero] at j; exact j)
      · rintro rs ⟨hrs, hb⟩
        rw [List.length_range, List.take_of_length_le (Nat.le_of_eq (rows_len hk))] at hrs
        have hrl : rs.length = 3 * hi72 ns := by rw [hrs]; exact rows_len hk
        have hgi : gg ns 1 = (hi72 ns : Int) := by unfold hi72; omega
        have fin : (∀ r ∈ notI (ho72 ns) (andI (fr72 ns) (ba72 ns)), r = 0) → q (.dat (.tuple [.tuple [.int (gg ns 0), .int (gg ns 1)], .tuple ((fr72 ns).map .int), .tuple ((ba72 ns).map .int), .tuple ((ho72 ns).map .int)])) μ := fun h0 => k (csOf ns) (.yes rfl ⟨hk, hsum, by rw [← hrs]; exact hb, h0⟩)
        have bad : ¬ (∀ r ∈ notI (ho72 ns) (andI (fr72 ns) (ba72 ns)), r = 0) → x ⟨T.c_NoBytes, none⟩ μ := fun h0 => no (.no fun ⟨ms, e, g⟩ => h0 (by
          obtain rfl : ns = ms := lst_inj e
          exact g.hole))
        have nn := notI_nn (a := ho72 ns) (b := andI (fr72 ns) (ba72 ns)) fun r hr => rows_nn hk r (List.mem_of_mem_drop hr)
        unfold fr72 ba72 ho72 at fin bad nn
        rw [← hrs] at fin bad nn
        rw [hgi] at fin ⊢
        have h3 := hlen.2
        clear hb hz k no hsum d1 d2 hrs hlen hk hh hln hgi
        generalize hi72 ns = H at *
        generalize gg ns 0 = W at *
        dsimp only
        simp only [fg_cons, fg_nil, List.set_cons_succ, List.set_cons_zero]
        refine q_par3 ?_
        refine s_par3 ?_
        (try walk_at "dx11")
        rw [cutm_hi, cutm_lh hrl, cutm_lo]
        have l1 : (rs.take H).length = H := by rw [List.length_take]; omega
        have l2 : ((rs.drop H).take H).length = H := by rw [List.length_take, List.length_drop]; omega
        have l3 : (rs.drop (2 * H)).length = H := by rw [List.length_drop]; omega
        generalize rs.take H = fa at *
        generalize (rs.drop H).take H = ba at *
        generalize rs.drop (2 * H) = ha at *
        ((try walk_at "dx11"); repeat (walk_at "one" <;> (try walk_at "dx11")))
        have l4 : (andI fa ba).length = H := by simp [andI]; omega
        have l5 : (notI ha (andI fa ba)).length ≤ 10 := by simp [notI]; omega
        refine ⟨by omega, by omega, ?_⟩
        generalize notI ha (andI fa ba) = vs at *
        refine lc_mapD (f := fun r : Int => PyData.bool (decide (0 < r))) (by omega) trivial (fun r K hr hK => ?_) ?_
        · (try walk_at "dx11")
          exact hK
        (try walk_at "dx11")
        rw [bools_f vs]
        ((try walk_at "dx11"); repeat (walk_at "one" <;> (try walk_at "dx11")))
        by_cases h0 : ∀ r ∈ vs, r = 0
        · rw [if_neg (by simp; exact fun r hr => by have := h0 r hr; omega)]
          ((try walk_at "dx11"); repeat (walk_at "one" <;> (try walk_at "dx11")))
          exact fin h0
        · rw [if_pos (by simp; exact pos_ex nn h0)]
          ((try walk_at "dx11"); repeat (walk_at "one" <;> (try walk_at "dx11")))
          exact bad h0
    · rw [if_pos (by rw [show PyData.eqvAll _ _ = false from Bool.eq_false_iff.mpr fun z => hsum ((enc_int.all _ _).mp z)]; decide)]
      ((try walk_at "dx11"); repeat (walk_at "one" <;> (try walk_at "dx11")))
      refine no (.no fun ⟨ms, e, g⟩ => hsum ?_)
      obtain rfl : ns = ms := lst_inj e
      exact g.sum
local macro_rules | `(tactic| walk_at "dx12") => `(tactic| simp (disch := first | assumption | omega) only [List.length_cons, List.length_nil, Nat.zero_add, oSub, oGt, oShr, Nat.reduceAdd, List.map_cons, List.map_nil, ↓exitQ_dat, startD, Nat.reduceSub, List.replicate.eq_2, List.replicate, List.cons_append, List.nil_append, ↓x_dFrz, ↓x_dCall, ↓x_aCons, ↓x_dStl, ↓dVar_0, ↓old_dat, ↓stl_dat, ↓x_aNil, ↓aO_cons, ↓nN_dat, ↓aO_nil, Bool.and_true, List.append_nil, ↓e_need_numbers, ↓wD_dat, ↓x_gTp, ↓x_gCn, ↓x_gNm, ↓x_gNl0, List.set_cons_succ, List.set_cons_zero, true_and, ↓tk_0, ↓x_tVal, ↓x_dOp, ↓x_dSl, ↓x_oNo, ↓x_oSome, ↓x_dUn, ↓x_dC, ↓neg_i, ↓intK_i, ↓sl_lstD, ↓stl_new, ↓e_summed, ↓ne_nn, ↓noD_l, ↓noDs_i, dep_lst, ↓wB_b, eqv_lst, ↓x_dCell, ↓x_dLst, ↓wDs_nil, nle_h, ↓cel_new, ↓nN_loc, ↓x_iRange3, ↓x_dCB, ↓lnD_lst, ↓oI0_ii, ↓rgK3_i, ile_h, List.length_map, and_true, List.length_append, ↓fg_cons, ↓fg_nil, ↓x_dBM, ↓dVar_3, ↓old_loc, ↓c_isL, ↓get_a0, lcR_l, ↓dVar_4, ↓ix_lstD, at_nn, ↓add_int, ↓c_app, ↓mul_int, cmul_l, ↓set_a0, lcK_l, ↓c_ix, ↓dVar_1, cl_dat, cl_loc, ↓cl_none, ↓cl_nil, ↓oI_ii, decide_eq_true_eq, ↓tk_a1, ↓tk_a0, ↓dVar_2, ↓c_sl, ↓x_oTuple, ↓sqK_new, ↓parK3_e, ↓x_lc, ↓x_iSeqD, ↓dVar_7, ↓dVar_5, ↓dVar_6, Bool.true_and, ↓x_oAll, ↓e_common, ↓e_without, ↓seqDK_t, wipeD, dVar_8, ↓lstK_new, ↓bools_k, ↓x_dTup, ↓wDs_cons, ↓stl_loc, ↓lcR_l, ↓c_lenD, ↓lnC_l, ↓c_len, ↓cl_dat])
/-! ### plain: there and back -/
structure OkC (c : Cs) : Prop where
  w : 3 ≤ c.1.1 ∧ c.1.1 ≤ 10
  h : 3 ≤ c.1.2 ∧ c.1.2 ≤ 10
  lf : (c.2.1.length : Int) = c.1.2
  lb : (c.2.2.1.length : Int) = c.1.2
  lo : (c.2.2.2.length : Int) = c.1.2
  rows : ∀ r ∈ c.2.1 ++ c.2.2.1 ++ c.2.2.2, 0 ≤ r ∧ r < 2 ^ c.1.1.toNat
  hole : ∀ r ∈ notI c.2.2.2 (andI c.2.1 c.2.2.1), r = 0
theorem two_get : ∀ (R : List Int) (k : Nat) (h : k < R.length), (two R)[2 * k]? = some (R[k] % 256) ∧ (two R)[2 * k + 1]? = some (R[k] / 256)
  | r :: R, 0, _ => ⟨rfl, rfl⟩
  | r :: R, k + 1, h => by
    have ih := two_get R k (by simpa using h)
    have e : two (r :: R) = (r % 256) :: (r / 256) :: two R := rfl
    rw [e, show 2 * (k + 1) = 2 * k + 1 + 1 by omega, show 2 * k + 1 + 1 + 1 = (2 * k + 1) + 1 + 1 by omega]
    simpa using ih
theorem two_b {R : List Int} {w : Nat} (hw : w ≤ 10) (h : ∀ r ∈ R, 0 ≤ r ∧ r < 2 ^ w) : ∀ n ∈ two R, 0 ≤ n ∧ n ≤ 255 := fun n hn => by
  obtain ⟨r, hr, hn⟩ := List.mem_flatMap.mp hn
  obtain ⟨h1, h2⟩ := h r hr
  have h3 : (2 : Int) ^ w ≤ 2 ^ 10 := by
    have := Nat.pow_le_pow_right (n := 2) (by decide) hw
    have e : ((2 ^ w : Nat) : Int) ≤ ((2 ^ 10 : Nat) : Int) := Int.ofNat_le.mpr this
    simpa using e
  have h4 : r < 1024 := by
    have : (2 : Int) ^ 10 = 1024 := by decide
    omega
  simp only [List.mem_cons, List.not_mem_nil, or_false] at hn
  rcases hn with rfl | rfl <;> omega
theorem nums_len (c : Cs) : (numsOf c).length = 4 + 2 * (c.2.1 ++ c.2.2.1 ++ c.2.2.2).length := by
  simp only [numsOf, encN, List.length_append, two_len, sumL, List.length_cons, List.length_nil]
  omega
theorem encN_len (c : Cs) : (encN c).length = 2 + 2 * (c.2.1 ++ c.2.2.1 ++ c.2.2.2).length := by
  simp only [encN, List.length_append, two_len, List.length_cons, List.length_nil]
theorem nums_take (c : Cs) : (numsOf c).take ((numsOf c).length - 2) = encN c := by
  rw [show (numsOf c).length - 2 = (encN c).length by rw [nums_len, encN_len]; omega]
  unfold numsOf
  exact List.take_left' rfl
theorem nums_drop (c : Cs) : (numsOf c).drop ((numsOf c).length - 2) = sumL (encN c) := by
  rw [show (numsOf c).length - 2 = (encN c).length by rw [nums_len, encN_len]; omega]
  unfold numsOf
  exact List.drop_left' rfl
theorem gg_nums {c : Cs} {k : Nat} (h : k < (c.2.1 ++ c.2.2.1 ++ c.2.2.2).length) : rowK (numsOf c) k = (c.2.1 ++ c.2.2.1 ++ c.2.2.2)[k] := by
  generalize hR : c.2.1 ++ c.2.2.1 ++ c.2.2.2 = R at *
  have e : numsOf c = c.1.1 :: c.1.2 :: (two R ++ sumL (encN c)) := by
    unfold numsOf
    conv => lhs; arg 1; unfold encN
    rw [hR]
    rfl
  obtain ⟨h1, h2⟩ := two_get R k h
  have l1 : 2 * k < (two R).length := by rw [two_len]; omega
  have l2 : 2 * k + 1 < (two R).length := by rw [two_len]; omega
  unfold rowK gg
  rw [e, show 2 + 2 * k = 2 * k + 1 + 1 by omega, show 3 + 2 * k = (2 * k + 1) + 1 + 1 by omega, List.getElem?_cons_succ, List.getElem?_cons_succ, List.getElem?_cons_succ, List.getElem?_cons_succ, List.getElem?_append_left l1, List.getElem?_append_left l2, h1, h2]
  show R[k] % 256 + 256 * (R[k] / 256) = R[k]
  omega
theorem rows_nums {c : Cs} : rows72 (numsOf c) = c.2.1 ++ c.2.2.1 ++ c.2.2.2 := by
  unfold rows72
  rw [nums_len, show (4 + 2 * (c.2.1 ++ c.2.2.1 ++ c.2.2.2).length - 4) / 2 = (c.2.1 ++ c.2.2.1 ++ c.2.2.2).length by omega]
  refine List.ext_getElem (by simp) fun k h1 h2 => ?_
  rw [List.getElem_map, List.getElem_range]
  exact gg_nums h2
theorem gg0 (c : Cs) : gg (numsOf c) 0 = c.1.1 := rfl
theorem gg1 (c : Cs) : gg (numsOf c) 1 = c.1.2 := rfl
theorem cs_back {c : Cs} (h : OkC c) : csOf (numsOf c) = c ∧ fr72 (numsOf c) = c.2.1 ∧ ba72 (numsOf c) = c.2.2.1 ∧ ho72 (numsOf c) = c.2.2.2 := by
  have lf := h.lf
  have lb := h.lb
  have hh : hi72 (numsOf c) = c.2.1.length := by unfold hi72; rw [gg1]; omega
  have e1 : fr72 (numsOf c) = c.2.1 := by
    unfold fr72
    rw [hh, rows_nums, List.append_assoc]
    exact List.take_left' rfl
  have e2 : ba72 (numsOf c) = c.2.2.1 := by
    unfold ba72
    rw [hh, rows_nums, List.append_assoc, List.drop_left' rfl]
    exact List.take_left' (by omega)
  have e3 : ho72 (numsOf c) = c.2.2.2 := by
    unfold ho72
    rw [hh, rows_nums]
    exact List.drop_left' (by rw [List.length_append]; omega)
  refine ⟨?_, e1, e2, e3⟩
  unfold csOf
  rw [e1, e2, e3, gg0, gg1]
theorem nums_okN {c : Cs} (h : OkC c) : okN (numsOf c) := by
  have hw := h.w
  have hh := h.h
  have l := nums_len c
  have lf := h.lf
  have lb := h.lb
  have lo := h.lo
  rw [List.length_append, List.length_append] at l
  refine ⟨fun n hn => ?_, by omega, by rw [gg0]; exact hw, by rw [gg1]; exact hh, by rw [gg1]; omega⟩
  unfold numsOf at hn
  have hs := sumS_b (encN c)
  rcases List.mem_append.mp hn with hn | hn
  · unfold encN at hn
    rcases List.mem_append.mp hn with hn | hn
    · simp only [List.mem_cons, List.not_mem_nil, or_false] at hn
      rcases hn with rfl | rfl <;> omega
    · exact two_b (by omega) h.rows n hn
  · have hn' : n = sumS (encN c) / 256 ∨ n = sumS (encN c) % 256 := by simpa [sumL] using hn
    rcases hn' with rfl | rfl <;> omega
theorem nums_good {c : Cs} (h : OkC c) : Good (numsOf c) := by
  obtain ⟨_, e1, e2, e3⟩ := cs_back h
  refine ⟨nums_okN h, by rw [nums_take, nums_drop], fun r hr => ?_, by rw [e1, e2, e3]; exact h.hole⟩
  rw [rows_nums] at hr
  rw [gg0]
  exact (h.rows r hr).2
theorem wsum_set : ∀ (k : Nat) (ns : List Int) (i : Nat) (v : Int) (h : i < ns.length), wsum k (ns.set i v) = wsum k ns + ((k : Int) + i) * (v - ns[i])
  | k, n :: ns, 0, v, _ => by
    simp only [List.set_cons_zero, wsum, List.getElem_cons_zero]
    rw [Int.mul_sub]
    simp
    omega
  | k, n :: ns, i + 1, v, h => by
    simp only [List.set_cons_succ, wsum, List.getElem_cons_succ]
    rw [wsum_set (k + 1) ns i v (by simpa using h)]
    rw [show ((k : Int) + ((i + 1 : Nat) : Int)) = (((k + 1 : Nat) : Int) + (i : Int)) by omega]
    omega
theorem sumL_inj {a b : List Int} (h : sumL a = sumL b) : sumS a = sumS b := by
  simp only [sumL, List.cons.injEq, and_true] at h
  omega
/-- one number changed is refused -/
theorem bad_set {c : Cs} (h : OkC c) {i : Nat} {v : Int} (hi : i < (numsOf c).length) (hv : 0 ≤ v ∧ v ≤ 255) (ne : v ≠ (numsOf c)[i]) : ¬ Good ((numsOf c).set i v) := fun g => by
  have gs := g.sum
  have og := (nums_good h).sum
  have hr := (nums_okN h).1 _ (List.getElem_mem hi)
  have hl := (nums_okN h).len
  rw [List.length_set] at gs
  generalize numsOf c = E at *
  by_cases c1 : i < E.length - 2
  · rw [List.take_set, List.drop_set_of_lt (by omega), ← og] at gs
    have e := sumL_inj gs
    unfold sumS at e
    have h1 : i < (E.take (E.length - 2)).length := by rw [List.length_take]; omega
    rw [wsum_set 1 _ i v h1, List.getElem_take] at e
    generalize E[i] = old at *
    have d1 : (((1 : Nat) : Int) + (i : Int)) * (v - old) ≠ 0 := Int.mul_ne_zero (by omega) (by omega)
    have d2 : (((1 : Nat) : Int) + (i : Int)) * (v - old) ≤ (((1 : Nat) : Int) + (i : Int)) * 255 := Int.mul_le_mul_of_nonneg_left (by omega) (by omega)
    have d3 : (((1 : Nat) : Int) + (i : Int)) * (-255) ≤ (((1 : Nat) : Int) + (i : Int)) * (v - old) := Int.mul_le_mul_of_nonneg_left (by omega) (by omega)
    generalize (((1 : Nat) : Int) + (i : Int)) * (v - old) = d at *
    omega
  · rw [List.take_set_of_le (by omega)] at gs
    rw [og] at gs
    have e := congrArg (fun l : List Int => l[i - (E.length - 2)]?) gs
    simp only [List.getElem?_drop] at e
    rw [show E.length - 2 + (i - (E.length - 2)) = i by omega, List.getElem?_set_self hi, List.getElem?_eq_getElem hi] at e
    exact ne (Option.some.inj e).symm
local macro_rules | `(tactic| walk_at "dx14") => `(tactic| simp (disch := first | assumption | omega) only [List.map_cons, List.map_nil, ↓exitQ_dat, startD, List.length_cons, List.length_nil, Nat.zero_add, Nat.reduceAdd, Nat.reduceSub, List.replicate.eq_2, List.replicate, List.cons_append, List.nil_append, ↓x_dStl, ↓x_dLst, ↓x_aCons, ↓x_dFrz, ↓x_dCB, ↓dVar_0, ↓old_exc, ↓x_dRaw, ↓x_aNil, ↓wDs_cons, ↓wDs_nil, nle_h, ↓stl_new, ↓nN_dat, List.set_cons_succ, List.set_cons_zero, true_and, kd_NoBytes_NoSize, ↓wD_dat, kd_NoBytes_NoTurn, kd_NoBytes_NoTie, kd_NoBytes_NoDrawing, ↓x_dOp, ↓dVar_1, ↓old_dat, ↓add_ln, kd_NoBytes_NoOrder, kd_NoBytes_NoWeight, kd_NoBytes_NoPart, kd_NoBytes_NoSpot, ↓kd_NoBytes_NoBytes, kd_NoBytes_NoWord, kd_NoBytes_TooMany, kd_NoBytes_NoDeed, kd_NoBytes_OnShut, kd_NoBytes_Overlap, kd_NoBytes_OffFloor, kd_NoBytes_NoText, kd_NoBytes_NoWay, kd_NoBytes_TooNear, ↓x_lc, ↓x_iRange1, ↓lnD_lst, ↓rng1_i, ile_h, and_true, ↓x_dC, ↓x_dNotV, ↓int_b, ↓mul_ni, kd_NoBytes_ValueError, ↓wB_b, Bool.not_true, Bool.false_eq_true, if_false, Int.reduceToNat, List.replicate.eq_1, List.flatten_nil, Int.toNat_natCast, ↓x_gNm, ↓x_tVal, wipeD, dVar_2, dVar_1, ↓ix_lstD, at_nn, ↓tk_0, ↓add_nn, ↓exitQ_new, List.append_nil, ↓x_dCall, ↓stl_dat, ↓aO_cons, ↓aO_nil, Bool.and_true, ↓e_cells_from, ↓dVar_2, ↓x_oNotN, isRaw, DL.isNon, ↓dVar_4, ↓dVar_3, ↓stl_exc, ↓nN_exc, Bool.not_false, if_true, ↓old_loc, ↓stl_loc, ↓nN_loc])
local macro_rules | `(tactic| walk_at "dx15") => `(tactic| simp (disch := first | assumption | omega) only [List.map_cons, List.map_nil, ↓exitQ_dat, startD, List.length_cons, List.length_nil, Nat.zero_add, Nat.reduceAdd, Nat.reduceSub, List.replicate.eq_2, List.replicate, List.cons_append, List.nil_append, ↓x_dStl, ↓x_dLst, ↓x_aCons, ↓x_dFrz, ↓x_dCB, ↓dVar_0, ↓old_exc, ↓x_dRaw, ↓x_aNil, ↓wDs_cons, ↓wDs_nil, nle_h, ↓stl_new, ↓nN_dat, List.set_cons_succ, List.set_cons_zero, true_and, kd_NoBytes_NoSize, ↓wD_dat, kd_NoBytes_NoTurn, kd_NoBytes_NoTie, kd_NoBytes_NoDrawing, ↓x_dOp, ↓dVar_1, ↓old_dat, ↓add_ln, kd_NoBytes_NoOrder, kd_NoBytes_NoWeight, kd_NoBytes_NoPart, kd_NoBytes_NoSpot, ↓kd_NoBytes_NoBytes, kd_NoBytes_NoWord, kd_NoBytes_TooMany, kd_NoBytes_NoDeed, kd_NoBytes_OnShut, kd_NoBytes_Overlap, kd_NoBytes_OffFloor, kd_NoBytes_NoText, kd_NoBytes_NoWay, kd_NoBytes_TooNear, ↓x_lc, ↓x_iRange1, ↓lnD_lst, ↓rng1_i, ile_h, and_true, ↓x_dC, ↓x_dNotV, ↓int_b, ↓mul_ni, kd_NoBytes_ValueError, ↓wB_b, Bool.not_true, Bool.false_eq_true, if_false, Int.reduceToNat, List.replicate.eq_1, List.flatten_nil, Int.toNat_natCast, ↓x_gNm, ↓x_tVal, wipeD, dVar_2, dVar_1, ↓ix_lstD, at_nn, ↓tk_0, ↓add_nn, ↓exitQ_new, List.append_nil, ↓x_dCall, ↓stl_dat, ↓aO_cons, ↓aO_nil, Bool.and_true, ↓e_cells_from, ↓dVar_2, ↓x_oNotN, isRaw, DL.isNon, ↓dVar_4, ↓dVar_3, ↓stl_exc, ↓nN_exc, Bool.not_false, if_true, ↓old_loc, ↓stl_loc, ↓nN_loc])
theorem kl_at (bs : List Bool) (a : Nat) (h : a < bs.length) : (bs.map PyData.bool)[(0 + (a : Int)).toNat]? = some (.bool ((bs[a]?).getD false)) := by
  rw [show (0 + (a : Int)).toNat = a by omega, List.getElem?_map, List.getElem?_eq_getElem h]
  rfl
def sp_law_kinds (T : Top K mg) : SpD := fun es μ q x => es = [.exc ⟨T.c_NoBytes, none⟩] ∧ (q (.new [.int 9]) μ)
theorem e_law_kinds (T : Top K mg)  {μ : Mu} {q : PQ} {x : XQ} : sp_law_kinds T [.exc ⟨T.c_NoBytes, none⟩] μ q x = (q (.new [.int 9]) μ) := by
  refine propext ⟨fun hyp0 => ?_, fun hyp0 => ⟨rfl, hyp0⟩⟩
  exact hyp0.2
theorem ok_law_kinds (T : Top K mg) : DefAt P w K mg base "_law_kinds" 1 ["_law_e"] [] [] (sp_law_kinds T) := by
  refine def_ok (sp_law_kinds T) T.F_law_kinds sc_law_kinds T.m_law_kinds T.b_law_kinds (fun cdv A outer s H E hr tk pw => (dss_cons (ds_set (i := 1) sc_law_kinds.nd rfl (by first | exact Or.inl rfl | exact Or.inr rfl) (de_stl (de_lst (da_cons (de_frz (de_callB call_isK (cs_isK (K := K) (D := fun _ => True)) (by rfl) T.n_isinstance bb_isinstance (da_cons (dv 0) (da_cons (de_gcls T.gx_NoDrawing) da_nil)))) (da_cons (de_frz (de_callB call_isK (cs_isK (K := K) (D := fun _ => True)) (by rfl) T.n_isinstance bb_isinstance (da_cons (dv 0) (da_cons (de_gcls T.gx_NoTie) da_nil)))) (da_cons (de_frz (de_callB call_isK (cs_isK (K := K) (D := fun _ => True)) (by rfl) T.n_isinstance bb_isinstance (da_cons (dv 0) (da_cons (de_gcls T.gx_NoTurn) da_nil)))) (da_cons (de_frz (de_callB call_isK (cs_isK (K := K) (D := fun _ => True)) (by rfl) T.n_isinstance bb_isinstance (da_cons (dv 0) (da_cons (de_gcls T.gx_NoSize) da_nil)))) da_nil)))))))
    (dss_cons (ds_set (i := 1) sc_law_kinds.nd rfl (by first | exact Or.inl rfl | exact Or.inr rfl) (de_stl (de_op opA_add os_add (dv 1) (de_lst (da_cons (de_frz (de_callB call_isK (cs_isK (K := K) (D := fun _ => True)) (by rfl) T.n_isinstance bb_isinstance (da_cons (dv 0) (da_cons (de_gcls T.gx_NoSpot) da_nil)))) (da_cons (de_frz (de_callB call_isK (cs_isK (K := K) (D := fun _ => True)) (by rfl) T.n_isinstance bb_isinstance (da_cons (dv 0) (da_cons (de_gcls T.gx_NoPart) da_nil)))) (da_cons (de_frz (de_callB call_isK (cs_isK (K := K) (D := fun _ => True)) (by rfl) T.n_isinstance bb_isinstance (da_cons (dv 0) (da_cons (de_gcls T.gx_NoWeight) da_nil)))) (da_cons (de_frz (de_callB call_isK (cs_isK (K := K) (D := fun _ => True)) (by rfl) T.n_isinstance bb_isinstance (da_cons (dv 0) (da_cons (de_gcls T.gx_NoOrder) da_nil)))) da_nil))))))))
    (dss_cons (ds_set (i := 1) sc_law_kinds.nd rfl (by first | exact Or.inl rfl | exact Or.inr rfl) (de_stl (de_op opA_add os_add (dv 1) (de_lst (da_cons (de_frz (de_callB call_isK (cs_isK (K := K) (D := fun _ => True)) (by rfl) T.n_isinstance bb_isinstance (da_cons (dv 0) (da_cons (de_gcls T.gx_NoDeed) da_nil)))) (da_cons (de_frz (de_callB call_isK (cs_isK (K := K) (D := fun _ => True)) (by rfl) T.n_isinstance bb_isinstance (da_cons (dv 0) (da_cons (de_gcls T.gx_NoBytes) da_nil)))) (da_cons (de_frz (de_callB call_isK (cs_isK (K := K) (D := fun _ => True)) (by rfl) T.n_isinstance bb_isinstance (da_cons (dv 0) (da_cons (de_gcls T.gx_TooMany) da_nil)))) (da_cons (de_frz (de_callB call_isK (cs_isK (K := K) (D := fun _ => True)) (by rfl) T.n_isinstance bb_isinstance (da_cons (dv 0) (da_cons (de_gcls T.gx_NoWord) da_nil)))) da_nil))))))))
    (dss_cons (ds_set (i := 1) sc_law_kinds.nd rfl (by first | exact Or.inl rfl | exact Or.inr rfl) (de_stl (de_op opA_add os_add (dv 1) (de_lst (da_cons (de_frz (de_callB call_isK (cs_isK (K := K) (D := fun _ => True)) (by rfl) T.n_isinstance bb_isinstance (da_cons (dv 0) (da_cons (de_gcls T.gx_NoText) da_nil)))) (da_cons (de_frz (de_callB call_isK (cs_isK (K := K) (D := fun _ => True)) (by rfl) T.n_isinstance bb_isinstance (da_cons (dv 0) (da_cons (de_gcls T.gx_OffFloor) da_nil)))) (da_cons (de_frz (de_callB call_isK (cs_isK (K := K) (D := fun _ => True)) (by rfl) T.n_isinstance bb_isinstance (da_cons (dv 0) (da_cons (de_gcls T.gx_Overlap) da_nil)))) (da_cons (de_frz (de_callB call_isK (cs_isK (K := K) (D := fun _ => True)) (by rfl) T.n_isinstance bb_isinstance (da_cons (dv 0) (da_cons (de_gcls T.gx_OnShut) da_nil)))) da_nil))))))))
    (dss_cons (ds_set (i := 1) sc_law_kinds.nd rfl (by first | exact Or.inl rfl | exact Or.inr rfl) (de_stl (de_op opA_add os_add (dv 1) (de_lst (da_cons (de_frz (de_callB call_isK (cs_isK (K := K) (D := fun _ => True)) (by rfl) T.n_isinstance bb_isinstance (da_cons (dv 0) (da_cons (de_gcls T.gx_TooNear) da_nil)))) (da_cons (de_frz (de_callB call_isK (cs_isK (K := K) (D := fun _ => True)) (by rfl) T.n_isinstance bb_isinstance (da_cons (dv 0) (da_cons (de_gcls T.gx_NoWay) da_nil)))) da_nil))))))
    (dss_one (ds_ret (de_op opA_add os_add (de_lc (own := [("_law_k", 2)]) rfl sc_law_kinds.nd (di_range1 (by rfl) T.n_range (da_cons (de_callB call_lenA cs_lenD (by rfl) T.n_len bb_len (da_cons (dv 1) da_nil)) da_nil)) (blkOk_by (N := ["_law_e", "_law_some", "_law_k"]) (sc := (defScope s_law_kinds)) (by decide +kernel)) (by decide) (fun _ _ _ _ _ => (dg_name (i := 2) sc_law_kinds.nd rfl (by first | exact Or.inl rfl | exact Or.inr rfl))) (fun _ _ _ _ _ => (dts_one (dt_val (de_ix ix_seq os_ix (dv 1) (dv 2) (fun _ _ => rfl))))) (fun _ _ _ _ _ => (dv 2))) (de_op opA_mul os_mul (de_lst (da_cons de_int da_nil)) (de_callTy call_int1 cs_int (by rfl) T.n_int bt_int (da_cons (de_not (de_callB call_isK (cs_isK (K := K) (D := fun _ => True)) (by rfl) T.n_isinstance bb_isinstance (da_cons (dv 0) (da_cons (de_ty T.n_ValueError bt_ValueError) da_nil)))) da_nil)))))))))))) ?_
  rintro es μ q x - ⟨rfl, h⟩
  ((try walk_at "dx15"); repeat (walk_at "one" <;> (try walk_at "dx15")))
  (try walk_at "ok")
  (try walk_at "dx15")
  refine lc_rngF (p := fun a => ([false, false, false, false, false, false, false, false, false, true, false, false, false, false, false, false, false, false][a]?).getD false) (f := ?f) (by decide) trivial (fun a K K' ha hK => ?e) ?_
  case e =>
    (try walk_at "dx15")
    refine ⟨_, (kl_at [false, false, false, false, false, false, false, false, false, true, false, false, false, false, false, false, false, false] a ha), ?_⟩
    (try walk_at "dx15")
    exact hK
  rw [show (List.range 18).filter (fun a => ([false, false, false, false, false, false, false, false, false, true, false, false, false, false, false, false, false, false][a]?).getD false) = [9] from by decide]
  (try walk_at "dx15")
  exact h
local macro_rules | `(tactic| walk_at "dx16") => `(tactic| simp (disch := first | assumption | omega) only [List.map_cons, List.map_nil, ↓exitQ_dat, startD, List.length_cons, List.length_nil, Nat.zero_add, Nat.reduceAdd, Nat.reduceSub, List.replicate.eq_2, List.replicate, List.cons_append, List.nil_append, ↓x_dStl, ↓x_dLst, ↓x_aCons, ↓x_dFrz, ↓x_dCB, ↓dVar_0, ↓old_exc, ↓x_dRaw, ↓x_aNil, ↓wDs_cons, ↓wDs_nil, nle_h, ↓stl_new, ↓nN_dat, List.set_cons_succ, List.set_cons_zero, true_and, kd_NoBytes_NoSize, ↓wD_dat, kd_NoBytes_NoTurn, kd_NoBytes_NoTie, kd_NoBytes_NoDrawing, ↓x_dOp, ↓dVar_1, ↓old_dat, ↓add_ln, kd_NoBytes_NoOrder, kd_NoBytes_NoWeight, kd_NoBytes_NoPart, kd_NoBytes_NoSpot, ↓kd_NoBytes_NoBytes, kd_NoBytes_NoWord, kd_NoBytes_TooMany, kd_NoBytes_NoDeed, kd_NoBytes_OnShut, kd_NoBytes_Overlap, kd_NoBytes_OffFloor, kd_NoBytes_NoText, kd_NoBytes_NoWay, kd_NoBytes_TooNear, ↓x_lc, ↓x_iRange1, ↓lnD_lst, ↓rng1_i, ile_h, and_true, ↓x_dC, ↓x_dNotV, ↓int_b, ↓mul_ni, kd_NoBytes_ValueError, ↓wB_b, Bool.not_true, Bool.false_eq_true, if_false, Int.reduceToNat, List.replicate.eq_1, List.flatten_nil, Int.toNat_natCast, ↓x_gNm, ↓x_tVal, wipeD, dVar_2, dVar_1, ↓ix_lstD, at_nn, ↓tk_0, ↓add_nn, ↓exitQ_new, List.append_nil, ↓x_dCall, ↓stl_dat, ↓aO_cons, ↓aO_nil, Bool.and_true, ↓e_cells_from, ↓dVar_2, ↓x_oNotN, isRaw, DL.isNon, ↓dVar_4, ↓dVar_3, ↓stl_exc, ↓nN_exc, Bool.not_false, if_true, ↓old_loc, ↓stl_loc, ↓nN_loc])
local macro_rules | `(tactic| walk_at "dx17") => `(tactic| simp (disch := first | assumption | omega) only [List.map_cons, List.map_nil, ↓exitQ_dat, startD, List.length_cons, List.length_nil, Nat.zero_add, Nat.reduceAdd, Nat.reduceSub, List.replicate.eq_2, List.replicate, List.cons_append, List.nil_append, ↓x_dStl, ↓x_dLst, ↓x_aCons, ↓x_dFrz, ↓x_dCB, ↓dVar_0, ↓old_exc, ↓x_dRaw, ↓x_aNil, ↓wDs_cons, ↓wDs_nil, nle_h, ↓stl_new, ↓nN_dat, List.set_cons_succ, List.set_cons_zero, true_and, kd_NoBytes_NoSize, ↓wD_dat, kd_NoBytes_NoTurn, kd_NoBytes_NoTie, kd_NoBytes_NoDrawing, ↓x_dOp, ↓dVar_1, ↓old_dat, ↓add_ln, kd_NoBytes_NoOrder, kd_NoBytes_NoWeight, kd_NoBytes_NoPart, kd_NoBytes_NoSpot, ↓kd_NoBytes_NoBytes, kd_NoBytes_NoWord, kd_NoBytes_TooMany, kd_NoBytes_NoDeed, kd_NoBytes_OnShut, kd_NoBytes_Overlap, kd_NoBytes_OffFloor, kd_NoBytes_NoText, kd_NoBytes_NoWay, kd_NoBytes_TooNear, ↓x_lc, ↓x_iRange1, ↓lnD_lst, ↓rng1_i, ile_h, and_true, ↓x_dC, ↓x_dNotV, ↓int_b, ↓mul_ni, kd_NoBytes_ValueError, ↓wB_b, Bool.not_true, Bool.false_eq_true, if_false, Int.reduceToNat, List.replicate.eq_1, List.flatten_nil, Int.toNat_natCast, ↓x_gNm, ↓x_tVal, wipeD, dVar_2, dVar_1, ↓ix_lstD, at_nn, ↓tk_0, ↓add_nn, ↓exitQ_new, List.append_nil, ↓x_dCall, ↓stl_dat, ↓aO_cons, ↓aO_nil, Bool.and_true, ↓e_cells_from, ↓dVar_2, ↓x_oNotN, isRaw, DL.isNon, ↓dVar_4, ↓dVar_3, ↓stl_exc, ↓nN_exc, Bool.not_false, if_true, ↓e_law_kinds, ↓old_loc, ↓stl_loc, ↓nN_loc])
def ansD (o : Option Cs) : List PyData := match o with
  | some c => [csD c, .list []]
  | none => [.none, .list [.int 9]]
def sp_law_tried (T : Top K mg) : SpD := fun es μ q x => ∃ (e : EV), es = [e] ∧ (∃ d, Thing μ e d ∧ (∀ xs, d = .list xs → xs.length ≤ 100) ∧ ∀ o, Tells d o → q (.new (ansD o)) μ)
theorem e_law_tried (T : Top K mg) {e : EV} {μ : Mu} {q : PQ} {x : XQ} : sp_law_tried T [e] μ q x = (∃ d, Thing μ e d ∧ (∀ xs, d = .list xs → xs.length ≤ 100) ∧ ∀ o, Tells d o → q (.new (ansD o)) μ) := by
  refine propext ⟨fun hyp0 => ?_, fun hyp0 => ⟨e, rfl, hyp0⟩⟩
  obtain ⟨e', eq0, hyp0⟩ := hyp0
  simp only [List.cons.injEq, Exn.mk.injEq, EV.at.injEq, eq_self, EV.dat.injEq, EV.loc.injEq, EV.new.injEq, EV.ro.injEq, EV.exc.injEq, EV.per.injEq, PyData.int.injEq, PyData.str.injEq, PyData.bool.injEq, PyData.list.injEq, PyData.tuple.injEq, and_true, true_and, and_assoc, map_int_inj, ] at eq0
  subst eq0
  exact hyp0
theorem ok_law_tried (T : Top K mg) : DefAt P w K mg base "_law_tried" 5 ["_law_thing"] [] [] (sp_law_tried T) := by
  refine def_ok (sp_law_tried T) T.F_law_tried sc_law_tried T.m_law_tried T.b_law_tried (fun cdv A outer s H E hr tk pw => (dss_cons (ds_set (i := 1) sc_law_tried.nd rfl (by first | exact Or.inl rfl | exact Or.inr rfl) de_non)
    (dss_cons (ds_set (i := 2) sc_law_tried.nd rfl (by first | exact Or.inl rfl | exact Or.inr rfl) de_non)
    (dss_cons (ds_tryK (K := K) rfl (i := 3) rfl rfl sc_law_tried.nd rfl rfl ⟨by rfl, by decide, .inl T.gx_BoardError⟩ tk (fun W pn xe tk po => (dsx_set (i := 1) sc_law_tried.nd rfl (by first | exact Or.inl rfl | exact Or.inr rfl) (de_stl (de_call (ok_cells_from T) hr (by decide) (by rfl) tk (fun _ _ => .nil) (da_cons (de_stl (dv 0)) da_nil))))) (fun a pn => (dss_one (ds_set (i := 2) sc_law_tried.nd rfl (by first | exact Or.inl rfl | exact Or.inr rfl) (de_stl (dv 3))))))
    (dss_cons (ds_set (i := 4) sc_law_tried.nd rfl (by first | exact Or.inl rfl | exact Or.inr rfl) (de_stl (de_lst da_nil)))
    (dss_cons (ds_if (dt_cmp op_notN os_notN (dv 2) de_non (nomark _)) (dss_one (ds_set (i := 4) sc_law_tried.nd rfl (by first | exact Or.inl rfl | exact Or.inr rfl) (de_stl (de_call (ok_law_kinds T) hr (by decide) (by rfl) tk (fun _ _ => .nil) (da_cons (de_stl (dv 2)) da_nil))))) dss_nil)
    (dss_one (ds_ret (de_lst (da_cons (de_frz (dv 1)) (da_cons (de_frz (dv 4)) da_nil))))))))))) ?_
  rintro es μ q x - ⟨e, rfl, d, ht, hz, k⟩
  cases ht with
  | dat =>
    ((try walk_at "dx17"); repeat (walk_at "one" <;> (try walk_at "dx17")))
    refine ⟨_, .dat _, hz, fun c hc => ?_, fun hn => ?_⟩
    · have := k _ hc
      ((try walk_at "dx17"); repeat (walk_at "one" <;> (try walk_at "dx17")))
      exact this
    · refine ⟨true, em_NoBytes_BoardError T, fun _ => ?_, fun z => by cases z⟩
      have := k _ hn
      ((try walk_at "dx17"); repeat (walk_at "one" <;> (try walk_at "dx17")))
      exact this
  | loc hm =>
    ((try walk_at "dx17"); repeat (walk_at "one" <;> (try walk_at "dx17")))
    refine ⟨_, .loc hm, hz, fun c hc => ?_, fun hn => ?_⟩
    · have := k _ hc
      ((try walk_at "dx17"); repeat (walk_at "one" <;> (try walk_at "dx17")))
      exact this
    · refine ⟨true, em_NoBytes_BoardError T, fun _ => ?_, fun z => by cases z⟩
      have := k _ hn
      ((try walk_at "dx17"); repeat (walk_at "one" <;> (try walk_at "dx17")))
      exact this
local macro_rules | `(tactic| walk_at "dx18") => `(tactic| simp (disch := first | assumption | omega) only [List.map_cons, List.map_nil, ↓exitQ_dat, startD, List.length_cons, List.length_nil, Nat.zero_add, Nat.reduceAdd, Nat.reduceSub, List.replicate.eq_2, List.replicate, List.cons_append, List.nil_append, ↓x_dStl, ↓x_dLst, ↓x_aCons, ↓x_dFrz, ↓x_dCB, ↓dVar_0, ↓old_exc, ↓x_dRaw, ↓x_aNil, ↓wDs_cons, ↓wDs_nil, nle_h, ↓stl_new, ↓nN_dat, List.set_cons_succ, List.set_cons_zero, true_and, kd_NoBytes_NoSize, ↓wD_dat, kd_NoBytes_NoTurn, kd_NoBytes_NoTie, kd_NoBytes_NoDrawing, ↓x_dOp, ↓dVar_1, ↓old_dat, ↓add_ln, kd_NoBytes_NoOrder, kd_NoBytes_NoWeight, kd_NoBytes_NoPart, kd_NoBytes_NoSpot, ↓kd_NoBytes_NoBytes, kd_NoBytes_NoWord, kd_NoBytes_TooMany, kd_NoBytes_NoDeed, kd_NoBytes_OnShut, kd_NoBytes_Overlap, kd_NoBytes_OffFloor, kd_NoBytes_NoText, kd_NoBytes_NoWay, kd_NoBytes_TooNear, ↓x_lc, ↓x_iRange1, ↓lnD_lst, ↓rng1_i, ile_h, and_true, ↓x_dC, ↓x_dNotV, ↓int_b, ↓mul_ni, kd_NoBytes_ValueError, ↓wB_b, Bool.not_true, Bool.false_eq_true, if_false, Int.reduceToNat, List.replicate.eq_1, List.flatten_nil, Int.toNat_natCast, ↓x_gNm, ↓x_tVal, wipeD, dVar_2, dVar_1, ↓ix_lstD, at_nn, ↓tk_0, ↓add_nn, ↓exitQ_new, List.append_nil, ↓x_dCall, ↓stl_dat, ↓aO_cons, ↓aO_nil, Bool.and_true, ↓e_cells_from, ↓dVar_2, ↓x_oNotN, isRaw, DL.isNon, ↓dVar_4, ↓dVar_3, ↓stl_exc, ↓nN_exc, Bool.not_false, if_true, ↓e_law_kinds, ↓old_loc, ↓stl_loc, ↓nN_loc])
local macro_rules | `(tactic| walk_at "dx19") => `(tactic| simp (disch := first | assumption | omega) only [oDiv, oMod, ↓exitQ_dat, startD, List.map_cons, List.map_nil, List.length_cons, List.length_nil, Nat.zero_add, Nat.reduceAdd, Nat.reduceSub, List.replicate.eq_2, List.replicate, List.cons_append, List.nil_append, ↓x_dC, ↓nN_dat, List.set_cons_succ, List.set_cons_zero, true_and, ↓x_iRange1, ↓x_aCons, ↓x_dCB, ↓dVar_0, ↓old_dat, ↓x_aNil, ↓lnD_lst, ↓rng1_i, List.length_map, ile_h, and_true, Int.toNat_natCast, ↓x_gNm, ↓fg_cons, ↓fg_nil, ↓x_dStl, ↓x_dOp, ↓dVar_1, ↓dVar_2, ↓add_int, ↓ix_lstD, at_nn, cl_dat, ↓mul_int, cmul_l, ↓stl_dat, ↓cl_dat, ↓cl_none, ↓cl_nil, ↓tk_0, ↓x_dLst, ↓x_dFrz, ↓oI_ii, ilt_h, cdiv_h, ↓wD_dat, ↓wDs_cons, ↓wDs_nil, nle_h, ↓exitQ_new, ↓old_loc, ↓c_lenD, ↓lnC_l, ↓c_len, ↓lcR_l, ↓c_ix, cl_loc, ↓ix_tupD, Int.reduceToNat, List.getElem?_cons_zero, Option.some.injEq, ↓stl_new, exists_eq_left', List.getElem?_cons_succ, ↓x_iSeqD, ↓x_dSl, ↓x_oSome, ↓intK_i, ↓x_oNo, ↓sl_tupD, ↓seqDK_t, ↓dVar_3, ↓add_ln, cl_none, ↓x_dCall, ↓aO_cons, ↓aO_nil, Bool.and_true, List.append_nil, oSub, oShlA, oAnd, oOr, ↓x_dTup, ↓x_dCell, ↓cel_loc, ↓nN_loc, nextA_eq, isR_h, csh_h, ↓oI0_ii, ↓cel_new, List.length_append, isR_app, ↓x_lc, wipeD, dVar_2, dVar_0, ↓nextA_eq, ↓tk_a1, ↓wD_new, ↓x_tVal, ↓dVar_5, ↓eq_dd, ↓noD_i, dep_int, ↓wB_b, eqv_int, decide_eq_true_eq, ↓dVar_6, ↓seqDK_l, dVar_9, ↓x_dBM, ↓c_isL, ↓get_a0, lcR_l, ↓x_oTuple, ↓sqK_lst, ↓c_app, ↓set_a0, tk_a1, lcK_l, nlt_h, dVar_8, dVar_3, ↓sqK_new, ↓dVar_7, ↓tk_a0])
theorem band {a b : Nat} : Builtin.bitAnd (a : Int) (b : Int) = ((a &&& b : Nat) : Int) := by
  rw [PyProof.Rows.bitAnd_pp (Int.natCast_nonneg _) (Int.natCast_nonneg _)]
  simp
theorem bor {a b : Nat} : Builtin.bitOr (a : Int) (b : Int) = ((a ||| b : Nat) : Int) := by
  have e : Builtin.bitOr (a : Int) (b : Int) = Builtin.bitNot (Builtin.bitAnd (Builtin.bitNot a) (Builtin.bitNot b)) := rfl
  rw [e, PyProof.Rows.bitAnd_nn (by unfold Builtin.bitNot; omega) (by unfold Builtin.bitNot; omega), PyProof.Rows.bitNot_bitNot, PyProof.Rows.bitNot_bitNot, PyProof.Rows.bitNot_bitNot]
  simp
def sp_law_sum : SpD := fun es μ q x => ∃ (e : EV), es = [e] ∧ (∃ ns : List Int, Thing μ e (.list (ns.map .int)) ∧ ns.length ≤ 100 ∧ q (.new ((sumL ns).map .int)) μ)
theorem e_law_sum {e : EV} {μ : Mu} {q : PQ} {x : XQ} : sp_law_sum [e] μ q x = (∃ ns : List Int, Thing μ e (.list (ns.map .int)) ∧ ns.length ≤ 100 ∧ q (.new ((sumL ns).map .int)) μ) := by
  refine propext ⟨fun hyp0 => ?_, fun hyp0 => ⟨e, rfl, hyp0⟩⟩
  obtain ⟨e', eq0, hyp0⟩ := hyp0
  simp only [List.cons.injEq, Exn.mk.injEq, EV.at.injEq, eq_self, EV.dat.injEq, EV.loc.injEq, EV.new.injEq, EV.ro.injEq, EV.exc.injEq, EV.per.injEq, PyData.int.injEq, PyData.str.injEq, PyData.bool.injEq, PyData.list.injEq, PyData.tuple.injEq, and_true, true_and, and_assoc, map_int_inj, ] at eq0
  subst eq0
  exact hyp0
theorem ok_law_sum (T : Top K mg) : DefAt P w K mg base "_law_sum" 1 ["_law_numbers_here"] [] [] sp_law_sum := by
  refine def_ok sp_law_sum T.F_law_sum sc_law_sum T.m_law_sum T.b_law_sum (fun cdv A outer s H E hr tk pw => (dss_cons (ds_set (i := 1) sc_law_sum.nd rfl (by first | exact Or.inl rfl | exact Or.inr rfl) de_int)
    (dss_cons (ds_forF [2] pw rfl (di_range1 (by rfl) T.n_range (da_cons (de_callB call_lenA cs_lenD (by rfl) T.n_len bb_len (da_cons (dv 0) da_nil)) da_nil)) (dg_name (i := 2) sc_law_sum.nd rfl (by first | exact Or.inl rfl | exact Or.inr rfl)) (dss_one (ds_set (i := 1) sc_law_sum.nd rfl (by first | exact Or.inl rfl | exact Or.inr rfl) (de_stl (de_op opA_add os_add (dv 1) (de_op opA_mul os_mul (de_op opA_add os_add (dv 2) de_int) (de_ix ix_seq os_ix (dv 0) (dv 2) (fun _ _ => rfl))))))))
    (dss_one (ds_ret (de_lst (da_cons (de_frz (de_op op_fdiv os_div (de_op op_mod os_mod (dv 1) de_int) de_int)) (da_cons (de_frz (de_op op_mod os_mod (de_op op_mod os_mod (dv 1) de_int) de_int)) da_nil)))))))) ?_
  rintro es μ q x - ⟨e, rfl, ns, ht, hl, h⟩
  cases ht with
  | dat =>
    ((try walk_at "dx19"); repeat (walk_at "one" <;> (try walk_at "dx19")))
    refine for_stR (fun i (t : Int) => t = wsum 1 (ns.take i)) (fun η t => η.set 1 (some (.dat (.int t)))) (fun μ _ => μ) 0 rfl rfl rfl (fun _ => trivial) ?_ ?_
    · rintro i t J hi rfl hJ
      have hi' : i < ns.length := by simpa using hi
      have hp : ns[i]? = some (gg ns i) := by unfold gg; rw [List.getElem?_eq_getElem hi']; rfl
      ((try walk_at "dx19"); repeat (walk_at "one" <;> (try walk_at "dx19")))
      refine ⟨_, gg_at hi' (by omega), ?_⟩
      have e := wsum_take hp
      rw [show (1 + (i : Int)) = 0 + (i : Int) + 1 by omega] at e
      ((try walk_at "dx19"); repeat (walk_at "one" <;> (try walk_at "dx19")))
      (have j := hJ _ e.symm; simp only [List.range_succ, List.map_append, List.map_cons, List.map_nil, fg_cons, fg_nil, List.set_cons_succ, List.set_cons_zero] at j; exact j)
    · rintro t ht
      rw [List.take_length] at ht
      subst ht
      ((try walk_at "dx19"); repeat (walk_at "one" <;> (try walk_at "dx19")))
      exact h
  | @loc m xs hn =>
    have hm := (List.getElem?_eq_some_iff.mp hn).1
    ((try walk_at "dx19"); repeat (walk_at "one" <;> (try walk_at "dx19")))
    (repeat (rw [hn]; ((try walk_at "dx19"); repeat (walk_at "one" <;> (try walk_at "dx19")))))
    refine for_stR (fun i (t : Int) => t = wsum 1 (ns.take i)) (fun η t => η.set 1 (some (.dat (.int t)))) (fun μ _ => μ) 0 rfl rfl rfl (fun _ => trivial) ?_ ?_
    · rintro i t J hi rfl hJ
      have hi' : i < ns.length := by simpa using hi
      have hp : ns[i]? = some (gg ns i) := by unfold gg; rw [List.getElem?_eq_getElem hi']; rfl
      ((try walk_at "dx19"); repeat (walk_at "one" <;> (try walk_at "dx19")))
      (repeat (rw [hn]; ((try walk_at "dx19"); repeat (walk_at "one" <;> (try walk_at "dx19")))))
      refine ⟨_, gg_at hi' (by omega), ?_⟩
      have e := wsum_take hp
      rw [show (1 + (i : Int)) = 0 + (i : Int) + 1 by omega] at e
      ((try walk_at "dx19"); repeat (walk_at "one" <;> (try walk_at "dx19")))
      (have j := hJ _ e.symm; simp only [List.range_succ, List.map_append, List.map_cons, List.map_nil, fg_cons, fg_nil, List.set_cons_succ, List.set_cons_zero] at j; exact j)
    · rintro t ht
      rw [List.take_length] at ht
      subst ht
      ((try walk_at "dx19"); repeat (walk_at "one" <;> (try walk_at "dx19")))
      exact h
local macro_rules | `(tactic| walk_at "dx20") => `(tactic| simp (disch := first | assumption | omega) only [oDiv, oMod, ↓exitQ_dat, startD, List.map_cons, List.map_nil, List.length_cons, List.length_nil, Nat.zero_add, Nat.reduceAdd, Nat.reduceSub, List.replicate.eq_2, List.replicate, List.cons_append, List.nil_append, ↓x_dC, ↓nN_dat, List.set_cons_succ, List.set_cons_zero, true_and, ↓x_iRange1, ↓x_aCons, ↓x_dCB, ↓dVar_0, ↓old_dat, ↓x_aNil, ↓lnD_lst, ↓rng1_i, List.length_map, ile_h, and_true, Int.toNat_natCast, ↓x_gNm, ↓fg_cons, ↓fg_nil, ↓x_dStl, ↓x_dOp, ↓dVar_1, ↓dVar_2, ↓add_int, ↓ix_lstD, at_nn, cl_dat, ↓mul_int, cmul_l, ↓stl_dat, ↓cl_dat, ↓cl_none, ↓cl_nil, ↓tk_0, ↓x_dLst, ↓x_dFrz, ↓oI_ii, ilt_h, cdiv_h, ↓wD_dat, ↓wDs_cons, ↓wDs_nil, nle_h, ↓exitQ_new, ↓old_loc, ↓c_lenD, ↓lnC_l, ↓c_len, ↓lcR_l, ↓c_ix, cl_loc, ↓ix_tupD, Int.reduceToNat, List.getElem?_cons_zero, Option.some.injEq, ↓stl_new, exists_eq_left', List.getElem?_cons_succ, ↓x_iSeqD, ↓x_dSl, ↓x_oSome, ↓intK_i, ↓x_oNo, ↓sl_tupD, ↓seqDK_t, ↓dVar_3, ↓add_ln, cl_none, ↓x_dCall, ↓aO_cons, ↓aO_nil, Bool.and_true, List.append_nil, ↓e_law_sum, oSub, oShlA, oAnd, oOr, ↓x_dTup, ↓x_dCell, ↓cel_loc, ↓nN_loc, nextA_eq, isR_h, csh_h, ↓oI0_ii, ↓cel_new, List.length_append, isR_app, ↓x_lc, wipeD, dVar_2, dVar_0, ↓nextA_eq, ↓tk_a1, ↓wD_new, ↓x_tVal, ↓dVar_5, ↓eq_dd, ↓noD_i, dep_int, ↓wB_b, eqv_int, decide_eq_true_eq, ↓dVar_6, ↓seqDK_l, dVar_9, ↓x_dBM, ↓c_isL, ↓get_a0, lcR_l, ↓x_oTuple, ↓sqK_lst, ↓c_app, ↓set_a0, tk_a1, lcK_l, nlt_h, dVar_8, dVar_3, ↓sqK_new, ↓dVar_7, ↓tk_a0])
def sp_law_numbers : SpD := fun es μ q x => ∃ (c : Cs), es = [.dat (csD c)] ∧ ((c.2.1.length ≤ 10 ∧ c.2.2.1.length ≤ 10 ∧ c.2.2.2.length ≤ 10) ∧ q (.new ((numsOf c).map .int)) μ)
theorem e_law_numbers {c : Cs} {μ : Mu} {q : PQ} {x : XQ} : sp_law_numbers [.dat (csD c)] μ q x = ((c.2.1.length ≤ 10 ∧ c.2.2.1.length ≤ 10 ∧ c.2.2.2.length ≤ 10) ∧ q (.new ((numsOf c).map .int)) μ) := by
  refine propext ⟨fun hyp0 => ?_, fun hyp0 => ⟨c, rfl, hyp0⟩⟩
  obtain ⟨c', eq0, hyp0⟩ := hyp0
  simp only [List.cons.injEq, Exn.mk.injEq, EV.at.injEq, eq_self, EV.dat.injEq, EV.loc.injEq, EV.new.injEq, EV.ro.injEq, EV.exc.injEq, EV.per.injEq, PyData.int.injEq, PyData.str.injEq, PyData.bool.injEq, PyData.list.injEq, PyData.tuple.injEq, and_true, true_and, and_assoc, map_int_inj, csD_inj] at eq0
  subst eq0
  exact hyp0
theorem ok_law_numbers (T : Top K mg) : DefAt P w K mg base "_law_numbers" 2 ["_law_cells_here"] [] [] sp_law_numbers := by
  refine def_ok sp_law_numbers T.F_law_numbers sc_law_numbers T.m_law_numbers T.b_law_numbers (fun cdv A outer s H E hr tk pw => (dss_cons (ds_set (i := 1) sc_law_numbers.nd rfl (by first | exact Or.inl rfl | exact Or.inr rfl) (de_stl (de_lst (da_cons (de_frz (de_ix ix_seq os_ix (de_ix ix_seq os_ix (dv 0) de_int (fun _ _ => rfl)) de_int (fun _ _ => rfl))) (da_cons (de_frz (de_ix ix_seq os_ix (de_ix ix_seq os_ix (dv 0) de_int (fun _ _ => rfl)) de_int (fun _ _ => rfl))) da_nil)))))
    (dss_cons (ds_forF [0, 2, 3] pw rfl (di_seqD (de_slice slA os_sl (dv 0) (do_some de_int) do_none)) (dg_name (i := 2) sc_law_numbers.nd rfl (by first | exact Or.inl rfl | exact Or.inr rfl)) (dss_one (ds_forF [0, 2, 3] pw rfl (di_seqD (dv 2)) (dg_name (i := 3) sc_law_numbers.nd rfl (by first | exact Or.inl rfl | exact Or.inr rfl)) (dss_one (ds_set (i := 1) sc_law_numbers.nd rfl (by first | exact Or.inl rfl | exact Or.inr rfl) (de_stl (de_op opA_add os_add (dv 1) (de_lst (da_cons (de_frz (de_op op_mod os_mod (dv 3) de_int)) (da_cons (de_frz (de_op op_fdiv os_div (dv 3) de_int)) da_nil))))))))))
    (dss_one (ds_ret (de_op opA_add os_add (dv 1) (de_call (ok_law_sum T) hr (by decide) (by rfl) tk (fun _ _ => .nil) (da_cons (de_stl (dv 1)) da_nil)))))))) ?_
  rintro es μ q x - ⟨c, rfl, hl, h⟩
  rw [csD_eq]
  ((try walk_at "dx20"); repeat (walk_at "one" <;> (try walk_at "dx20")))
  rw [show (cutD [PyData.tuple [PyData.int c.1.1, PyData.int c.1.2], PyData.tuple (List.map PyData.int c.2.1), PyData.tuple (List.map PyData.int c.2.2.1), PyData.tuple (List.map PyData.int c.2.2.2)] (some 1) none) = [c.2.1, c.2.2.1, c.2.2.2].map (fun s => PyData.tuple (s.map .int)) from rfl]
  refine for_stD (fun i (xs : List Int) => xs = [c.1.1, c.1.2] ++ two (([c.2.1, c.2.2.1, c.2.2.2].take i).flatten) ∧ xs.length ≤ 2 + 20 * i) (fun η xs => η.set 1 (some (.dat (.list (xs.map .int))))) (fun _ _ => μ) [c.1.1, c.1.2] rfl rfl ⟨rfl, by simp⟩ (fun _ => trivial) ?_ ?_
  · rintro i s xs J hi ⟨hx, hxl⟩ hJ
    have hi3 : i < 3 := get_lt hi
    have hs : s.length ≤ 10 := by
      have hm := List.mem_of_getElem? hi
      simp only [List.mem_cons, List.not_mem_nil, or_false] at hm
      rcases hm with rfl | rfl | rfl
      · exact hl.1
      · exact hl.2.1
      · exact hl.2.2
    ((try walk_at "dx20"); repeat (walk_at "one" <;> (try walk_at "dx20")))
    refine for_stD (fun j (ys : List Int) => ys = xs ++ two (s.take j) ∧ ys.length = xs.length + 2 * j) (fun η ys => η.set 1 (some (.dat (.list (ys.map .int))))) (fun _ _ => μ) xs rfl rfl ⟨by simp [two], rfl⟩ (fun _ => trivial) ?_ ?_
    · rintro j r ys J2 hj ⟨hy, hyl⟩ hJ2
      have hj' := get_lt hj
      have hy2 : (ys ++ [r % 256, r / 256]) = xs ++ two (s.take (j + 1)) := by rw [two_take hj, hy, List.append_assoc]
      ((try walk_at "dx20"); repeat (walk_at "one" <;> (try walk_at "dx20")))
      (have j := hJ2 (ys ++ [r % 256, r / 256]) ⟨hy2, by simp; omega⟩; simp only [List.range_succ, List.map_append, List.map_cons, List.map_nil, fg_cons, fg_nil, List.set_cons_succ, List.set_cons_zero] at j; exact j)
    · rintro ys ⟨hy, hyl⟩
      rw [List.take_length] at hy
      have hx2 : ys = [c.1.1, c.1.2] ++ two (([c.2.1, c.2.2.1, c.2.2.2].take (i + 1)).flatten) := by rw [flat_take hi, two_app, hy, hx, List.append_assoc]
      ((try walk_at "dx20"); repeat (walk_at "one" <;> (try walk_at "dx20")))
      (have j := hJ ys ⟨hx2, by omega⟩; simp only [List.range_succ, List.map_append, List.map_cons, List.map_nil, fg_cons, fg_nil, List.set_cons_succ, List.set_cons_zero] at j; exact j)
  · rintro xs ⟨hx, hxl⟩
    have hxl' : xs.length ≤ 62 := hxl
    have he : xs = encN c := by rw [hx]; simp [encN]
    ((try walk_at "dx20"); repeat (walk_at "one" <;> (try walk_at "dx20")))
    refine ⟨xs, .dat _, by omega, by simp [sumL]; omega, ?_⟩
    rw [he, ← List.map_append]
    exact h
local macro_rules | `(tactic| walk_at "dx21") => `(tactic| simp (disch := first | assumption | omega) only [oDiv, oMod, ↓exitQ_dat, startD, List.map_cons, List.map_nil, List.length_cons, List.length_nil, Nat.zero_add, Nat.reduceAdd, Nat.reduceSub, List.replicate.eq_2, List.replicate, List.cons_append, List.nil_append, ↓x_dC, ↓nN_dat, List.set_cons_succ, List.set_cons_zero, true_and, ↓x_iRange1, ↓x_aCons, ↓x_dCB, ↓dVar_0, ↓old_dat, ↓x_aNil, ↓lnD_lst, ↓rng1_i, List.length_map, ile_h, and_true, Int.toNat_natCast, ↓x_gNm, ↓fg_cons, ↓fg_nil, ↓x_dStl, ↓x_dOp, ↓dVar_1, ↓dVar_2, ↓add_int, ↓ix_lstD, at_nn, cl_dat, ↓mul_int, cmul_l, ↓stl_dat, ↓cl_dat, ↓cl_none, ↓cl_nil, ↓tk_0, ↓x_dLst, ↓x_dFrz, ↓oI_ii, ilt_h, cdiv_h, ↓wD_dat, ↓wDs_cons, ↓wDs_nil, nle_h, ↓exitQ_new, ↓old_loc, ↓c_lenD, ↓lnC_l, ↓c_len, ↓lcR_l, ↓c_ix, cl_loc, ↓ix_tupD, Int.reduceToNat, List.getElem?_cons_zero, Option.some.injEq, ↓stl_new, exists_eq_left', List.getElem?_cons_succ, ↓x_iSeqD, ↓x_dSl, ↓x_oSome, ↓intK_i, ↓x_oNo, ↓sl_tupD, ↓seqDK_t, ↓dVar_3, ↓add_ln, cl_none, ↓x_dCall, ↓aO_cons, ↓aO_nil, Bool.and_true, List.append_nil, ↓e_law_sum, oSub, oShlA, oAnd, oOr, ↓x_dTup, ↓x_dCell, ↓cel_loc, ↓nN_loc, nextA_eq, isR_h, csh_h, ↓oI0_ii, ↓cel_new, List.length_append, isR_app, ↓x_lc, wipeD, dVar_2, dVar_0, ↓nextA_eq, ↓tk_a1, ↓wD_new, ↓x_tVal, ↓dVar_5, ↓eq_dd, ↓noD_i, dep_int, ↓wB_b, eqv_int, decide_eq_true_eq, ↓dVar_6, ↓seqDK_l, dVar_9, ↓x_dBM, ↓c_isL, ↓get_a0, lcR_l, ↓x_oTuple, ↓sqK_lst, ↓c_app, ↓set_a0, tk_a1, lcK_l, nlt_h, dVar_8, dVar_3, ↓sqK_new, ↓dVar_7, ↓tk_a0])
theorem lc_relL {α β : Type} {en : α → PyData} {en2 : β → PyData} {as : List β} (R : α → Prop) {G : Mu → Prop} {g : TDG} {te : TDE} {vs : List Nat} {η : DEnv} {q : PQ} {μ1 : Mu} (hz : as.length ≤ 100000) (hG : G μ1)
    (hs : ∀ (a : β) (K : PyData → Mu → Prop), a ∈ as → (∀ y, R y → K (en y) μ1) → g (.dat (en2 a)) (wipeD η vs) μ1 fun η2 μ2 => te η2 μ2 (fun ev μ4 => withDat μ4 ev fun d μ5 => K d (μ5.take μ1.length)) EF)
    (hq : ∀ ys : List α, ys.length = as.length → (∀ y ∈ ys, R y) → q (.new (ys.map en)) μ1) : LcG g tYesD te vs η q ((as.map en2).map .dat) G μ1 := by
  rw [List.map_map]
  refine lc_inv (as := as) (h := EV.dat ∘ en2) (fun i acc μ => μ = μ1 ∧ ∃ ys : List α, acc = ys.map en ∧ ys.length = i ∧ ∀ y ∈ ys, R y) hz ⟨rfl, [], rfl, rfl, by simp⟩ ?_ ?_ ?_
  · rintro i acc μ ⟨rfl, ys, rfl, rfl, _⟩
    exact ⟨hG, by rw [List.length_map]; exact Nat.le_refl _⟩
  · rintro i a acc μ ha ⟨rfl, ys, rfl, hl, hR⟩
    exact hs a (fun d μ5 => μ5 = μ ∧ ∃ zs : List α, ys.map en ++ [d] = zs.map en ∧ zs.length = i + 1 ∧ ∀ y ∈ zs, R y) (List.mem_of_getElem? ha) fun y hy => ⟨rfl, ys ++ [y], by simp, by simp [hl], fun z hz => (List.mem_append.mp hz).elim (hR z) fun e => by rw [List.mem_singleton.mp e]; exact hy⟩
  · rintro acc μ ⟨rfl, ys, rfl, hl, hR⟩
    exact hq ys hl hR
def Rw (w : Nat) (r : Int) : Prop := 0 ≤ r ∧ r < 2 ^ w
theorem pow_le {w : Nat} (hw : w ≤ 10) : (2 : Int) ^ w ≤ 1024 := by
  have := Nat.pow_le_pow_right (n := 2) (by decide) hw
  have e : ((2 ^ w : Nat) : Int) ≤ ((2 ^ 10 : Nat) : Int) := Int.ofNat_le.mpr this
  simpa using e
theorem Rw.and {w : Nat} {a b : Int} (h : Rw w a) (k : Rw w b) : Rw w (Builtin.bitAnd a b) := by
  obtain ⟨h1, h2⟩ := h
  rw [show Builtin.bitAnd a b = ((a.toNat &&& b.toNat : Nat) : Int) from PyProof.Rows.bitAnd_pp h1 k.1]
  have := @Nat.and_le_left a.toNat b.toNat
  exact ⟨by omega, by omega⟩
theorem Rw.or {w : Nat} {a b : Int} (h : Rw w a) (k : Rw w b) : Rw w (Builtin.bitOr a b) := by
  obtain ⟨h1, h2⟩ := h
  obtain ⟨k1, k2⟩ := k
  obtain ⟨m, rfl⟩ : ∃ m : Nat, a = m := ⟨a.toNat, by omega⟩
  obtain ⟨n, rfl⟩ : ∃ n : Nat, b = n := ⟨b.toNat, by omega⟩
  have e : (2 : Int) ^ w = ((2 ^ w : Nat) : Int) := by simp
  rw [e] at h2 k2
  unfold Rw
  rw [bor, e]
  have := Nat.or_lt_two_pow (x := m) (y := n) (n := w) (by omega) (by omega)
  exact ⟨by omega, by omega⟩
def Row (w : Nat) (h : Int) (s : List Int) : Prop := (s.length : Int) = h ∧ ∀ r ∈ s, Rw w r
theorem hole0 {x o : Int} (hx : 0 ≤ x) (ho : 0 ≤ o) : Builtin.bitAnd (Builtin.bitAnd x o) (Builtin.bitNot x) = 0 := by
  obtain ⟨m, rfl⟩ : ∃ m : Nat, x = m := ⟨x.toNat, by omega⟩
  obtain ⟨n, rfl⟩ : ∃ n : Nat, o = n := ⟨o.toNat, by omega⟩
  rw [PyProof.Rows.bitAnd_not, band, band]
  have : (m &&& n) &&& m = m &&& n := by rw [Nat.and_comm m n, Nat.and_assoc, Nat.and_self]
  rw [this]
  omega
def bored (h : Nat) (f b o : List Int) : List Int := (List.range h).map fun y => Builtin.bitAnd (Builtin.bitAnd (gg f y) (gg b y)) (gg o y)
theorem gg_get {f : List Int} {y : Nat} (h : y < f.length) : gg f y = f[y] := by
  unfold gg
  rw [List.getElem?_eq_getElem h]
  rfl
theorem ok_cells {w : Nat} {a h : Int} {f b o : List Int} (ha : 3 ≤ a ∧ a ≤ 10) (hh : 3 ≤ h ∧ h ≤ 10) (hw : a.toNat = w) (hf : Row w h f) (hb : Row w h b) (ho : Row w h o) : OkC ((a, h), f, b, bored h.toNat f b o) := by
  obtain ⟨f1, f2⟩ := hf
  obtain ⟨b1, b2⟩ := hb
  obtain ⟨o1, o2⟩ := ho
  have hrow : ∀ r ∈ bored h.toNat f b o, Rw w r := fun r hr => by
    obtain ⟨y, hy, rfl⟩ := List.mem_map.mp hr
    have hy' := List.mem_range.mp hy
    exact ((f2 _ (gg_mem (by omega))).and (b2 _ (gg_mem (by omega)))).and (o2 _ (gg_mem (by omega)))
  refine ⟨ha, hh, f1, b1, by simp [bored]; omega, fun r hr => ?_, fun r hr => ?_⟩
  · show 0 ≤ r ∧ r < 2 ^ a.toNat
    rw [hw]
    rcases List.mem_append.mp hr with hr | hr
    · rcases List.mem_append.mp hr with hr | hr
      · exact f2 r hr
      · exact b2 r hr
    · exact hrow r hr
  · obtain ⟨p, hp, rfl⟩ := List.mem_map.mp hr
    obtain ⟨y, hy, e⟩ := List.mem_iff_getElem.mp hp
    have hy2 : y < h.toNat ∧ y < f.length ∧ y < b.length := by
      rw [List.length_zip] at hy
      simp [bored, andI] at hy
      omega
    rw [← e, List.getElem_zip]
    simp only [bored, andI, List.getElem_map, List.getElem_range, List.getElem_zip]
    rw [gg_get hy2.2.1, gg_get hy2.2.2]
    have x1 := f2 _ (List.getElem_mem hy2.2.1)
    have x2 := b2 _ (List.getElem_mem hy2.2.2)
    have x3 := o2 _ (gg_mem (ns := o) (i := y) (by omega))
    exact hole0 (x1.and x2).1 x3.1
def sp_law_cells : SpD := fun es μ q x => ∃ (n : Nat), es = [.loc n] ∧ (isR μ n ∧ ∀ c : Cs, OkC c → q (.dat (csD c)) μ)
theorem e_law_cells {n : Nat} {μ : Mu} {q : PQ} {x : XQ} : sp_law_cells [.loc n] μ q x = (isR μ n ∧ ∀ c : Cs, OkC c → q (.dat (csD c)) μ) := by
  refine propext ⟨fun hyp0 => ?_, fun hyp0 => ⟨n, rfl, hyp0⟩⟩
  obtain ⟨n', eq0, hyp0⟩ := hyp0
  simp only [List.cons.injEq, Exn.mk.injEq, EV.at.injEq, eq_self, EV.dat.injEq, EV.loc.injEq, EV.new.injEq, EV.ro.injEq, EV.exc.injEq, EV.per.injEq, PyData.int.injEq, PyData.str.injEq, PyData.bool.injEq, PyData.list.injEq, PyData.tuple.injEq, and_true, true_and, and_assoc, map_int_inj, ] at eq0
  subst eq0
  exact hyp0
theorem ok_law_cells (T : Top K mg) : DefAt P w K mg base "_law_cells" 2 ["_law_state_here"] [] [] sp_law_cells := by
  refine def_ok sp_law_cells T.F_law_cells sc_law_cells T.m_law_cells T.b_law_cells (fun cdv A outer s H E hr tk pw => (dss_cons (ds_set (i := 1) sc_law_cells.nd rfl (by first | exact Or.inl rfl | exact Or.inr rfl) (de_stl (de_tup (da_cons (de_frz (de_op opA_add os_add de_int (de_call (ok_law_next T) hr (by decide) (by rfl) tk (fun _ _ => .nil) (da_cons (de_cell (dv 0)) (da_cons de_int da_nil))))) (da_cons (de_frz (de_op opA_add os_add de_int (de_call (ok_law_next T) hr (by decide) (by rfl) tk (fun _ _ => .nil) (da_cons (de_cell (dv 0)) (da_cons de_int da_nil))))) da_nil)))))
    (dss_cons (ds_set (i := 2) sc_law_cells.nd rfl (by first | exact Or.inl rfl | exact Or.inr rfl) (de_stl (de_op op_sub os_sub (de_op opA_shl os_shlA de_int (de_ix ix_seq os_ix (dv 1) de_int (fun _ _ => rfl))) de_int)))
    (dss_cons (ds_set (i := 3) sc_law_cells.nd rfl (by first | exact Or.inl rfl | exact Or.inr rfl) (de_cell (de_lst da_nil)))
    (dss_cons (ds_forF [4, 5, 6, 7] pw rfl (di_range1 (by rfl) T.n_range (da_cons de_int da_nil)) (dg_name (i := 4) sc_law_cells.nd rfl (by first | exact Or.inl rfl | exact Or.inr rfl)) (dss_cons (ds_set (i := 5) sc_law_cells.nd rfl (by first | exact Or.inl rfl | exact Or.inr rfl) (de_stl (de_call (ok_law_next T) hr (by decide) (by rfl) tk (fun _ _ => .nil) (da_cons (de_cell (dv 0)) (da_cons de_int da_nil)))))
    (dss_cons (ds_setLc (i := 6) (k := dFrz) (own := [("_law_y", 8)]) rfl sc_law_cells.nd rfl rfl (sw_true rfl rfl rfl (by decide +kernel)) (.inl rfl) (di_range1 (by rfl) T.n_range (da_cons (de_ix ix_seq os_ix (dv 1) de_int (fun _ _ => rfl)) da_nil)) (blkOk_by (N := ["_law_state_here", "_law_size", "_law_most", "_law_sheets", "_law_k", "_law_thick", "_law_rows", "_law_bored", "_law_y", "_law_row"]) (sc := (defScope s_law_cells)) (by decide +kernel)) (by decide) (fun _ _ _ _ _ => (dg_name (i := 8) sc_law_cells.nd rfl (by first | exact Or.inl rfl | exact Or.inr rfl))) (fun _ _ _ _ _ => dts_nil) (fun _ _ _ _ _ => (de_call (ok_law_next T) hr (by decide) (by rfl) tk0 (fun _ _ => .nil) (da_cons (de_cell (dv 0)) (da_cons (de_stl (de_op opA_add os_add (dv 2) de_int)) da_nil)))))
    (dss_cons (ds_if (dt_cmp (opA_eq hr.units) os_eq (dv 5) de_int (nomark _)) (dss_one (ds_setLc (i := 6) (k := dFrz) (own := [("_law_row", 9)]) rfl sc_law_cells.nd rfl rfl (sw_true rfl rfl rfl (by decide +kernel)) (.inl rfl) (di_seqD (dv 6)) (blkOk_by (N := ["_law_state_here", "_law_size", "_law_most", "_law_sheets", "_law_k", "_law_thick", "_law_rows", "_law_bored", "_law_y", "_law_row"]) (sc := (defScope s_law_cells)) (by decide +kernel)) (by decide) (fun _ _ _ _ _ => (dg_name (i := 9) sc_law_cells.nd rfl (by first | exact Or.inl rfl | exact Or.inr rfl))) (fun _ _ _ _ _ => dts_nil) (fun _ _ _ _ _ => (de_op op_and os_and (de_op op_and os_and (dv 9) (de_call (ok_law_next T) hr (by decide) (by rfl) tk0 (fun _ _ => .nil) (da_cons (de_cell (dv 0)) (da_cons (de_stl (de_op opA_add os_add (dv 2) de_int)) da_nil)))) (de_call (ok_law_next T) hr (by decide) (by rfl) tk0 (fun _ _ => .nil) (da_cons (de_cell (dv 0)) (da_cons (de_stl (de_op opA_add os_add (dv 2) de_int)) da_nil))))))) dss_nil)
    (dss_cons (ds_if (dt_cmp (opA_eq hr.units) os_eq (dv 5) de_int (nomark _)) (dss_one (ds_setLc (i := 6) (k := dFrz) (own := [("_law_row", 9)]) rfl sc_law_cells.nd rfl rfl (sw_true rfl rfl rfl (by decide +kernel)) (.inl rfl) (di_seqD (dv 6)) (blkOk_by (N := ["_law_state_here", "_law_size", "_law_most", "_law_sheets", "_law_k", "_law_thick", "_law_rows", "_law_bored", "_law_y", "_law_row"]) (sc := (defScope s_law_cells)) (by decide +kernel)) (by decide) (fun _ _ _ _ _ => (dg_name (i := 9) sc_law_cells.nd rfl (by first | exact Or.inl rfl | exact Or.inr rfl))) (fun _ _ _ _ _ => dts_nil) (fun _ _ _ _ _ => (de_op op_or os_or (dv 9) (de_call (ok_law_next T) hr (by decide) (by rfl) tk0 (fun _ _ => .nil) (da_cons (de_cell (dv 0)) (da_cons (de_stl (de_op opA_add os_add (dv 2) de_int)) da_nil))))))) dss_nil)
    (dss_one (ds_expr (de_bm PySem.F.plainAttrs_list PySem.F.slot_list_append PySem.F.type_list_append mt_append rc_lst ms_append (dv 3) (da_cons (de_frz (de_callTy call_tuple_of cs_tuple (by rfl) T.n_tuple bt_tuple (da_cons (dv 6) da_nil))) da_nil)))))))))
    (dss_cons (ds_set (i := 7) sc_law_cells.nd rfl (by first | exact Or.inl rfl | exact Or.inr rfl) (de_stl (de_callTy call_tuple_of cs_tuple (by rfl) T.n_tuple bt_tuple (da_cons (de_lc (own := [("_law_y", 8)]) rfl sc_law_cells.nd (di_range1 (by rfl) T.n_range (da_cons (de_ix ix_seq os_ix (dv 1) de_int (fun _ _ => rfl)) da_nil)) (blkOk_by (N := ["_law_state_here", "_law_size", "_law_most", "_law_sheets", "_law_k", "_law_thick", "_law_rows", "_law_bored", "_law_y", "_law_row"]) (sc := (defScope s_law_cells)) (by decide +kernel)) (by decide) (fun _ _ _ _ _ => (dg_name (i := 8) sc_law_cells.nd rfl (by first | exact Or.inl rfl | exact Or.inr rfl))) (fun _ _ _ _ _ => dts_nil) (fun _ _ _ _ _ => (de_op op_and os_and (de_op op_and os_and (de_ix ix_seq os_ix (de_ix ix_seq os_ix (dv 3) de_int (fun _ _ => rfl)) (dv 8) (fun _ _ => rfl)) (de_ix ix_seq os_ix (de_ix ix_seq os_ix (dv 3) de_int (fun _ _ => rfl)) (dv 8) (fun _ _ => rfl))) (de_ix ix_seq os_ix (de_ix ix_seq os_ix (dv 3) de_int (fun _ _ => rfl)) (dv 8) (fun _ _ => rfl))))) da_nil))))
    (dss_one (ds_ret (de_tup (da_cons (de_frz (dv 1)) (da_cons (de_frz (de_ix ix_seq os_ix (dv 3) de_int (fun _ _ => rfl))) (da_cons (de_frz (de_ix ix_seq os_ix (dv 3) de_int (fun _ _ => rfl))) (da_cons (de_frz (dv 7)) da_nil))))))))))))) ?_
  rintro es μ q x - ⟨n, rfl, hs, h⟩
  have hn := hs.lt
  ((try walk_at "dx21"); repeat (walk_at "one" <;> (try walk_at "dx21")))
  (try walk_at "ok")
  intro r1 a0 a1 r2 b0 b1
  ((try walk_at "dx21"); repeat (walk_at "one" <;> (try walk_at "dx21")))
  (try walk_at "ok")
  have hw : ∃ w : Nat, (3 + r1).toNat = w := ⟨_, rfl⟩
  obtain ⟨w, hw⟩ := hw
  rw [hw]
  refine for_stR (fun i (ss : List (List Int)) => ss.length = i ∧ ∀ s ∈ ss, Row w (3 + r2) s) (fun η _ => η) (fun _ ss => μ ++ [.lst (ss.map fun s => .tuple (s.map .int))]) [] rfl rfl ⟨rfl, by simp⟩ (fun _ => trivial) ?_ ?_
  · rintro i ss J hi ⟨hl, hss⟩ hJ
    have hp : (0 : Int) < 2 ^ w := Int.pow_pos (by decide)
    have hp2 : (2 : Int) ^ w ≤ 1024 := pow_le (by omega)
    have hi3 : i < 3 := by simpa using hi
    ((try walk_at "dx21"); repeat (walk_at "one" <;> (try walk_at "dx21")))
    intro th t0 t1
    ((try walk_at "dx21"); repeat (walk_at "one" <;> (try walk_at "dx21")))
    refine lc_rel (en := PyData.int) (n := (3 + r2).toNat) (Rw w) (by omega) trivial (fun a K ha hK => ?_) fun rows hrl hr => ?_
    · (try walk_at "dx21")
      (try walk_at "ok")
      intro r s0 s1
      (try walk_at "dx21")
      exact hK r ⟨s0, by omega⟩
    have fin : ∀ rs : List Int, rs.length = rows.length → (∀ r ∈ rs, Rw w r) → ∀ s' ∈ ss ++ [rs], Row w (3 + r2) s' := fun rs h1 h2 s' hs' => by
      rcases List.mem_append.mp hs' with hs' | hs'
      · exact hss s' hs'
      · rw [List.mem_singleton.mp hs']
        exact ⟨by omega, h2⟩
    ((try walk_at "dx21"); repeat (walk_at "one" <;> (try walk_at "dx21")))
    split
    · rename_i g0
      ((try walk_at "dx21"); repeat (walk_at "one" <;> (try walk_at "dx21")))
      refine lc_relL (en := PyData.int) (en2 := PyData.int) (Rw w) (by omega) trivial (fun a K ha hK => ?_) fun ys hl2 hr2 => ?_
      · (try walk_at "dx21")
        (try walk_at "ok")
        intro r5 h5 h6
        (try walk_at "dx21")
        (try walk_at "ok")
        intro r7 h7 h8
        (try walk_at "dx21")
        exact hK _ (((hr a ha).and ⟨h5, by omega⟩).and ⟨h7, by omega⟩)
      have hf := fin ys hl2 hr2
      ((try walk_at "dx21"); repeat (walk_at "one" <;> (try walk_at "dx21")))
      (try rw [if_neg (show ¬ th = 2 by omega)])
      ((try walk_at "dx21"); repeat (walk_at "one" <;> (try walk_at "dx21")))
      (have j := hJ (ss ++ [ys]) ⟨by simp [hl], hf⟩; simp only [List.range_succ, List.map_append, List.map_cons, List.map_nil, fg_cons, fg_nil, List.set_cons_succ, List.set_cons_zero] at j; exact j)
    · rename_i g0
      ((try walk_at "dx21"); repeat (walk_at "one" <;> (try walk_at "dx21")))
      split
      · rename_i g2
        ((try walk_at "dx21"); repeat (walk_at "one" <;> (try walk_at "dx21")))
        refine lc_relL (en := PyData.int) (en2 := PyData.int) (Rw w) (by omega) trivial (fun a K ha hK => ?_) fun ys hl2 hr2 => ?_
        · (try walk_at "dx21")
          (try walk_at "ok")
          intro r5 h5 h6
          (try walk_at "dx21")
          exact hK _ ((hr a ha).or ⟨h5, by omega⟩)
        have hf := fin ys hl2 hr2
        ((try walk_at "dx21"); repeat (walk_at "one" <;> (try walk_at "dx21")))
        (have j := hJ (ss ++ [ys]) ⟨by simp [hl], hf⟩; simp only [List.range_succ, List.map_append, List.map_cons, List.map_nil, fg_cons, fg_nil, List.set_cons_succ, List.set_cons_zero] at j; exact j)
      · rename_i g2
        have hf := fin rows rfl hr
        ((try walk_at "dx21"); repeat (walk_at "one" <;> (try walk_at "dx21")))
        (have j := hJ (ss ++ [rows]) ⟨by simp [hl], hf⟩; simp only [List.range_succ, List.map_append, List.map_cons, List.map_nil, fg_cons, fg_nil, List.set_cons_succ, List.set_cons_zero] at j; exact j)
  · rintro ss ⟨hl, hss⟩
    obtain ⟨f, b, o, rfl⟩ : ∃ f b o, ss = [f, b, o] := by
      match ss, hl with
      | [f, b, o], _ => exact ⟨f, b, o, rfl⟩
    have hf := hss f (by simp)
    have hb := hss b (by simp)
    have ho := hss o (by simp)
    have fl := hf.1
    have bl := hb.1
    have ol := ho.1
    ((try walk_at "dx21"); repeat (walk_at "one" <;> (try walk_at "dx21")))
    refine lc_rng (f := fun y : Nat => PyData.int (Builtin.bitAnd (Builtin.bitAnd (gg f y) (gg b y)) (gg o y))) (by omega) trivial (fun y K hy hK => ?_) ?_
    · (try walk_at "dx21")
      refine ⟨_, gg_at (i := y) (by omega) (by omega), _, gg_at (i := y) (by omega) (by omega), ?_⟩
      (try walk_at "dx21")
      refine ⟨_, gg_at (i := y) (by omega) (by omega), ?_⟩
      (try walk_at "dx21")
      exact hK
    have e : ((List.range (3 + r2).toNat).map fun y : Nat => PyData.int (Builtin.bitAnd (Builtin.bitAnd (gg f y) (gg b y)) (gg o y))) = (bored (3 + r2).toNat f b o).map .int := by
      unfold bored
      rw [List.map_map]
      rfl
    rw [e]
    ((try walk_at "dx21"); repeat (walk_at "one" <;> (try walk_at "dx21")))
    exact h ((3 + r1, 3 + r2), f, b, bored (3 + r2).toNat f b o) (ok_cells ⟨by omega, by omega⟩ ⟨by omega, by omega⟩ hw hf hb ho)
local macro_rules | `(tactic| walk_at "dx22") => `(tactic| simp (disch := first | assumption | omega) only [oDiv, oMod, ↓exitQ_dat, startD, List.map_cons, List.map_nil, List.length_cons, List.length_nil, Nat.zero_add, Nat.reduceAdd, Nat.reduceSub, List.replicate.eq_2, List.replicate, List.cons_append, List.nil_append, ↓x_dC, ↓nN_dat, List.set_cons_succ, List.set_cons_zero, true_and, ↓x_iRange1, ↓x_aCons, ↓x_dCB, ↓dVar_0, ↓old_dat, ↓x_aNil, ↓lnD_lst, ↓rng1_i, List.length_map, ile_h, and_true, Int.toNat_natCast, ↓x_gNm, ↓fg_cons, ↓fg_nil, ↓x_dStl, ↓x_dOp, ↓dVar_1, ↓dVar_2, ↓add_int, ↓ix_lstD, at_nn, cl_dat, ↓mul_int, cmul_l, ↓stl_dat, ↓cl_dat, ↓cl_none, ↓cl_nil, ↓tk_0, ↓x_dLst, ↓x_dFrz, ↓oI_ii, ilt_h, cdiv_h, ↓wD_dat, ↓wDs_cons, ↓wDs_nil, nle_h, ↓exitQ_new, ↓old_loc, ↓c_lenD, ↓lnC_l, ↓c_len, ↓lcR_l, ↓c_ix, cl_loc, ↓ix_tupD, Int.reduceToNat, List.getElem?_cons_zero, Option.some.injEq, ↓stl_new, exists_eq_left', List.getElem?_cons_succ, ↓x_iSeqD, ↓x_dSl, ↓x_oSome, ↓intK_i, ↓x_oNo, ↓sl_tupD, ↓seqDK_t, ↓dVar_3, ↓add_ln, cl_none, ↓x_dCall, ↓aO_cons, ↓aO_nil, Bool.and_true, List.append_nil, ↓e_law_sum, oSub, oShlA, oAnd, oOr, ↓x_dTup, ↓x_dCell, ↓cel_loc, ↓nN_loc, nextA_eq, isR_h, csh_h, ↓oI0_ii, ↓cel_new, List.length_append, isR_app, ↓x_lc, wipeD, dVar_2, dVar_0, ↓nextA_eq, ↓tk_a1, ↓wD_new, ↓x_tVal, ↓dVar_5, ↓eq_dd, ↓noD_i, dep_int, ↓wB_b, eqv_int, decide_eq_true_eq, ↓dVar_6, ↓seqDK_l, dVar_9, ↓x_dBM, ↓c_isL, ↓get_a0, lcR_l, ↓x_oTuple, ↓sqK_lst, ↓c_app, ↓set_a0, tk_a1, lcK_l, nlt_h, dVar_8, dVar_3, ↓sqK_new, ↓dVar_7, ↓tk_a0])
local macro_rules | `(tactic| walk_at "dx23") => `(tactic| simp (disch := first | assumption | omega) only [oLt, oGt, List.map_cons, List.map_nil, List.length_cons, List.length_nil, Nat.zero_add, oGe, oShlA, oAnd, ↓exitQ_dat, startD, Nat.reduceAdd, Nat.reduceSub, List.replicate.eq_2, List.replicate, List.cons_append, List.nil_append, ↓x_tOrD, ↓x_tNotD, ↓x_tVal, ↓x_dCB, ↓x_aCons, ↓dVar_0, ↓old_dat, ↓x_dRaw, ↓x_aNil, ↓isi_list, ↓wB_b, ↓isListD_list, Bool.not_true, Bool.false_eq_true, if_true, ↓x_dOp, ↓lnD_lst, ↓x_dC, ↓oI0_ii, decide_eq_true_eq, if_false, ↓tk_0, ↓x_iSeqD, ↓seqDK_l, ↓x_gNm, ↓nN_dat, ↓fg_cons, ↓fg_nil, List.set_cons_succ, List.set_cons_zero, true_and, ↓dVar_1, ↓isi_int, ↓isIntD_int, cl_dat, ↓cl_none, ↓cl_nil, ↓isi_bool, ↓isBoolD_int, ↓isIntD_none, Bool.not_false, ↓isBoolD_none, ↓isIntD_bool, ↓isBoolD_bool, ↓isIntD_list, ↓isBoolD_list, ↓isIntD_tuple, ↓isBoolD_tuple, ↓isIntD_str, ↓isBoolD_str, ↓isIntD_dict, ↓isBoolD_dict, ↓x_dFrz, ↓x_dSl, ↓x_oNo, ↓x_oSome, ↓intK_i, ↓sl_lstD, ↓wD_new, ↓x_gLs, ↓x_gCn, ↓x_gNl0, ↓dVar_2, ↓dVar_3, ↓mul_int, cmul_l, ↓add_int, ↓ne_dd, ↓noD_i, and_true, List.length_map, dep_int, nle_h, eqv_int, ↓x_lc, ↓x_iRange1, ↓rng1_i, ile_h, wipeD, dVar_6, dVar_0, ↓ix_lstD, at_nn, ↓wD_dat, ↓x_dUn, ↓neg_i, ↓x_dCall, ↓x_dStl, ↓stl_new, ↓aO_cons, ↓aO_nil, Bool.and_true, List.append_nil, ↓dVar_4, ↓x_dLst, ↓wDs_nil, ↓e_law_sum, ↓ne_nn, ↓noD_l, ↓noDs_i, dep_lst, eqv_lst, dVar_7, dVar_2, ↓oI_ii, csh_h, ↓noDs_nil, depA_cons, Nat.zero_max, depA_nil, eqvA_cn, eqvA_nn, Int.toNat_natCast, ↓dVar_5, cl_none, ↓cl_dat, ↓inv_i, ↓x_dTup, ↓wDs_cons, ↓x_oTuple, ↓sqK_new, ↓isListD_none, ↓isListD_bool, ↓isListD_int, ↓isListD_tuple, ↓lnD_tup, ↓isListD_str, ↓lnD_str, ↓isListD_dict, ↓lnD_d, oPow, oSub, oXor, ↓x_dCell, ↓old_loc, ↓cel_loc, ↓nN_loc, nextA_eq, isR_h, ilt_h, ↓stl_dat, ↓lsA_l, ↓cel_new, ↓eq_dd, ↓sqK_lst, ↓c_sl, ↓get_a0, ↓c_addn, Nat.reduceLeDiff, isR_app, ↓ix_new, ↓tk_a0, lcR_l, cpow_h, Int.reduceToNat, ↓x_gSb, ↓c_set, ↓set_a0, lcK_l, exitQ_ge, exC_l, ↓c_ix, ↓x_gTp, List.length_set, ↓x_dRevL, ↓revK_c, ↓exitQ_new, List.length_append, List.append_assoc, ↓stl_loc, ↓get_a1])
def optD (o : Option Cs) : PyData := match o with
  | some c => csD c
  | none => .none
def hv72 (ns : List Int) (y : Nat) : Int := Builtin.bitAnd (gg (rows72 ns) (2 * hi72 ns + y)) (Builtin.bitNot (Builtin.bitAnd (gg (rows72 ns) y) (gg (rows72 ns) (hi72 ns + y))))
theorem hole_iff {ns : List Int} (h : okN ns) : (∀ r ∈ notI (ho72 ns) (andI (fr72 ns) (ba72 ns)), r = 0) ↔ ∀ y, y < hi72 ns → hv72 ns y = 0 := by
  have l := rows_len h
  have e : notI (ho72 ns) (andI (fr72 ns) (ba72 ns)) = (List.range (hi72 ns)).map (hv72 ns) := by
    refine List.ext_getElem ?_ fun i h1 h2 => ?_
    · simp [notI, andI, ho72, fr72, ba72]
      omega
    · have hi : i < hi72 ns := by simpa using h2
      simp only [notI, andI, ho72, fr72, ba72, hv72, List.getElem_map, List.getElem_zip, List.getElem_take, List.getElem_drop, List.getElem_range]
      rw [gg_get (show 2 * hi72 ns + i < (rows72 ns).length by omega), gg_get (show i < (rows72 ns).length by omega), gg_get (show hi72 ns + i < (rows72 ns).length by omega)]
  rw [e]
  simp
def sp_law_tells (T : Top K mg) : SpD := fun es μ q x => ∃ (d : PyData), es = [.dat d] ∧ ((∀ xs, d = .list xs → xs.length ≤ 100) ∧ ∀ o, Tells d o → q (.dat (optD o)) μ)
theorem e_law_tells (T : Top K mg) {d : PyData} {μ : Mu} {q : PQ} {x : XQ} : sp_law_tells T [.dat d] μ q x = ((∀ xs, d = .list xs → xs.length ≤ 100) ∧ ∀ o, Tells d o → q (.dat (optD o)) μ) := by
  refine propext ⟨fun hyp0 => ?_, fun hyp0 => ⟨d, rfl, hyp0⟩⟩
  obtain ⟨d', eq0, hyp0⟩ := hyp0
  simp only [List.cons.injEq, Exn.mk.injEq, EV.at.injEq, eq_self, EV.dat.injEq, EV.loc.injEq, EV.new.injEq, EV.ro.injEq, EV.exc.injEq, EV.per.injEq, PyData.int.injEq, PyData.str.injEq, PyData.bool.injEq, PyData.list.injEq, PyData.tuple.injEq, and_true, true_and, and_assoc, map_int_inj, ] at eq0
  subst eq0
  exact hyp0
theorem ok_law_tells (T : Top K mg) : DefAt P w K mg base "_law_tells" 2 ["_law_thing"] [] [] (sp_law_tells T) := by
  refine def_ok (sp_law_tells T) T.F_law_tells sc_law_tells T.m_law_tells T.b_law_tells (fun cdv A outer s H E hr tk pw => (dss_cons (ds_if (dw_or (dt_not (dt_val (de_callB call_isiY cs_isi (by rfl) T.n_isinstance bb_isinstance (da_cons (dv 0) (da_cons (de_ty T.n_list bt_list) da_nil))))) (dw_or1 (dt_cmp op_lt os_lt (de_callB call_lenA cs_lenD (by rfl) T.n_len bb_len (da_cons (dv 0) da_nil)) de_int (nomark _)))).dt (dss_one (ds_ret de_non)) dss_nil)
    (dss_cons (ds_forF [1, 2, 3, 4, 5] pw rfl (di_seqD (dv 0)) (dg_name (i := 1) sc_law_tells.nd rfl (by first | exact Or.inl rfl | exact Or.inr rfl)) (dss_one (ds_if (dw_or (dt_not (dt_val (de_callB call_isiY cs_isi (by rfl) T.n_isinstance bb_isinstance (da_cons (dv 1) (da_cons (de_ty T.n_int bt_int) da_nil))))) (dw_or (dt_val (de_callB call_isiY cs_isi (by rfl) T.n_isinstance bb_isinstance (da_cons (dv 1) (da_cons (de_ty T.n_bool bt_bool) da_nil)))) (dw_or (dt_cmp op_lt os_lt (dv 1) de_int (nomark _)) (dw_or1 (dt_cmp op_gt os_gt (dv 1) de_int (nomark _)))))).dt (dss_one (ds_ret de_non)) dss_nil)))
    (dss_cons (ds_asg (de_frz (de_slice slA os_sl (dv 0) do_none (do_some de_int))) (dg_lst (n := 2) rfl (dgs_cons (dg_name (i := 2) sc_law_tells.nd rfl (by first | exact Or.inl rfl | exact Or.inr rfl)) (dgs_cons (dg_name (i := 3) sc_law_tells.nd rfl (by first | exact Or.inl rfl | exact Or.inr rfl)) dgs_nil))))
    (dss_cons (ds_if (dw_or (dt_cmp op_lt os_lt (dv 2) de_int (nomark _)) (dw_or (dt_cmp op_gt os_gt (dv 2) de_int (nomark _)) (dw_or (dt_cmp op_lt os_lt (dv 3) de_int (nomark _)) (dw_or (dt_cmp op_gt os_gt (dv 3) de_int (nomark _)) (dw_or1 (dt_cmp (opA_ne hr.units) os_ne (de_callB call_lenA cs_lenD (by rfl) T.n_len bb_len (da_cons (dv 0) da_nil)) (de_op opA_add os_add de_int (de_op opA_mul os_mul de_int (dv 3))) (nomark _))))))).dt (dss_one (ds_ret de_non)) dss_nil)
    (dss_cons (ds_setLc (i := 4) (k := dFrz) (own := [("_law_k", 6)]) rfl sc_law_tells.nd rfl rfl (sw_true rfl rfl rfl (by decide +kernel)) (.inl rfl) (di_range1 (by rfl) T.n_range (da_cons (de_op opA_mul os_mul de_int (dv 3)) da_nil)) (blkOk_by (N := ["_law_thing", "_law_one", "_law_wide", "_law_high", "_law_rows", "_law_y", "_law_k", "_law_row"]) (sc := (defScope s_law_tells)) (by decide +kernel)) (by decide) (fun _ _ _ _ _ => (dg_name (i := 6) sc_law_tells.nd rfl (by first | exact Or.inl rfl | exact Or.inr rfl))) (fun _ _ _ _ _ => dts_nil) (fun _ _ _ _ _ => (de_op opA_add os_add (de_ix ix_seq os_ix (dv 0) (de_op opA_add os_add de_int (de_op opA_mul os_mul de_int (dv 6))) (fun _ _ => rfl)) (de_op opA_mul os_mul de_int (de_ix ix_seq os_ix (dv 0) (de_op opA_add os_add de_int (de_op opA_mul os_mul de_int (dv 6))) (fun _ _ => rfl))))))
    (dss_cons (ds_if (dw_or (dt_cmp (opA_ne hr.units) os_ne (de_slice slA os_sl (dv 0) (do_some (de_un un_neg us_neg de_int)) do_none) (de_call (ok_law_sum T) hr (by decide) (by rfl) tk (fun _ _ => .nil) (da_cons (de_stl (de_slice slA os_sl (dv 0) do_none (do_some (de_un un_neg us_neg de_int)))) da_nil)) (nomark _)) (dw_or1 (dt_cmp (opA_ne hr.units) os_ne (de_lc (own := [("_law_row", 7)]) rfl sc_law_tells.nd (di_seqD (dv 4)) (blkOk_by (N := ["_law_thing", "_law_one", "_law_wide", "_law_high", "_law_rows", "_law_y", "_law_k", "_law_row"]) (sc := (defScope s_law_tells)) (by decide +kernel)) (by decide) (fun _ _ _ _ _ => (dg_name (i := 7) sc_law_tells.nd rfl (by first | exact Or.inl rfl | exact Or.inr rfl))) (fun _ _ _ _ _ => (dts_one (dt_cmp op_ge os_ge (dv 7) (de_op opA_shl os_shlA de_int (dv 2)) (nomark _)))) (fun _ _ _ _ _ => (dv 7))) (de_lst da_nil) (nomark _)))).dt (dss_one (ds_ret de_non)) dss_nil)
    (dss_cons (ds_forF [0, 1, 5] pw rfl (di_range1 (by rfl) T.n_range (da_cons (dv 3) da_nil)) (dg_name (i := 5) sc_law_tells.nd rfl (by first | exact Or.inl rfl | exact Or.inr rfl)) (dss_one (ds_if (dt_cmp (opA_ne hr.units) os_ne (de_op op_and os_and (de_ix ix_seq os_ix (dv 4) (de_op opA_add os_add (de_op opA_mul os_mul de_int (dv 3)) (dv 5)) (fun _ _ => rfl)) (de_un un_inv us_inv (de_op op_and os_and (de_ix ix_seq os_ix (dv 4) (dv 5) (fun _ _ => rfl)) (de_ix ix_seq os_ix (dv 4) (de_op opA_add os_add (dv 3) (dv 5)) (fun _ _ => rfl))))) de_int (nomark _)) (dss_one (ds_ret de_non)) dss_nil)))
    (dss_one (ds_ret (de_tup (da_cons (de_frz (de_tup (da_cons (de_frz (dv 2)) (da_cons (de_frz (dv 3)) da_nil)))) (da_cons (de_frz (de_callTy call_tuple_of cs_tuple (by rfl) T.n_tuple bt_tuple (da_cons (de_slice slA os_sl (dv 4) do_none (do_some (dv 3))) da_nil))) (da_cons (de_frz (de_callTy call_tuple_of cs_tuple (by rfl) T.n_tuple bt_tuple (da_cons (de_slice slA os_sl (dv 4) (do_some (dv 3)) (do_some (de_op opA_mul os_mul de_int (dv 3)))) da_nil))) (da_cons (de_frz (de_callTy call_tuple_of cs_tuple (by rfl) T.n_tuple bt_tuple (da_cons (de_slice slA os_sl (dv 4) (do_some (de_op opA_mul os_mul de_int (dv 3))) do_none) da_nil))) da_nil))))))))))))))) ?_
  rintro es μ q x - ⟨d, rfl, hz, k⟩
  have no : (¬ ∃ ns : List Int, d = .list (ns.map .int) ∧ Good ns) → q (.dat .none) μ := fun z => k none (.no z)
  cases d with
  | list xs =>
    have hz' := hz xs rfl
    ((try walk_at "dx23"); repeat (walk_at "one" <;> (try walk_at "dx23")))
    split
    · rename_i g
      ((try walk_at "dx23"); repeat (walk_at "one" <;> (try walk_at "dx23")))
      refine no fun ⟨ns, e, h⟩ => ?_
      have := h.ok.2.1
      cases e
      simp at g
      omega
    · rename_i g
      ((try walk_at "dx23"); repeat (walk_at "one" <;> (try walk_at "dx23")))
      refine for_st (h := EV.dat) (fun i (_ : Unit) => ∀ d ∈ xs.take i, isNum d 0 255 = true) (fun η _ => η) (fun μ _ => μ) () rfl rfl (by simp) (fun _ => trivial) ?_ ?_
      · rintro i d s J hi hk hJ
        have bad : isNum d 0 255 = false → q (.dat .none) μ := fun hd => no fun ⟨ns, e, h⟩ => by
          cases e
          have hm := List.mem_of_getElem? hi
          obtain ⟨n, hn, rfl⟩ := List.mem_map.mp hm
          have := h.ok.1 n hn
          rw [isNum_i] at hd
          simp at hd
          omega
        have good : isNum d 0 255 = true → ∀ m ∈ xs.take (i + 1), isNum m 0 255 = true := fun hd m hm => by
          rw [List.take_add_one, hi] at hm
          rcases List.mem_append.mp hm with hm | hm
          · exact hk m hm
          · have e : m = d := by simpa using hm
            rw [e]
            exact hd
        cases d with
        | int n =>
          rw [isNum_i] at bad good
          ((try walk_at "dx23"); repeat (walk_at "one" <;> (try walk_at "dx23")))
          split
          · ((try walk_at "dx23"); repeat (walk_at "one" <;> (try walk_at "dx23")))
            exact bad (by simp; omega)
          · split
            · ((try walk_at "dx23"); repeat (walk_at "one" <;> (try walk_at "dx23")))
              exact bad (by simp; omega)
            · (have j := hJ () (good (by simp; omega)); simp only [List.range_succ, List.map_append, List.map_cons, List.map_nil, fg_cons, fg_nil, List.set_cons_succ, List.set_cons_zero] at j; exact j)
        | none => ((try walk_at "dx23"); repeat (walk_at "one" <;> (try walk_at "dx23"))); exact bad rfl
        | bool b => ((try walk_at "dx23"); repeat (walk_at "one" <;> (try walk_at "dx23"))); exact bad rfl
        | list ys => ((try walk_at "dx23"); repeat (walk_at "one" <;> (try walk_at "dx23"))); exact bad rfl
        | tuple ys => ((try walk_at "dx23"); repeat (walk_at "one" <;> (try walk_at "dx23"))); exact bad rfl
        | str z => ((try walk_at "dx23"); repeat (walk_at "one" <;> (try walk_at "dx23"))); exact bad rfl
        | dict kv => ((try walk_at "dx23"); repeat (walk_at "one" <;> (try walk_at "dx23"))); exact bad rfl
      · rintro s hk
        rw [List.take_length] at hk
        obtain ⟨ns, rfl, hr⟩ := nums_of hk
        have hz2 : ns.length ≤ 100 := by simpa using hz'
        have g2 : 2 ≤ ns.length := by simp at g; omega
        have nb : (¬ Good ns) → q (.dat .none) μ := fun z => no fun ⟨ms, e, h⟩ => z (by
          obtain rfl : ns = ms := lst_inj e
          exact h)
        have yes : Good ns → q (.dat (csD (csOf ns))) μ := fun h => k (some (csOf ns)) (.yes rfl h)
        clear no k hz hz' hk g
        rw [csD_eq] at yes
        unfold csOf at yes
        dsimp only at yes
        obtain ⟨a, b, r, rfl⟩ : ∃ a b r, ns = a :: b :: r := by
          match ns, g2 with
          | a :: b :: r, _ => exact ⟨a, b, r, rfl⟩
        generalize hns : a :: b :: r = ns at *
        have ga : gg ns 0 = a := by rw [← hns]; rfl
        have gb : gg ns 1 = b := by rw [← hns]; rfl
        have hc : cutD (ns.map PyData.int) none (some 2) = [.int a, .int b] := by
          rw [cut_hi (by decide), ← hns]
          rfl
        (try walk_at "dx23")
        (first | (walk_at "one" <;> (try walk_at "dx23")) | skip)
        rw [hc]
        ((try walk_at "dx23"); repeat (walk_at "one" <;> (try walk_at "dx23")))
        split
        · ((try walk_at "dx23"); repeat (walk_at "one" <;> (try walk_at "dx23")))
          exact nb fun h => by have := h.ok.2.2.1; omega
        split
        · ((try walk_at "dx23"); repeat (walk_at "one" <;> (try walk_at "dx23")))
          exact nb fun h => by have := h.ok.2.2.1; omega
        split
        · ((try walk_at "dx23"); repeat (walk_at "one" <;> (try walk_at "dx23")))
          exact nb fun h => by have := h.ok.2.2.2.1; omega
        split
        · ((try walk_at "dx23"); repeat (walk_at "one" <;> (try walk_at "dx23")))
          exact nb fun h => by have := h.ok.2.2.2.1; omega
        rename_i g1 g3 g4 g5
        split
        · rename_i gl
          ((try walk_at "dx23"); repeat (walk_at "one" <;> (try walk_at "dx23")))
          exact nb fun h => by
            have := h.ok.2.2.2.2
            rw [gb] at this
            simp at gl
            omega
        rename_i gl
        have gl' : (ns.length : Int) = 4 + 6 * b := by simpa using gl
        have okn : okN ns := ⟨hr, g2, by omega, by omega, by omega⟩
        have hlen := okn.len
        have hb3 : (3 * b).toNat = 3 * hi72 ns := by unfold hi72; omega
        have hb1 : b = (hi72 ns : Int) := by unfold hi72; omega
        (try walk_at "dx23")
        (first | (walk_at "one" <;> (try walk_at "dx23")) | skip)
        rw [hb3]
        refine lc_rng (f := fun k : Nat => PyData.int (rowK ns k)) (by omega) trivial (fun k K hk hK => ?_) ?_
        · (try walk_at "dx23")
          refine ⟨_, gg_at (i := 2 + 2 * k) (by omega) (by omega), _, gg_at (i := 3 + 2 * k) (by omega) (by omega), ?_⟩
          (try walk_at "dx23")
          exact hK
        have e : ((List.range (3 * hi72 ns)).map fun k : Nat => PyData.int (rowK ns k)) = (rows72 ns).map .int := by
          rw [rows_eq okn, List.map_map]
          rfl
        rw [e]
        have rn := rows_nn okn
        have rl := rows_len okn
        (try walk_at "dx23")
        (first | (walk_at "one" <;> (try walk_at "dx23")) | skip)
        rw [cut_m2 g2, cut_l2 g2]
        have d1 := depA_map PyData.int (n := 0) enc_int.dep (sumL (ns.take (ns.length - 2)))
        have d2 := depA_map PyData.int (n := 0) enc_int.dep (ns.drop (ns.length - 2))
        refine ⟨ns.take (ns.length - 2), .dat _, by rw [List.length_take]; omega, noDs_map (fun _ => rfl) _, by omega, ?_⟩
        by_cases hsum : ns.drop (ns.length - 2) = sumL (ns.take (ns.length - 2))
        · rw [if_neg (by rw [(enc_int.all _ _).mpr hsum]; decide)]
          refine lc_filterD (p := fun r : Int => decide (1 * 2 ^ a.toNat ≤ r)) (f := fun r : Int => PyData.int r) (by omega) trivial (fun r K K' hr hK => ?e) ?_
          case e =>
            (try walk_at "dx23")
            simpa only [decide_eq_true_eq] using hK
          have hF : (rows72 ns).filter (fun r : Int => decide (1 * 2 ^ a.toNat ≤ r)) = [] ↔ ∀ r ∈ rows72 ns, r < 2 ^ (gg ns 0).toNat := by
            rw [List.filter_eq_nil_iff, ga]
            constructor
            · intro h r hr
              have := h r hr
              simp at this
              exact this
            · intro h r hr
              have := h r hr
              simp
              exact this
          generalize (rows72 ns).filter (fun r : Int => decide (1 * 2 ^ a.toNat ≤ r)) = F at *
          cases F with
          | cons f F =>
            have hno : ¬ ∀ r ∈ rows72 ns, r < 2 ^ (gg ns 0).toNat := fun z => by cases hF.mpr z
            ((try walk_at "dx23"); repeat (walk_at "one" <;> (try walk_at "dx23")))
            exact nb fun h => hno h.bits
          | nil =>
            have hbits := hF.mp rfl
            clear hF hc gl hb3 e d1 d2 hns
            subst hb1
            ((try walk_at "dx23"); repeat (walk_at "one" <;> (try walk_at "dx23")))
            refine for_stR (fun i (_ : Unit) => ∀ y, y < i → hv72 ns y = 0) (fun η _ => η) (fun μ _ => μ) () rfl rfl (fun y hy => absurd hy (by omega)) (fun _ => trivial) ?_ ?_
            · rintro i s J hi hk hJ
              (try walk_at "dx23")
              (first | (walk_at "one" <;> (try walk_at "dx23")) | skip)
              refine ⟨_, gg_at (i := 2 * hi72 ns + i) (by omega) (by omega), _, gg_at (i := i) (by omega) (by omega), ?_⟩
              (try walk_at "dx23")
              refine ⟨_, gg_at (i := hi72 ns + i) (by omega) (by omega), ?_⟩
              (try walk_at "dx23")
              show (if (!decide (hv72 ns i = 0)) = true then _ else _)
              by_cases hv : hv72 ns i = 0
              · rw [if_neg (by rw [decide_eq_true hv]; decide)]
                have hk2 : ∀ y, y < i + 1 → hv72 ns y = 0 := fun y hy => by
                  by_cases hy2 : y < i
                  · exact hk y hy2
                  · rw [show y = i by omega]
                    exact hv
                (have j := hJ () hk2; simp only [List.range_succ, List.map_append, List.map_cons, List.map_nil, fg_cons, fg_nil, List.set_cons_succ, List.set_cons_zero] at j; exact j)
              · rw [if_pos (by rw [decide_eq_false hv]; decide)]
                ((try walk_at "dx23"); repeat (walk_at "one" <;> (try walk_at "dx23")))
                exact nb fun h => hv ((hole_iff okn).mp h.hole i hi)
            · rintro s hk
              ((try walk_at "dx23"); repeat (walk_at "one" <;> (try walk_at "dx23")))
              rw [cutm_hi, cutm_lh rl, cutm_lo]
              have y := yes ⟨okn, hsum.symm, hbits, (hole_iff okn).mpr hk⟩
              rw [ga, gb] at y
              exact y
        · rw [if_pos (by rw [show PyData.eqvAll _ _ = false from Bool.eq_false_iff.mpr fun z => hsum ((enc_int.all _ _).mp z)]; decide)]
          ((try walk_at "dx23"); repeat (walk_at "one" <;> (try walk_at "dx23")))
          exact nb fun h => hsum h.sum.symm
  | none => ((try walk_at "dx23"); repeat (walk_at "one" <;> (try walk_at "dx23"))); exact no fun ⟨_, e, _⟩ => by cases e
  | bool b => ((try walk_at "dx23"); repeat (walk_at "one" <;> (try walk_at "dx23"))); exact no fun ⟨_, e, _⟩ => by cases e
  | int i => ((try walk_at "dx23"); repeat (walk_at "one" <;> (try walk_at "dx23"))); exact no fun ⟨_, e, _⟩ => by cases e
  | tuple xs => ((try walk_at "dx23"); repeat (walk_at "one" <;> (try walk_at "dx23"))); exact no fun ⟨_, e, _⟩ => by cases e
  | str z => ((try walk_at "dx23"); repeat (walk_at "one" <;> (try walk_at "dx23"))); exact no fun ⟨_, e, _⟩ => by cases e
  | dict kv => ((try walk_at "dx23"); repeat (walk_at "one" <;> (try walk_at "dx23"))); exact no fun ⟨_, e, _⟩ => by cases e
local macro_rules | `(tactic| walk_at "dx24") => `(tactic| simp (disch := first | assumption | omega) only [oLt, oGt, List.map_cons, List.map_nil, List.length_cons, List.length_nil, Nat.zero_add, oGe, oShlA, oAnd, ↓exitQ_dat, startD, Nat.reduceAdd, Nat.reduceSub, List.replicate.eq_2, List.replicate, List.cons_append, List.nil_append, ↓x_tOrD, ↓x_tNotD, ↓x_tVal, ↓x_dCB, ↓x_aCons, ↓dVar_0, ↓old_dat, ↓x_dRaw, ↓x_aNil, ↓isi_list, ↓wB_b, ↓isListD_list, Bool.not_true, Bool.false_eq_true, if_true, ↓x_dOp, ↓lnD_lst, ↓x_dC, ↓oI0_ii, decide_eq_true_eq, if_false, ↓tk_0, ↓x_iSeqD, ↓seqDK_l, ↓x_gNm, ↓nN_dat, ↓fg_cons, ↓fg_nil, List.set_cons_succ, List.set_cons_zero, true_and, ↓dVar_1, ↓isi_int, ↓isIntD_int, cl_dat, ↓cl_none, ↓cl_nil, ↓isi_bool, ↓isBoolD_int, ↓isIntD_none, Bool.not_false, ↓isBoolD_none, ↓isIntD_bool, ↓isBoolD_bool, ↓isIntD_list, ↓isBoolD_list, ↓isIntD_tuple, ↓isBoolD_tuple, ↓isIntD_str, ↓isBoolD_str, ↓isIntD_dict, ↓isBoolD_dict, ↓x_dFrz, ↓x_dSl, ↓x_oNo, ↓x_oSome, ↓intK_i, ↓sl_lstD, ↓wD_new, ↓x_gLs, ↓x_gCn, ↓x_gNl0, ↓dVar_2, ↓dVar_3, ↓mul_int, cmul_l, ↓add_int, ↓ne_dd, ↓noD_i, and_true, List.length_map, dep_int, nle_h, eqv_int, ↓x_lc, ↓x_iRange1, ↓rng1_i, ile_h, wipeD, dVar_6, dVar_0, ↓ix_lstD, at_nn, ↓wD_dat, ↓x_dUn, ↓neg_i, ↓x_dCall, ↓x_dStl, ↓stl_new, ↓aO_cons, ↓aO_nil, Bool.and_true, List.append_nil, ↓dVar_4, ↓x_dLst, ↓wDs_nil, ↓e_law_sum, ↓ne_nn, ↓noD_l, ↓noDs_i, dep_lst, eqv_lst, dVar_7, dVar_2, ↓oI_ii, csh_h, ↓noDs_nil, depA_cons, Nat.zero_max, depA_nil, eqvA_cn, eqvA_nn, Int.toNat_natCast, ↓dVar_5, cl_none, ↓cl_dat, ↓inv_i, ↓x_dTup, ↓wDs_cons, ↓x_oTuple, ↓sqK_new, ↓isListD_none, ↓isListD_bool, ↓isListD_int, ↓isListD_tuple, ↓lnD_tup, ↓isListD_str, ↓lnD_str, ↓isListD_dict, ↓lnD_d, oPow, oSub, oXor, ↓x_dCell, ↓old_loc, ↓cel_loc, ↓nN_loc, nextA_eq, isR_h, ilt_h, ↓stl_dat, ↓lsA_l, ↓cel_new, ↓eq_dd, ↓sqK_lst, ↓c_sl, ↓get_a0, ↓c_addn, Nat.reduceLeDiff, isR_app, ↓ix_new, ↓tk_a0, lcR_l, cpow_h, Int.reduceToNat, ↓x_gSb, ↓c_set, ↓set_a0, lcK_l, exitQ_ge, exC_l, ↓c_ix, ↓x_gTp, List.length_set, ↓x_dRevL, ↓revK_c, ↓exitQ_new, List.length_append, List.append_assoc, ↓stl_loc, ↓get_a1])
theorem cut_len (ds : List PyData) (lo hi : Option Int) : (cutD ds lo hi).length ≤ ds.length := by
  unfold cutD
  rw [List.length_take, List.length_drop]
  omega
def sp_law_other : SpD := fun es μ q x => ∃ (n : Nat) (ns : List Int), es = [.loc n, .dat (.list (ns.map .int))] ∧ (isR μ n ∧ (∀ n ∈ ns, 0 ≤ n ∧ n ≤ 255) ∧ (4 ≤ ns.length ∧ ns.length ≤ 64) ∧ (∀ d : PyData, (∀ xs, d = .list xs → xs.length ≤ 100) → q (.dat d) μ) ∧ (∀ xs : List PyData, xs.length ≤ 100 → q (.new xs) μ))
theorem e_law_other {n : Nat} {ns : List Int} {μ : Mu} {q : PQ} {x : XQ} : sp_law_other [.loc n, .dat (.list (ns.map .int))] μ q x = (isR μ n ∧ (∀ n ∈ ns, 0 ≤ n ∧ n ≤ 255) ∧ (4 ≤ ns.length ∧ ns.length ≤ 64) ∧ (∀ d : PyData, (∀ xs, d = .list xs → xs.length ≤ 100) → q (.dat d) μ) ∧ (∀ xs : List PyData, xs.length ≤ 100 → q (.new xs) μ)) := by
  refine propext ⟨fun hyp0 => ?_, fun hyp0 => ⟨n, ns, rfl, hyp0⟩⟩
  obtain ⟨n', ns', eq0, hyp0⟩ := hyp0
  simp only [List.cons.injEq, Exn.mk.injEq, EV.at.injEq, eq_self, EV.dat.injEq, EV.loc.injEq, EV.new.injEq, EV.ro.injEq, EV.exc.injEq, EV.per.injEq, PyData.int.injEq, PyData.str.injEq, PyData.bool.injEq, PyData.list.injEq, PyData.tuple.injEq, and_true, true_and, and_assoc, map_int_inj, ] at eq0
  obtain ⟨rfl, rfl⟩ := eq0
  exact hyp0
theorem ok_law_other (T : Top K mg) : DefAt P w K mg base "_law_other" 2 ["_law_state_here", "_law_numbers_here"] [] [] sp_law_other := by
  refine def_ok sp_law_other T.F_law_other sc_law_other T.m_law_other T.b_law_other (fun cdv A outer s H E hr tk pw => (dss_cons (ds_set (i := 2) sc_law_other.nd rfl (by first | exact Or.inl rfl | exact Or.inr rfl) (de_stl (de_call (ok_law_next T) hr (by decide) (by rfl) tk (fun _ _ => .nil) (da_cons (de_cell (dv 0)) (da_cons de_int da_nil)))))
    (dss_cons (ds_set (i := 3) sc_law_other.nd rfl (by first | exact Or.inl rfl | exact Or.inr rfl) (de_stl (de_call (ok_law_next T) hr (by decide) (by rfl) tk (fun _ _ => .nil) (da_cons (de_cell (dv 0)) (da_cons (de_stl (de_callB call_lenA cs_lenD (by rfl) T.n_len bb_len (da_cons (dv 1) da_nil))) da_nil)))))
    (dss_cons (ds_set (i := 4) sc_law_other.nd rfl (by first | exact Or.inl rfl | exact Or.inr rfl) (de_cell (de_callTy (call_listA rfl) cs_listA (by rfl) T.n_list bt_list (da_cons (dv 1) da_nil))))
    (dss_cons (ds_if (dt_cmp (opA_eq hr.units) os_eq (dv 2) de_int (nomark _)) (dss_one (ds_ret (de_ix ix_seq os_ix (de_lst (da_cons de_non (da_cons de_str (da_cons (de_frz (de_callTy call_tuple_of cs_tuple (by rfl) T.n_tuple bt_tuple (da_cons (dv 1) da_nil))) (da_cons (de_frz (de_lst da_nil)) (da_cons (de_frz (de_slice slA os_sl (dv 4) do_none (do_some (dv 3)))) (da_cons (de_frz (de_op opA_add os_add (dv 4) (de_lst (da_cons de_int da_nil)))) (da_cons (de_frz (de_lst (da_cons de_int da_nil))) (da_cons (de_frz (de_slice slA os_sl (dv 4) do_none (do_some (de_un un_neg us_neg de_int)))) da_nil))))))))) (de_call (ok_law_next T) hr (by decide) (by rfl) tk (fun _ _ => .nil) (da_cons (de_cell (dv 0)) (da_cons de_int da_nil))) (fun _ _ => rfl)))) dss_nil)
    (dss_cons (ds_if (dt_cmp (opA_eq hr.units) os_eq (dv 2) de_int (nomark _)) (dss_cons (ds_asg (de_frz (de_ix ix_seq os_ix (de_lst (da_cons de_int (da_cons (de_frz (de_un un_neg us_neg de_int)) (da_cons de_bl (da_cons de_non (da_cons de_str (da_cons (de_frz (de_op op_pow os_pow de_int de_int)) da_nil))))))) (de_call (ok_law_next T) hr (by decide) (by rfl) tk (fun _ _ => .nil) (da_cons (de_cell (dv 0)) (da_cons de_int da_nil))) (fun _ _ => rfl))) (dg_sub (W := WF) (dv 4) (dv 3) set_list ss_list))
    (dss_one (ds_ret (dv 4)))) dss_nil)
    (dss_cons (ds_if (dt_cmp (opA_eq hr.units) os_eq (dv 2) de_int (nomark _)) (dss_cons (ds_set (i := 5) sc_law_other.nd rfl (by first | exact Or.inl rfl | exact Or.inr rfl) (de_stl (de_call (ok_law_next T) hr (by decide) (by rfl) tk (fun _ _ => .nil) (da_cons (de_cell (dv 0)) (da_cons (de_stl (de_callB call_lenA cs_lenD (by rfl) T.n_len bb_len (da_cons (dv 1) da_nil))) da_nil)))))
    (dss_cons (ds_asg (de_frz (de_tup (da_cons (de_frz (de_ix ix_seq os_ix (dv 4) (dv 5) (fun _ _ => rfl))) (da_cons (de_frz (de_ix ix_seq os_ix (dv 4) (dv 3) (fun _ _ => rfl))) da_nil)))) (dg_tup (n := 2) rfl (dgs_cons (dg_sub (W := WF) (dv 4) (dv 3) set_list ss_list) (dgs_cons (dg_sub (W := WF) (dv 4) (dv 5) set_list ss_list) dgs_nil))))
    (dss_one (ds_ret (dv 4))))) dss_nil)
    (dss_cons (ds_if (dt_cmp (opA_eq hr.units) os_eq (dv 2) de_int (nomark _)) (dss_one (ds_ret (de_revL (dv 4)))) dss_nil)
    (dss_cons (ds_set (i := 3) sc_law_other.nd rfl (by first | exact Or.inl rfl | exact Or.inr rfl) (de_stl (de_call (ok_law_next T) hr (by decide) (by rfl) tk (fun _ _ => .nil) (da_cons (de_cell (dv 0)) (da_cons (de_stl (de_op op_sub os_sub (de_callB call_lenA cs_lenD (by rfl) T.n_len bb_len (da_cons (dv 1) da_nil)) de_int)) da_nil)))))
    (dss_cons (ds_asg (de_frz (de_ix ix_seq os_ix (de_lst (da_cons (de_frz (de_stl (de_call (ok_law_next T) hr (by decide) (by rfl) tk (fun _ _ => .nil) (da_cons (de_cell (dv 0)) (da_cons de_int da_nil))))) (da_cons (de_frz (de_op op_xor os_xor (de_ix ix_seq os_ix (dv 4) (dv 3) (fun _ _ => rfl)) (de_op opA_shl os_shlA de_int (de_call (ok_law_next T) hr (by decide) (by rfl) tk (fun _ _ => .nil) (da_cons (de_cell (dv 0)) (da_cons de_int da_nil)))))) (da_cons de_int da_nil)))) (de_call (ok_law_next T) hr (by decide) (by rfl) tk (fun _ _ => .nil) (da_cons (de_cell (dv 0)) (da_cons de_int da_nil))) (fun _ _ => rfl))) (dg_sub (W := WF) (dv 4) (dv 3) set_list ss_list))
    (dss_cons (ds_set (i := 4) sc_law_other.nd rfl (by first | exact Or.inl rfl | exact Or.inr rfl) (de_cell (de_slice slA os_sl (dv 4) do_none (do_some (de_un un_neg us_neg de_int)))))
    (dss_one (ds_ret (de_op opA_add os_add (dv 4) (de_call (ok_law_sum T) hr (by decide) (by rfl) tk (fun _ _ => .nil) (da_cons (de_stl (dv 4)) da_nil)))))))))))))))) ?_
  rintro es μ q x - ⟨n, ns, rfl, hs, hr, hl, k1, k2⟩
  have hn := hs.lt
  ((try walk_at "dx24"); repeat (walk_at "one" <;> (try walk_at "dx24")))
  (try walk_at "ok")
  intro way w0 w1
  ((try walk_at "dx24"); repeat (walk_at "one" <;> (try walk_at "dx24")))
  (try walk_at "ok")
  intro at0 t0 t1
  ((try walk_at "dx24"); repeat (walk_at "one" <;> (try walk_at "dx24")))
  split
  · ((try walk_at "dx24"); repeat (walk_at "one" <;> (try walk_at "dx24")))
    (try walk_at "ok")
    intro r r0 r1
    (try walk_at "dx24")
    refine pick_at r0 (by simpa using r1) ?_
    intro d hd
    have c1 := cut_len (ns.map .int) none (some at0)
    have c2 := cut_len (ns.map .int) none (some (-1))
    rw [List.length_map] at c1 c2
    refine k1 d fun xs e => ?_
    subst e
    simp only [List.mem_cons, List.not_mem_nil, or_false, PyData.list.injEq, reduceCtorEq, false_or] at hd
    rcases hd with rfl | rfl | rfl | rfl | rfl
    · simp
    · omega
    · simp; omega
    · simp
    · omega
  · ((try walk_at "dx24"); repeat (walk_at "one" <;> (try walk_at "dx24")))
    split
    · ((try walk_at "dx24"); repeat (walk_at "one" <;> (try walk_at "dx24")))
      (try walk_at "ok")
      intro r r0 r1
      (try walk_at "dx24")
      refine pick_at r0 (by simpa using r1) ?_
      intro d hd
      refine ⟨_, ixN_nn t0 t1, ?_⟩
      ((try walk_at "dx24"); repeat (walk_at "one" <;> (try walk_at "dx24")))
      exact k2 _ (by simp; omega)
    · ((try walk_at "dx24"); repeat (walk_at "one" <;> (try walk_at "dx24")))
      split
      · ((try walk_at "dx24"); repeat (walk_at "one" <;> (try walk_at "dx24")))
        intro b0 b1 b2
        ((try walk_at "dx24"); repeat (walk_at "one" <;> (try walk_at "dx24")))
        refine ⟨_, gg_at (i := b0.toNat) (by omega) (by omega), _, gg_at (i := at0.toNat) (by omega) (by omega), ?_⟩
        ((try walk_at "dx24"); repeat (walk_at "one" <;> (try walk_at "dx24")))
        refine ⟨_, ixN_nn t0 t1, ?_⟩
        ((try walk_at "dx24"); repeat (walk_at "one" <;> (try walk_at "dx24")))
        refine ⟨_, ixN_nn b1 b2, ?_⟩
        ((try walk_at "dx24"); repeat (walk_at "one" <;> (try walk_at "dx24")))
        exact k2 _ (by simp; omega)
      · ((try walk_at "dx24"); repeat (walk_at "one" <;> (try walk_at "dx24")))
        split
        · ((try walk_at "dx24"); repeat (walk_at "one" <;> (try walk_at "dx24")))
          exact k2 _ (by simp; omega)
        · ((try walk_at "dx24"); repeat (walk_at "one" <;> (try walk_at "dx24")))
          intro c0 c1 c2
          ((try walk_at "dx24"); repeat (walk_at "one" <;> (try walk_at "dx24")))
          intro v v0 v1
          (try walk_at "dx24")
          refine ⟨_, gg_at (i := c0.toNat) (by omega) (by omega), ?_⟩
          (try walk_at "dx24")
          intro sh sh0 sh1
          refine ⟨by rw [csh_h sh0 (by omega) (by decide) (by decide)]; trivial, ?_⟩
          intro r3 q0 q1
          (try walk_at "dx24")
          refine pick_at q0 (by simpa using q1) ?_
          intro d hd
          obtain ⟨m, rfl⟩ : ∃ m : Int, d = .int m := by
            simp only [List.mem_cons, List.not_mem_nil, or_false] at hd
            rcases hd with rfl | rfl | rfl <;> exact ⟨_, rfl⟩
          (try walk_at "dx24")
          refine ⟨_, ixN_nn c1 (by omega), ?_⟩
          rw [show (ns.map PyData.int).set c0.toNat (.int m) = (ns.set c0.toNat m).map .int from by rw [List.map_set]]
          have ls : (ns.set c0.toNat m).length = ns.length := List.length_set
          generalize ns.set c0.toNat m = ms at *
          (try walk_at "dx24")
          (first | (walk_at "one" <;> (try walk_at "dx24")) | skip)
          rw [cut_m2 (by omega)]
          have lt : (ms.take (ms.length - 2)).length ≤ 62 := by rw [List.length_take]; omega
          generalize ms.take (ms.length - 2) = ts at *
          ((try walk_at "dx24"); repeat (walk_at "one" <;> (try walk_at "dx24")))
          refine ⟨ts, .loc (by simp), by omega, by simp [sumL]; omega, k2 _ (by simp [sumL]; omega)⟩
local macro_rules | `(tactic| walk_at "dx25") => `(tactic| simp (disch := first | assumption | omega) only [oLt, oGt, List.map_cons, List.map_nil, List.length_cons, List.length_nil, Nat.zero_add, oGe, oShlA, oAnd, ↓exitQ_dat, startD, Nat.reduceAdd, Nat.reduceSub, List.replicate.eq_2, List.replicate, List.cons_append, List.nil_append, ↓x_tOrD, ↓x_tNotD, ↓x_tVal, ↓x_dCB, ↓x_aCons, ↓dVar_0, ↓old_dat, ↓x_dRaw, ↓x_aNil, ↓isi_list, ↓wB_b, ↓isListD_list, Bool.not_true, Bool.false_eq_true, if_true, ↓x_dOp, ↓lnD_lst, ↓x_dC, ↓oI0_ii, decide_eq_true_eq, if_false, ↓tk_0, ↓x_iSeqD, ↓seqDK_l, ↓x_gNm, ↓nN_dat, ↓fg_cons, ↓fg_nil, List.set_cons_succ, List.set_cons_zero, true_and, ↓dVar_1, ↓isi_int, ↓isIntD_int, cl_dat, ↓cl_none, ↓cl_nil, ↓isi_bool, ↓isBoolD_int, ↓isIntD_none, Bool.not_false, ↓isBoolD_none, ↓isIntD_bool, ↓isBoolD_bool, ↓isIntD_list, ↓isBoolD_list, ↓isIntD_tuple, ↓isBoolD_tuple, ↓isIntD_str, ↓isBoolD_str, ↓isIntD_dict, ↓isBoolD_dict, ↓x_dFrz, ↓x_dSl, ↓x_oNo, ↓x_oSome, ↓intK_i, ↓sl_lstD, ↓wD_new, ↓x_gLs, ↓x_gCn, ↓x_gNl0, ↓dVar_2, ↓dVar_3, ↓mul_int, cmul_l, ↓add_int, ↓ne_dd, ↓noD_i, and_true, List.length_map, dep_int, nle_h, eqv_int, ↓x_lc, ↓x_iRange1, ↓rng1_i, ile_h, wipeD, dVar_6, dVar_0, ↓ix_lstD, at_nn, ↓wD_dat, ↓x_dUn, ↓neg_i, ↓x_dCall, ↓x_dStl, ↓stl_new, ↓aO_cons, ↓aO_nil, Bool.and_true, List.append_nil, ↓dVar_4, ↓x_dLst, ↓wDs_nil, ↓e_law_sum, ↓ne_nn, ↓noD_l, ↓noDs_i, dep_lst, eqv_lst, dVar_7, dVar_2, ↓oI_ii, csh_h, ↓noDs_nil, depA_cons, Nat.zero_max, depA_nil, eqvA_cn, eqvA_nn, Int.toNat_natCast, ↓dVar_5, cl_none, ↓cl_dat, ↓inv_i, ↓x_dTup, ↓wDs_cons, ↓x_oTuple, ↓sqK_new, ↓isListD_none, ↓isListD_bool, ↓isListD_int, ↓isListD_tuple, ↓lnD_tup, ↓isListD_str, ↓lnD_str, ↓isListD_dict, ↓lnD_d, oPow, oSub, oXor, ↓x_dCell, ↓old_loc, ↓cel_loc, ↓nN_loc, nextA_eq, isR_h, ilt_h, ↓stl_dat, ↓lsA_l, ↓cel_new, ↓eq_dd, ↓sqK_lst, ↓c_sl, ↓get_a0, ↓c_addn, Nat.reduceLeDiff, isR_app, ↓ix_new, ↓tk_a0, lcR_l, cpow_h, Int.reduceToNat, ↓x_gSb, ↓c_set, ↓set_a0, lcK_l, exitQ_ge, exC_l, ↓c_ix, ↓x_gTp, List.length_set, ↓x_dRevL, ↓revK_c, ↓exitQ_new, List.length_append, List.append_assoc, ↓stl_loc, ↓get_a1])
local macro_rules | `(tactic| walk_at "dx26") => `(tactic| simp (disch := first | assumption | omega) only [List.length_cons, List.length_nil, Nat.zero_add, Nat.reduceAdd, oMod, ↓exitQ_dat, startD, List.map_cons, List.map_nil, Nat.reduceSub, List.replicate.eq_2, List.replicate, List.cons_append, List.nil_append, ↓x_dStl, ↓x_dCall, ↓x_aCons, ↓dVar_1, ↓old_dat, ↓stl_dat, ↓x_aNil, ↓aO_cons, ↓nN_dat, ↓aO_nil, Bool.and_true, List.append_nil, List.set_cons_succ, List.set_cons_zero, ↓e_law_numbers, nle_h, and_true, ↓stl_new, true_and, ↓x_dCell, ↓e_bytes_of, ↓cel_new, ↓nN_loc, ↓x_tOrD, ↓x_tNotD, ↓x_tVal, ↓x_dCB, ↓dVar_3, ↓old_loc, ↓x_dRaw, ↓c_isi_list, if_true, ↓x_dOp, ↓dVar_2, ↓ne_cD, ↓noD_l, ↓noDs_i, dep_lst, ↓wB_b, eqv_lst, ↓stl_loc, ↓x_dLst, ↓x_dFrz, ↓wD_dat, ↓wDs_nil, ↓wD_new, ↓wDs_cons, ↓e_law_tried, ↓ne_nn, ↓noDs_cons, ↓noDs_nil, depA_cons, depA_nil, Nat.max_zero, ↓get_a0, isiB_l, Bool.not_true, Bool.false_eq_true, lcR_l, if_false, eqvA_cc, eqvA_nn, ↓dVar_0, ↓cel_loc, ↓lnD_lst, List.length_map, nextA_eq, isR_app, ilt_h, ↓dVar_4, ↓c_ix, at_nn, ↓x_dC, ↓x_gSb, ↓c_set, ↓add_int, ↓oI_ii, ↓set_a0, lcK_l, ↓ne_nd, ↓noD_n, ↓noD_i, dep_none, dep_int, Nat.zero_max, eqv_int, decide_true, ↓x_iRange1, ↓rng1_i, ile_h, Int.reduceToNat, ↓x_gNm, List.length_append, ↓fg_cons, ↓fg_nil, ↓e_law_other, ↓dVar_6, ↓e_law_tells, ↓dVar_7, ↓x_oIsN, isRaw, DL.isNon, ↓int_b, ↓mul_ni, cl_loc, ↓cl_none, ↓cl_dat, ↓cl_nil, Bool.true_and, ↓tk_a1, ↓tk_a0])
theorem eqv_cs (c : Cs) : PyData.eqv (csD c) (csD c) = true := enc_cs.eqvs c
theorem nod_cs (c : Cs) : noD (csD c) = true := enc_cs.nod c
theorem ans_some (c : Cs) : ansD (some c) = [csD c, .list []] := rfl
theorem ans_none : ansD none = [.none, .list [.int 9]] := rfl
theorem ite_no {c a b : Prop} [Decidable c] (h : ¬ c) (k : b) : if c then a else b := by
  rw [if_neg h]
  exact k
theorem both {A : PyData → Prop} (h : ∀ d, (∀ xs, d = .list xs → xs.length ≤ 100) → A d) : (∀ d, (∀ xs, d = .list xs → xs.length ≤ 100) → A d) ∧ (∀ xs : List PyData, xs.length ≤ 100 → A (.list xs)) := ⟨h, fun xs hx => h _ fun ys e => by cases e; exact hx⟩
local macro_rules | `(tactic| walk_at "dx27") => `(tactic| simp (disch := first | assumption | omega) only [List.length_cons, List.length_nil, Nat.zero_add, Nat.reduceAdd, oMod, ↓exitQ_dat, startD, List.map_cons, List.map_nil, Nat.reduceSub, List.replicate.eq_2, List.replicate, List.cons_append, List.nil_append, ↓x_dStl, ↓x_dCall, ↓x_aCons, ↓dVar_1, ↓old_dat, ↓stl_dat, ↓x_aNil, ↓aO_cons, ↓nN_dat, ↓aO_nil, Bool.and_true, List.append_nil, List.set_cons_succ, List.set_cons_zero, ↓e_law_numbers, nle_h, and_true, ↓stl_new, true_and, ↓x_dCell, ↓e_bytes_of, ↓cel_new, ↓nN_loc, ↓x_tOrD, ↓x_tNotD, ↓x_tVal, ↓x_dCB, ↓dVar_3, ↓old_loc, ↓x_dRaw, ↓c_isi_list, if_true, ↓x_dOp, ↓dVar_2, ↓ne_cD, ↓noD_l, ↓noDs_i, dep_lst, ↓wB_b, eqv_lst, ↓stl_loc, ↓x_dLst, ↓x_dFrz, ↓wD_dat, ↓wDs_nil, ↓wD_new, ↓wDs_cons, ↓e_law_tried, ↓ne_nn, ↓noDs_cons, ↓nod_cs, ↓noDs_nil, depA_cons, depA_nil, Nat.max_zero, ↓get_a0, isiB_l, Bool.not_true, Bool.false_eq_true, lcR_l, if_false, eqvA_cc, ↓eqv_cs, eqvA_nn, ↓dVar_0, ↓cel_loc, ↓lnD_lst, List.length_map, nextA_eq, isR_app, ilt_h, ↓dVar_4, ↓c_ix, at_nn, ↓x_dC, ↓x_gSb, ↓c_set, ↓add_int, ↓oI_ii, ↓set_a0, lcK_l, ↓ne_nd, ↓noD_n, ↓noD_i, dep_none, dep_int, Nat.zero_max, eqv_int, decide_true, ↓x_iRange1, ↓rng1_i, ile_h, Int.reduceToNat, ↓x_gNm, List.length_append, ↓fg_cons, ↓fg_nil, ↓e_law_other, ↓dVar_6, ↓e_law_tells, ↓dVar_7, ↓x_oIsN, isRaw, DL.isNon, ↓int_b, ↓mul_ni, cl_loc, ↓cl_none, ↓cl_dat, ↓cl_nil, Bool.true_and, ↓tk_a1, ↓tk_a0])
def sp_law_right : SpD := fun es μ q x => ∃ (n : Nat) (c : Cs), es = [.loc n, .dat (csD c)] ∧ (isR μ n ∧ OkC c ∧ q (.dat (.bool true)) μ)
theorem e_law_right {n : Nat} {c : Cs} {μ : Mu} {q : PQ} {x : XQ} : sp_law_right [.loc n, .dat (csD c)] μ q x = (isR μ n ∧ OkC c ∧ q (.dat (.bool true)) μ) := by
  refine propext ⟨fun hyp0 => ?_, fun hyp0 => ⟨n, c, rfl, hyp0⟩⟩
  obtain ⟨n', c', eq0, hyp0⟩ := hyp0
  simp only [List.cons.injEq, Exn.mk.injEq, EV.at.injEq, eq_self, EV.dat.injEq, EV.loc.injEq, EV.new.injEq, EV.ro.injEq, EV.exc.injEq, EV.per.injEq, PyData.int.injEq, PyData.str.injEq, PyData.bool.injEq, PyData.list.injEq, PyData.tuple.injEq, and_true, true_and, and_assoc, map_int_inj, csD_inj] at eq0
  obtain ⟨rfl, rfl⟩ := eq0
  exact hyp0
theorem ok_law_right (T : Top K mg) : DefAt P w K mg base "_law_right" 6 ["_law_state_here", "_law_cells_here"] [] [] sp_law_right := by
  refine def_ok sp_law_right T.F_law_right sc_law_right T.m_law_right T.b_law_right (fun cdv A outer s H E hr tk pw => (dss_cons (ds_set (i := 2) sc_law_right.nd rfl (by first | exact Or.inl rfl | exact Or.inr rfl) (de_stl (de_call (ok_law_numbers T) hr (by decide) (by rfl) tk (fun _ _ => .nil) (da_cons (de_stl (dv 1)) da_nil))))
    (dss_cons (ds_set (i := 3) sc_law_right.nd rfl (by first | exact Or.inl rfl | exact Or.inr rfl) (de_cell (de_call (ok_bytes_of T) hr (by decide) (by rfl) tk (fun _ _ => .nil) (da_cons (de_stl (dv 1)) da_nil))))
    (dss_cons (ds_if (dw_or (dt_not (dt_val (de_callB call_isiY cs_isi (by rfl) T.n_isinstance bb_isinstance (da_cons (dv 3) (da_cons (de_ty T.n_list bt_list) da_nil))))) (dw_or (dt_cmp (opA_ne hr.units) os_ne (dv 3) (dv 2) (nomark _)) (dw_or1 (dt_cmp (opA_ne hr.units) os_ne (de_call (ok_law_tried T) hr (by decide) (by rfl) tk (fun _ _ => .nil) (da_cons (de_stl (dv 3)) da_nil)) (de_lst (da_cons (de_frz (dv 1)) (da_cons (de_frz (de_lst da_nil)) da_nil))) (nomark _))))).dt (dss_one (ds_ret de_bl)) dss_nil)
    (dss_cons (ds_set (i := 4) sc_law_right.nd rfl (by first | exact Or.inl rfl | exact Or.inr rfl) (de_stl (de_call (ok_law_next T) hr (by decide) (by rfl) tk (fun _ _ => .nil) (da_cons (de_cell (dv 0)) (da_cons (de_stl (de_callB call_lenA cs_lenD (by rfl) T.n_len bb_len (da_cons (dv 2) da_nil))) da_nil)))))
    (dss_cons (ds_asg (de_frz (de_op op_mod os_mod (de_op opA_add os_add (de_op opA_add os_add (de_ix ix_seq os_ix (dv 3) (dv 4) (fun _ _ => rfl)) de_int) (de_call (ok_law_next T) hr (by decide) (by rfl) tk (fun _ _ => .nil) (da_cons (de_cell (dv 0)) (da_cons de_int da_nil)))) de_int)) (dg_sub (W := WF) (dv 3) (dv 4) set_list ss_list))
    (dss_cons (ds_if (dw_or (dt_cmp (opA_ne hr.units) os_ne (de_call (ok_law_tried T) hr (by decide) (by rfl) tk (fun _ _ => .nil) (da_cons (de_stl (dv 3)) da_nil)) (de_lst (da_cons de_non (da_cons (de_frz (de_lst (da_cons de_int da_nil))) da_nil))) (nomark _)) (dw_or1 (dt_cmp (opA_ne hr.units) os_ne (de_call (ok_bytes_of T) hr (by decide) (by rfl) tk (fun _ _ => .nil) (da_cons (de_stl (dv 1)) da_nil)) (dv 2) (nomark _)))).dt (dss_one (ds_ret de_bl)) dss_nil)
    (dss_cons (ds_forF [1, 3, 4, 5, 6, 7] pw rfl (di_range1 (by rfl) T.n_range (da_cons de_int da_nil)) (dg_name (i := 5) sc_law_right.nd rfl (by first | exact Or.inl rfl | exact Or.inr rfl)) (dss_cons (ds_set (i := 6) sc_law_right.nd rfl (by first | exact Or.inl rfl | exact Or.inr rfl) (de_stl (de_call (ok_law_other T) hr (by decide) (by rfl) tk (fun _ _ => .nil) (da_cons (de_cell (dv 0)) (da_cons (de_stl (dv 2)) da_nil)))))
    (dss_cons (ds_set (i := 7) sc_law_right.nd rfl (by first | exact Or.inl rfl | exact Or.inr rfl) (de_stl (de_call (ok_law_tells T) hr (by decide) (by rfl) tk (fun _ _ => .nil) (da_cons (de_stl (dv 6)) da_nil))))
    (dss_one (ds_if (dt_cmp (opA_ne hr.units) os_ne (de_call (ok_law_tried T) hr (by decide) (by rfl) tk (fun _ _ => .nil) (da_cons (de_stl (dv 6)) da_nil)) (de_lst (da_cons (de_frz (dv 7)) (da_cons (de_frz (de_op opA_mul os_mul (de_lst (da_cons de_int da_nil)) (de_callTy call_int1 cs_int (by rfl) T.n_int bt_int (da_cons (de_cmp op_isN os_isN (dv 7) de_non (nomark _)) da_nil)))) da_nil))) (nomark _)) (dss_one (ds_ret de_bl)) dss_nil)))))
    (dss_one (ds_ret de_bl)))))))))) ?_
  rintro es μ q x - ⟨n, c, rfl, hs, hc, h⟩
  have hn := hs.lt
  have lf := hc.lf
  have lb := hc.lb
  have lo := hc.lo
  have hh := hc.h
  have hg := nums_good hc
  have hk := nums_okN hc
  have hlen := hk.len
  have hback := (cs_back hc).1
  have hbad := @bad_set c hc
  ((try walk_at "dx27"); repeat (walk_at "one" <;> (try walk_at "dx27")))
  have d1 := depA_map PyData.int (n := 0) enc_int.dep (numsOf c)
  generalize hE : numsOf c = E at *
  refine ⟨by omega, ?_⟩
  rw [if_neg (by rw [(enc_int.all _ _).mpr rfl]; decide)]
  refine ⟨_, .loc (xs := E.map .int) (by simp), fun xs e => by cases e; simp; omega, fun o ho => ?_⟩
  obtain rfl : o = some c := by rw [← hback]; exact ho.uniq (.yes rfl hg)
  have dc := enc_cs.dep c
  rw [ans_some]
  ((try walk_at "dx27"); repeat (walk_at "one" <;> (try walk_at "dx27")))
  intro at0 t0 t1
  (try walk_at "dx27")
  (first | (walk_at "one" <;> (try walk_at "dx27")) | skip)
  refine ⟨_, gg_at (i := at0.toNat) (by omega) (by omega), ?_⟩
  (try walk_at "dx27")
  intro v v0 v1
  (try walk_at "dx27")
  refine ⟨_, ixN_nn t0 t1, ?_⟩
  have hv := hbad (i := at0.toNat) (v := (gg E at0.toNat + 1 + v) % 256) (by omega) ⟨by omega, by omega⟩ (by
    have h1 := hk.1 _ (gg_mem (ns := E) (i := at0.toNat) (by omega))
    rw [← gg_get (show at0.toNat < E.length by omega)]
    omega)
  rw [← List.map_set (f := PyData.int)]
  have hsl : (E.set at0.toNat ((gg E at0.toNat + 1 + v) % 256)).length = E.length := List.length_set
  generalize E.set at0.toNat ((gg E at0.toNat + 1 + v) % 256) = E2 at *
  (try walk_at "dx27")
  (first | (walk_at "one" <;> (try walk_at "dx27")) | skip)
  refine ⟨_, .loc (xs := E2.map .int) (by simp), fun xs e => by cases e; simp; omega, fun o ho2 => ?_⟩
  obtain rfl : o = none := ho2.uniq (.no fun ⟨ms, e, g⟩ => hv (by
    obtain rfl : E2 = ms := lst_inj e
    exact g))
  rw [ans_none]
  ((try walk_at "dx27"); repeat (walk_at "one" <;> (try walk_at "dx27")))
  rw [hE]
  rw [if_neg (by decide), if_neg (by rw [(enc_int.all _ _).mpr rfl]; decide)]
  (try walk_at "dx27")
  (first | (walk_at "one" <;> (try walk_at "dx27")) | skip)
  refine for_stR (fun _ (_ : Unit) => True) (fun η _ => η) (fun μ _ => μ) () rfl rfl trivial (fun _ => trivial) ?_ ?_
  · rintro i s J hi - hJ
    (try walk_at "dx27")
    (first | (walk_at "one" <;> (try walk_at "dx27")) | skip)
    refine ⟨hk.1, both fun d hd => ?_⟩
    (try walk_at "dx27")
    (first | (walk_at "one" <;> (try walk_at "dx27")) | skip)
    refine ⟨hd, fun o ho3 => ?_⟩
    cases o with
    | none =>
      rw [show optD none = PyData.none from rfl]
      (try walk_at "dx27")
      (first | (walk_at "one" <;> (try walk_at "dx27")) | skip)
      refine ⟨_, .dat d, hd, fun o2 ho4 => ?_⟩
      obtain rfl : o2 = none := ho4.uniq ho3
      rw [ans_none]
      (try walk_at "dx27")
      refine ⟨rfl, ?_⟩
      split
      · rename_i gbad
        exact absurd gbad (show ¬ ((!(PyData.none.eqv PyData.none && PyData.eqvAll [PyData.int 9] [PyData.int 9])) = true) by simp [PyData.eqv, PyData.eqvAll])
      · (have j := hJ () trivial; simp only [List.range_succ, List.map_append, List.map_cons, List.map_nil, fg_cons, fg_nil, List.set_cons_succ, List.set_cons_zero] at j; exact j)
    | some c2 =>
      rw [show optD (some c2) = csD c2 from rfl]
      have dc2 := enc_cs.dep c2
      (try walk_at "dx27")
      (first | (walk_at "one" <;> (try walk_at "dx27")) | skip)
      refine ⟨_, .dat d, hd, fun o2 ho4 => ?_⟩
      obtain rfl : o2 = some c2 := ho4.uniq ho3
      rw [ans_some]
      (try walk_at "dx27")
      refine ⟨rfl, ?_⟩
      refine ite_no (show ¬ ((!PyData.eqvAll [] []) = true) by simp [PyData.eqvAll]) ?_
      (have j := hJ () trivial; simp only [List.range_succ, List.map_append, List.map_cons, List.map_nil, fg_cons, fg_nil, List.set_cons_succ, List.set_cons_zero] at j; exact j)
  · rintro s -
    ((try walk_at "dx27"); repeat (walk_at "one" <;> (try walk_at "dx27")))
    exact h
local macro_rules | `(tactic| walk_at "dx28") => `(tactic| simp (disch := first | assumption | omega) only [List.length_cons, List.length_nil, Nat.zero_add, Nat.reduceAdd, oMod, ↓exitQ_dat, startD, List.map_cons, List.map_nil, Nat.reduceSub, List.replicate.eq_2, List.replicate, List.cons_append, List.nil_append, ↓x_dStl, ↓x_dCall, ↓x_aCons, ↓dVar_1, ↓old_dat, ↓stl_dat, ↓x_aNil, ↓aO_cons, ↓nN_dat, ↓aO_nil, Bool.and_true, List.append_nil, List.set_cons_succ, List.set_cons_zero, ↓e_law_numbers, nle_h, and_true, ↓stl_new, true_and, ↓x_dCell, ↓e_bytes_of, ↓cel_new, ↓nN_loc, ↓x_tOrD, ↓x_tNotD, ↓x_tVal, ↓x_dCB, ↓dVar_3, ↓old_loc, ↓x_dRaw, ↓c_isi_list, if_true, ↓x_dOp, ↓dVar_2, ↓ne_cD, ↓noD_l, ↓noDs_i, dep_lst, ↓wB_b, eqv_lst, ↓stl_loc, ↓x_dLst, ↓x_dFrz, ↓wD_dat, ↓wDs_nil, ↓wD_new, ↓wDs_cons, ↓e_law_tried, ↓ne_nn, ↓noDs_cons, ↓nod_cs, ↓noDs_nil, depA_cons, depA_nil, Nat.max_zero, ↓get_a0, isiB_l, Bool.not_true, Bool.false_eq_true, lcR_l, if_false, eqvA_cc, ↓eqv_cs, eqvA_nn, ↓dVar_0, ↓cel_loc, ↓lnD_lst, List.length_map, nextA_eq, isR_app, ilt_h, ↓dVar_4, ↓c_ix, at_nn, ↓x_dC, ↓x_gSb, ↓c_set, ↓add_int, ↓oI_ii, ↓set_a0, lcK_l, ↓ne_nd, ↓noD_n, ↓noD_i, dep_none, dep_int, Nat.zero_max, eqv_int, decide_true, ↓x_iRange1, ↓rng1_i, ile_h, Int.reduceToNat, ↓x_gNm, List.length_append, ↓fg_cons, ↓fg_nil, ↓e_law_other, ↓dVar_6, ↓e_law_tells, ↓dVar_7, ↓x_oIsN, isRaw, DL.isNon, ↓int_b, ↓mul_ni, cl_loc, ↓cl_none, ↓cl_dat, ↓cl_nil, Bool.true_and, ↓tk_a1, ↓tk_a0])
local macro_rules | `(tactic| walk_at "dx29") => `(tactic| simp (disch := first | assumption | omega) only [List.length_cons, List.length_nil, Nat.zero_add, Nat.reduceAdd, ↓exitQ_dat, startD, List.map_cons, List.map_nil, Nat.reduceSub, List.replicate.eq_2, List.replicate, List.cons_append, List.nil_append, ↓x_iRange1, ↓x_aCons, ↓x_dCB, ↓x_dC, ↓dVar_0, ↓old_ro, ↓x_aNil, ↓lnD_ro, ↓min_ii, ↓max_ii, ↓rng1_i, List.length_map, ile_h, and_true, true_and, ↓x_gNm, ↓nN_dat, ↓fg_cons, ↓fg_nil, List.set_cons_succ, List.set_cons_zero, ↓x_dCellA, ↓x_dCall, ↓x_dStl, ↓stl_ro, ↓dVar_1, ↓old_dat, ↓stl_dat, ↓aO_cons, ↓nN_ro, ↓aO_nil, Bool.and_true, List.append_nil, cellA_eq, nle_h, ↓stateA_eq, ↓cellA_new, ↓nN_loc, rng_c, forall_const, ↓x_tNotD, ↓x_tVal, ↓x_dCell, ↓dVar_2, ↓old_loc, ↓cel_loc, Bool.true_and, cl_ro, ↓cl_none, ↓cl_nil, ↓e_law_cells, isR_last, ↓e_law_right, ↓wB_b, Bool.not_true, Bool.false_eq_true, ↓tk_a0, if_false, ↓tk_0])
theorem ok_law (T : Top K mg) : FnOk P w K mg base (L2.CX P w) 7 T.a_law T.fd_law ["_law_script"] (spOf K 1 spLawD) := by
  refine fd_of T.F_law sc_law (fun cdv A outer s H E hr => ((fun tk pw => (dss_cons (ds_forF [1, 2] pw rfl (di_range1 (by rfl) T.n_range (da_cons (de_callB (call_max2 rfl) cs_max2 (by rfl) T.n_max bb_max (da_cons de_int (da_cons (de_callB (call_min2 rfl) cs_min2 (by rfl) T.n_min bb_min (da_cons (de_callB call_lenA cs_lenD (by rfl) T.n_len bb_len (da_cons (dv 0) da_nil)) (da_cons de_int da_nil))) da_nil))) da_nil)) (dg_name (i := 1) sc_law.nd rfl (by first | exact Or.inl rfl | exact Or.inr rfl)) (dss_cons (ds_set (i := 2) sc_law.nd rfl (by first | exact Or.inl rfl | exact Or.inr rfl) (de_cellA rngP (de_call (ok_law_state T) hr (by decide) (by rfl) tk (fun _ _ => .nil) (da_cons (de_stl (de_call (ok_law_cell_at T) hr (by decide) (by rfl) tk (fun _ _ => .nil) (da_cons (de_stl (dv 0)) (da_cons (de_stl (dv 1)) da_nil)))) (da_cons (de_stl (dv 1)) da_nil)))))
    (dss_one (ds_if (dt_not (dt_val (de_call (ok_law_right T) hr (by decide) (by rfl) tk (fun _ _ => .nil) (da_cons (de_cell (dv 2)) (da_cons (de_stl (de_call (ok_law_cells T) hr (by decide) (by rfl) tk (fun _ _ => .nil) (da_cons (de_cell (dv 2)) da_nil))) da_nil))))) (dss_one (ds_ret de_bl)) dss_nil))))
    (dss_one (ds_ret de_bl)))) : Takes _ _ → PassesOwn _ _ _ _ → _) (takes_of rfl rfl rfl rfl) (passes_of rfl)) ?_
  rintro es μ q x - ⟨ns, rfl, hl, -, h⟩
  ((try walk_at "dx29"); repeat (walk_at "one" <;> (try walk_at "dx29")))
  (try walk_at "ok")
  refine for_stR (fun _ (_ : Unit) => True) (fun η _ => η) (fun μ _ => μ) () rfl rfl trivial (fun _ => trivial) ?_ ?_
  · rintro i s J hi - hJ
    have hi' : i < 64 := by
      repeat' split at hi
      all_goals omega
    ((try walk_at "dx29"); repeat (walk_at "one" <;> (try walk_at "dx29")))
    intro c hc
    ((try walk_at "dx29"); repeat (walk_at "one" <;> (try walk_at "dx29")))
    refine ⟨hc, ?_⟩
    (have j := hJ () trivial; simp only [List.range_succ, List.map_append, List.map_cons, List.map_nil, fg_cons, fg_nil, List.set_cons_succ, List.set_cons_zero] at j; exact j)
  · rintro s -
    ((try walk_at "dx29"); repeat (walk_at "one" <;> (try walk_at "dx29")))
    exact h _
theorem all_mk {K : PySem.W.Frag} {h : Heap} {mg : Str → Option Value} {fa : Addr} (X : K.In h) (G : h.Ns mainGlobals mg) (hfa : mg "law" = some (.ref fa)) {f_0 f_1 f_2 f_3 f_4 f_5 f_6 f_7 f_8 f_9 f_10 f_11 f_12 f_13 f_14 f_15 f_16 f_17 f_18 f_19 : Addr}
    {od0 an0 : Option Addr} {sl0 : Array (Option Value)} {oc0 kV0 dc0 pm0 cd0 ct0 : Value}
    (n0 : PySem.W.nsIn K mainGlobals "is_number" = some (some (.ref f_0))) (l0 : K.lookup f_0 = some ⟨oc0, od0, .func (PySem.W.fnOf "is_number" "is_number" (defArgs s_is_number) (defBody s_is_number) (defScope s_is_number) .none kV0 dc0 pm0 an0 cd0 ct0), sl0⟩) (c0 : PySem.W.codeIn K cd0 "is_number" = true) (k0 : PySem.W.keepIn K (.ref f_0) = true)
    {od1 an1 : Option Addr} {sl1 : Array (Option Value)} {oc1 kV1 dc1 pm1 cd1 ct1 : Value}
    (n1 : PySem.W.nsIn K mainGlobals "size_of" = some (some (.ref f_1))) (l1 : K.lookup f_1 = some ⟨oc1, od1, .func (PySem.W.fnOf "size_of" "size_of" (defArgs s_size_of) (defBody s_size_of) (defScope s_size_of) .none kV1 dc1 pm1 an1 cd1 ct1), sl1⟩) (c1 : PySem.W.codeIn K cd1 "size_of" = true) (k1 : PySem.W.keepIn K (.ref f_1) = true)
    {od2 an2 : Option Addr} {sl2 : Array (Option Value)} {oc2 kV2 dc2 pm2 cd2 ct2 : Value}
    (n2 : PySem.W.nsIn K mainGlobals "common" = some (some (.ref f_2))) (l2 : K.lookup f_2 = some ⟨oc2, od2, .func (PySem.W.fnOf "common" "common" (defArgs s_common) (defBody s_common) (defScope s_common) .none kV2 dc2 pm2 an2 cd2 ct2), sl2⟩) (c2 : PySem.W.codeIn K cd2 "common" = true) (k2 : PySem.W.keepIn K (.ref f_2) = true)
    {od3 an3 : Option Addr} {sl3 : Array (Option Value)} {oc3 kV3 dc3 pm3 cd3 ct3 : Value}
    (n3 : PySem.W.nsIn K mainGlobals "without" = some (some (.ref f_3))) (l3 : K.lookup f_3 = some ⟨oc3, od3, .func (PySem.W.fnOf "without" "without" (defArgs s_without) (defBody s_without) (defScope s_without) .none kV3 dc3 pm3 an3 cd3 ct3), sl3⟩) (c3 : PySem.W.codeIn K cd3 "without" = true) (k3 : PySem.W.keepIn K (.ref f_3) = true)
    {od4 an4 : Option Addr} {sl4 : Array (Option Value)} {oc4 kV4 dc4 pm4 cd4 ct4 : Value}
    (n4 : PySem.W.nsIn K mainGlobals "summed" = some (some (.ref f_4))) (l4 : K.lookup f_4 = some ⟨oc4, od4, .func (PySem.W.fnOf "summed" "summed" (defArgs s_summed) (defBody s_summed) (defScope s_summed) .none kV4 dc4 pm4 an4 cd4 ct4), sl4⟩) (c4 : PySem.W.codeIn K cd4 "summed" = true) (k4 : PySem.W.keepIn K (.ref f_4) = true)
    {od5 an5 : Option Addr} {sl5 : Array (Option Value)} {oc5 kV5 dc5 pm5 cd5 ct5 : Value}
    (n5 : PySem.W.nsIn K mainGlobals "bytes_of" = some (some (.ref f_5))) (l5 : K.lookup f_5 = some ⟨oc5, od5, .func (PySem.W.fnOf "bytes_of" "bytes_of" (defArgs s_bytes_of) (defBody s_bytes_of) (defScope s_bytes_of) .none kV5 dc5 pm5 an5 cd5 ct5), sl5⟩) (c5 : PySem.W.codeIn K cd5 "bytes_of" = true) (k5 : PySem.W.keepIn K (.ref f_5) = true)
    {od6 an6 : Option Addr} {sl6 : Array (Option Value)} {oc6 kV6 dc6 pm6 cd6 ct6 : Value}
    (n6 : PySem.W.nsIn K mainGlobals "need_numbers" = some (some (.ref f_6))) (l6 : K.lookup f_6 = some ⟨oc6, od6, .func (PySem.W.fnOf "need_numbers" "need_numbers" (defArgs s_need_numbers) (defBody s_need_numbers) (defScope s_need_numbers) .none kV6 dc6 pm6 an6 cd6 ct6), sl6⟩) (c6 : PySem.W.codeIn K cd6 "need_numbers" = true) (k6 : PySem.W.keepIn K (.ref f_6) = true)
    {od7 an7 : Option Addr} {sl7 : Array (Option Value)} {oc7 kV7 dc7 pm7 cd7 ct7 : Value}
    (n7 : PySem.W.nsIn K mainGlobals "cells_from" = some (some (.ref f_7))) (l7 : K.lookup f_7 = some ⟨oc7, od7, .func (PySem.W.fnOf "cells_from" "cells_from" (defArgs s_cells_from) (defBody s_cells_from) (defScope s_cells_from) .none kV7 dc7 pm7 an7 cd7 ct7), sl7⟩) (c7 : PySem.W.codeIn K cd7 "cells_from" = true) (k7 : PySem.W.keepIn K (.ref f_7) = true)
    {od8 an8 : Option Addr} {sl8 : Array (Option Value)} {oc8 kV8 dc8 pm8 cd8 ct8 : Value}
    (n8 : PySem.W.nsIn K mainGlobals "_law_cell_at" = some (some (.ref f_8))) (l8 : K.lookup f_8 = some ⟨oc8, od8, .func (PySem.W.fnOf "_law_cell_at" "_law_cell_at" (defArgs s_law_cell_at) (defBody s_law_cell_at) (defScope s_law_cell_at) .none kV8 dc8 pm8 an8 cd8 ct8), sl8⟩) (c8 : PySem.W.codeIn K cd8 "_law_cell_at" = true) (k8 : PySem.W.keepIn K (.ref f_8) = true)
    {od9 an9 : Option Addr} {sl9 : Array (Option Value)} {oc9 kV9 dc9 pm9 cd9 ct9 : Value}
    (n9 : PySem.W.nsIn K mainGlobals "_law_state" = some (some (.ref f_9))) (l9 : K.lookup f_9 = some ⟨oc9, od9, .func (PySem.W.fnOf "_law_state" "_law_state" (defArgs s_law_state) (defBody s_law_state) (defScope s_law_state) .none kV9 dc9 pm9 an9 cd9 ct9), sl9⟩) (c9 : PySem.W.codeIn K cd9 "_law_state" = true) (k9 : PySem.W.keepIn K (.ref f_9) = true)
    {od10 an10 : Option Addr} {sl10 : Array (Option Value)} {oc10 kV10 dc10 pm10 cd10 ct10 : Value}
    (n10 : PySem.W.nsIn K mainGlobals "_law_next" = some (some (.ref f_10))) (l10 : K.lookup f_10 = some ⟨oc10, od10, .func (PySem.W.fnOf "_law_next" "_law_next" (defArgs s_law_next) (defBody s_law_next) (defScope s_law_next) .none kV10 dc10 pm10 an10 cd10 ct10), sl10⟩) (c10 : PySem.W.codeIn K cd10 "_law_next" = true) (k10 : PySem.W.keepIn K (.ref f_10) = true)
    {od11 an11 : Option Addr} {sl11 : Array (Option Value)} {oc11 kV11 dc11 pm11 cd11 ct11 : Value}
    (n11 : PySem.W.nsIn K mainGlobals "_law_kinds" = some (some (.ref f_11))) (l11 : K.lookup f_11 = some ⟨oc11, od11, .func (PySem.W.fnOf "_law_kinds" "_law_kinds" (defArgs s_law_kinds) (defBody s_law_kinds) (defScope s_law_kinds) .none kV11 dc11 pm11 an11 cd11 ct11), sl11⟩) (c11 : PySem.W.codeIn K cd11 "_law_kinds" = true) (k11 : PySem.W.keepIn K (.ref f_11) = true)
    {od12 an12 : Option Addr} {sl12 : Array (Option Value)} {oc12 kV12 dc12 pm12 cd12 ct12 : Value}
    (n12 : PySem.W.nsIn K mainGlobals "_law_sum" = some (some (.ref f_12))) (l12 : K.lookup f_12 = some ⟨oc12, od12, .func (PySem.W.fnOf "_law_sum" "_law_sum" (defArgs s_law_sum) (defBody s_law_sum) (defScope s_law_sum) .none kV12 dc12 pm12 an12 cd12 ct12), sl12⟩) (c12 : PySem.W.codeIn K cd12 "_law_sum" = true) (k12 : PySem.W.keepIn K (.ref f_12) = true)
    {od13 an13 : Option Addr} {sl13 : Array (Option Value)} {oc13 kV13 dc13 pm13 cd13 ct13 : Value}
    (n13 : PySem.W.nsIn K mainGlobals "_law_numbers" = some (some (.ref f_13))) (l13 : K.lookup f_13 = some ⟨oc13, od13, .func (PySem.W.fnOf "_law_numbers" "_law_numbers" (defArgs s_law_numbers) (defBody s_law_numbers) (defScope s_law_numbers) .none kV13 dc13 pm13 an13 cd13 ct13), sl13⟩) (c13 : PySem.W.codeIn K cd13 "_law_numbers" = true) (k13 : PySem.W.keepIn K (.ref f_13) = true)
    {od14 an14 : Option Addr} {sl14 : Array (Option Value)} {oc14 kV14 dc14 pm14 cd14 ct14 : Value}
    (n14 : PySem.W.nsIn K mainGlobals "_law_cells" = some (some (.ref f_14))) (l14 : K.lookup f_14 = some ⟨oc14, od14, .func (PySem.W.fnOf "_law_cells" "_law_cells" (defArgs s_law_cells) (defBody s_law_cells) (defScope s_law_cells) .none kV14 dc14 pm14 an14 cd14 ct14), sl14⟩) (c14 : PySem.W.codeIn K cd14 "_law_cells" = true) (k14 : PySem.W.keepIn K (.ref f_14) = true)
    {od15 an15 : Option Addr} {sl15 : Array (Option Value)} {oc15 kV15 dc15 pm15 cd15 ct15 : Value}
    (n15 : PySem.W.nsIn K mainGlobals "_law_tells" = some (some (.ref f_15))) (l15 : K.lookup f_15 = some ⟨oc15, od15, .func (PySem.W.fnOf "_law_tells" "_law_tells" (defArgs s_law_tells) (defBody s_law_tells) (defScope s_law_tells) .none kV15 dc15 pm15 an15 cd15 ct15), sl15⟩) (c15 : PySem.W.codeIn K cd15 "_law_tells" = true) (k15 : PySem.W.keepIn K (.ref f_15) = true)
    {od16 an16 : Option Addr} {sl16 : Array (Option Value)} {oc16 kV16 dc16 pm16 cd16 ct16 : Value}
    (n16 : PySem.W.nsIn K mainGlobals "_law_other" = some (some (.ref f_16))) (l16 : K.lookup f_16 = some ⟨oc16, od16, .func (PySem.W.fnOf "_law_other" "_law_other" (defArgs s_law_other) (defBody s_law_other) (defScope s_law_other) .none kV16 dc16 pm16 an16 cd16 ct16), sl16⟩) (c16 : PySem.W.codeIn K cd16 "_law_other" = true) (k16 : PySem.W.keepIn K (.ref f_16) = true)
    {od17 an17 : Option Addr} {sl17 : Array (Option Value)} {oc17 kV17 dc17 pm17 cd17 ct17 : Value}
    (n17 : PySem.W.nsIn K mainGlobals "_law_tried" = some (some (.ref f_17))) (l17 : K.lookup f_17 = some ⟨oc17, od17, .func (PySem.W.fnOf "_law_tried" "_law_tried" (defArgs s_law_tried) (defBody s_law_tried) (defScope s_law_tried) .none kV17 dc17 pm17 an17 cd17 ct17), sl17⟩) (c17 : PySem.W.codeIn K cd17 "_law_tried" = true) (k17 : PySem.W.keepIn K (.ref f_17) = true)
    {od18 an18 : Option Addr} {sl18 : Array (Option Value)} {oc18 kV18 dc18 pm18 cd18 ct18 : Value}
    (n18 : PySem.W.nsIn K mainGlobals "_law_right" = some (some (.ref f_18))) (l18 : K.lookup f_18 = some ⟨oc18, od18, .func (PySem.W.fnOf "_law_right" "_law_right" (defArgs s_law_right) (defBody s_law_right) (defScope s_law_right) .none kV18 dc18 pm18 an18 cd18 ct18), sl18⟩) (c18 : PySem.W.codeIn K cd18 "_law_right" = true) (k18 : PySem.W.keepIn K (.ref f_18) = true)
    {od19 an19 : Option Addr} {sl19 : Array (Option Value)} {oc19 kV19 dc19 pm19 cd19 ct19 : Value}
    (n19 : PySem.W.nsIn K mainGlobals "law" = some (some (.ref f_19))) (l19 : K.lookup f_19 = some ⟨oc19, od19, .func (PySem.W.fnOf "law" "law" (defArgs s_law) (defBody s_law) (defScope s_law) .none kV19 dc19 pm19 an19 cd19 ct19), sl19⟩) (c19 : PySem.W.codeIn K cd19 "law" = true) (k19 : PySem.W.keepIn K (.ref f_19) = true)
    {c_BoardError : Addr} (gx_BoardError : PySem.W.nsIn K mainGlobals "BoardError" = some (some (.ref c_BoardError)))
    {c_NoBytes : Addr} (gx_NoBytes : PySem.W.nsIn K mainGlobals "NoBytes" = some (some (.ref c_NoBytes)))
    {c_NoDeed : Addr} (gx_NoDeed : PySem.W.nsIn K mainGlobals "NoDeed" = some (some (.ref c_NoDeed)))
    {c_NoDrawing : Addr} (gx_NoDrawing : PySem.W.nsIn K mainGlobals "NoDrawing" = some (some (.ref c_NoDrawing)))
    {c_NoOrder : Addr} (gx_NoOrder : PySem.W.nsIn K mainGlobals "NoOrder" = some (some (.ref c_NoOrder)))
    {c_NoPart : Addr} (gx_NoPart : PySem.W.nsIn K mainGlobals "NoPart" = some (some (.ref c_NoPart)))
    {c_NoSize : Addr} (gx_NoSize : PySem.W.nsIn K mainGlobals "NoSize" = some (some (.ref c_NoSize)))
    {c_NoSpot : Addr} (gx_NoSpot : PySem.W.nsIn K mainGlobals "NoSpot" = some (some (.ref c_NoSpot)))
    {c_NoText : Addr} (gx_NoText : PySem.W.nsIn K mainGlobals "NoText" = some (some (.ref c_NoText)))
    {c_NoTie : Addr} (gx_NoTie : PySem.W.nsIn K mainGlobals "NoTie" = some (some (.ref c_NoTie)))
    {c_NoTurn : Addr} (gx_NoTurn : PySem.W.nsIn K mainGlobals "NoTurn" = some (some (.ref c_NoTurn)))
    {c_NoWay : Addr} (gx_NoWay : PySem.W.nsIn K mainGlobals "NoWay" = some (some (.ref c_NoWay)))
    {c_NoWeight : Addr} (gx_NoWeight : PySem.W.nsIn K mainGlobals "NoWeight" = some (some (.ref c_NoWeight)))
    {c_NoWord : Addr} (gx_NoWord : PySem.W.nsIn K mainGlobals "NoWord" = some (some (.ref c_NoWord)))
    {c_OffFloor : Addr} (gx_OffFloor : PySem.W.nsIn K mainGlobals "OffFloor" = some (some (.ref c_OffFloor)))
    {c_OnShut : Addr} (gx_OnShut : PySem.W.nsIn K mainGlobals "OnShut" = some (some (.ref c_OnShut)))
    {c_Overlap : Addr} (gx_Overlap : PySem.W.nsIn K mainGlobals "Overlap" = some (some (.ref c_Overlap)))
    {c_TooMany : Addr} (gx_TooMany : PySem.W.nsIn K mainGlobals "TooMany" = some (some (.ref c_TooMany)))
    {c_TooNear : Addr} (gx_TooNear : PySem.W.nsIn K mainGlobals "TooNear" = some (some (.ref c_TooNear)))
    (hd_BoardError : PySem.W.hasDictIn K c_BoardError = true)
    (xt_BoardError : PySem.W.typeIn K (.ref c_BoardError) = some (.type "type"))
    (hd_NoBytes : PySem.W.hasDictIn K c_NoBytes = true)
    (xt_NoBytes : PySem.W.typeIn K (.ref c_NoBytes) = some (.type "type"))
    (hd_NoDeed : PySem.W.hasDictIn K c_NoDeed = true)
    (xt_NoDeed : PySem.W.typeIn K (.ref c_NoDeed) = some (.type "type"))
    (hd_NoDrawing : PySem.W.hasDictIn K c_NoDrawing = true)
    (xt_NoDrawing : PySem.W.typeIn K (.ref c_NoDrawing) = some (.type "type"))
    (hd_NoOrder : PySem.W.hasDictIn K c_NoOrder = true)
    (xt_NoOrder : PySem.W.typeIn K (.ref c_NoOrder) = some (.type "type"))
    (hd_NoPart : PySem.W.hasDictIn K c_NoPart = true)
    (xt_NoPart : PySem.W.typeIn K (.ref c_NoPart) = some (.type "type"))
    (hd_NoSize : PySem.W.hasDictIn K c_NoSize = true)
    (xt_NoSize : PySem.W.typeIn K (.ref c_NoSize) = some (.type "type"))
    (hd_NoSpot : PySem.W.hasDictIn K c_NoSpot = true)
    (xt_NoSpot : PySem.W.typeIn K (.ref c_NoSpot) = some (.type "type"))
    (hd_NoText : PySem.W.hasDictIn K c_NoText = true)
    (xt_NoText : PySem.W.typeIn K (.ref c_NoText) = some (.type "type"))
    (hd_NoTie : PySem.W.hasDictIn K c_NoTie = true)
    (xt_NoTie : PySem.W.typeIn K (.ref c_NoTie) = some (.type "type"))
    (hd_NoTurn : PySem.W.hasDictIn K c_NoTurn = true)
    (xt_NoTurn : PySem.W.typeIn K (.ref c_NoTurn) = some (.type "type"))
    (hd_NoWay : PySem.W.hasDictIn K c_NoWay = true)
    (xt_NoWay : PySem.W.typeIn K (.ref c_NoWay) = some (.type "type"))
    (hd_NoWeight : PySem.W.hasDictIn K c_NoWeight = true)
    (xt_NoWeight : PySem.W.typeIn K (.ref c_NoWeight) = some (.type "type"))
    (hd_NoWord : PySem.W.hasDictIn K c_NoWord = true)
    (xt_NoWord : PySem.W.typeIn K (.ref c_NoWord) = some (.type "type"))
    (hd_OffFloor : PySem.W.hasDictIn K c_OffFloor = true)
    (xt_OffFloor : PySem.W.typeIn K (.ref c_OffFloor) = some (.type "type"))
    (hd_OnShut : PySem.W.hasDictIn K c_OnShut = true)
    (xt_OnShut : PySem.W.typeIn K (.ref c_OnShut) = some (.type "type"))
    (hd_Overlap : PySem.W.hasDictIn K c_Overlap = true)
    (xt_Overlap : PySem.W.typeIn K (.ref c_Overlap) = some (.type "type"))
    (hd_TooMany : PySem.W.hasDictIn K c_TooMany = true)
    (xt_TooMany : PySem.W.typeIn K (.ref c_TooMany) = some (.type "type"))
    (hd_TooNear : PySem.W.hasDictIn K c_TooNear = true)
    (xt_TooNear : PySem.W.typeIn K (.ref c_TooNear) = some (.type "type"))
    (xb_BoardError : PySem.W.subIn K (.ref c_BoardError) (.type "BaseException") = some true)
    (xb_NoSize : PySem.W.subIn K (.ref c_NoSize) (.type "BaseException") = some true)
    (xx_NoBytes : PySem.W.excIn K c_NoBytes [.type "ValueError", .type "Exception", .type "BaseException", .type "object"] "ValueError.__new__" = true)
    (xk_NoBytes : PySem.W.keepIn K (.ref c_NoBytes) = true)
    (xb_NoBytes : PySem.W.subIn K (.ref c_NoBytes) (.type "BaseException") = some true)
    (xe_NoBytes : ExcC K c_NoBytes)
    (sb_NoBytes_BoardError : PySem.W.subIn K (.ref c_NoBytes) (.ref c_BoardError) = some true)
    (ne_NoBytes_NoDeed : c_NoBytes ≠ c_NoDeed)
    (sb_NoBytes_NoDeed : PySem.W.subIn K (.ref c_NoBytes) (.ref c_NoDeed) = some false)
    (ne_NoBytes_NoDrawing : c_NoBytes ≠ c_NoDrawing)
    (sb_NoBytes_NoDrawing : PySem.W.subIn K (.ref c_NoBytes) (.ref c_NoDrawing) = some false)
    (ne_NoBytes_NoOrder : c_NoBytes ≠ c_NoOrder)
    (sb_NoBytes_NoOrder : PySem.W.subIn K (.ref c_NoBytes) (.ref c_NoOrder) = some false)
    (ne_NoBytes_NoPart : c_NoBytes ≠ c_NoPart)
    (sb_NoBytes_NoPart : PySem.W.subIn K (.ref c_NoBytes) (.ref c_NoPart) = some false)
    (ne_NoBytes_NoSize : c_NoBytes ≠ c_NoSize)
    (sb_NoBytes_NoSize : PySem.W.subIn K (.ref c_NoBytes) (.ref c_NoSize) = some false)
    (ne_NoBytes_NoSpot : c_NoBytes ≠ c_NoSpot)
    (sb_NoBytes_NoSpot : PySem.W.subIn K (.ref c_NoBytes) (.ref c_NoSpot) = some false)
    (ne_NoBytes_NoText : c_NoBytes ≠ c_NoText)
    (sb_NoBytes_NoText : PySem.W.subIn K (.ref c_NoBytes) (.ref c_NoText) = some false)
    (ne_NoBytes_NoTie : c_NoBytes ≠ c_NoTie)
    (sb_NoBytes_NoTie : PySem.W.subIn K (.ref c_NoBytes) (.ref c_NoTie) = some false)
    (ne_NoBytes_NoTurn : c_NoBytes ≠ c_NoTurn)
    (sb_NoBytes_NoTurn : PySem.W.subIn K (.ref c_NoBytes) (.ref c_NoTurn) = some false)
    (ne_NoBytes_NoWay : c_NoBytes ≠ c_NoWay)
    (sb_NoBytes_NoWay : PySem.W.subIn K (.ref c_NoBytes) (.ref c_NoWay) = some false)
    (ne_NoBytes_NoWeight : c_NoBytes ≠ c_NoWeight)
    (sb_NoBytes_NoWeight : PySem.W.subIn K (.ref c_NoBytes) (.ref c_NoWeight) = some false)
    (ne_NoBytes_NoWord : c_NoBytes ≠ c_NoWord)
    (sb_NoBytes_NoWord : PySem.W.subIn K (.ref c_NoBytes) (.ref c_NoWord) = some false)
    (ne_NoBytes_OffFloor : c_NoBytes ≠ c_OffFloor)
    (sb_NoBytes_OffFloor : PySem.W.subIn K (.ref c_NoBytes) (.ref c_OffFloor) = some false)
    (ne_NoBytes_OnShut : c_NoBytes ≠ c_OnShut)
    (sb_NoBytes_OnShut : PySem.W.subIn K (.ref c_NoBytes) (.ref c_OnShut) = some false)
    (ne_NoBytes_Overlap : c_NoBytes ≠ c_Overlap)
    (sb_NoBytes_Overlap : PySem.W.subIn K (.ref c_NoBytes) (.ref c_Overlap) = some false)
    (ne_NoBytes_TooMany : c_NoBytes ≠ c_TooMany)
    (sb_NoBytes_TooMany : PySem.W.subIn K (.ref c_NoBytes) (.ref c_TooMany) = some false)
    (ne_NoBytes_TooNear : c_NoBytes ≠ c_TooNear)
    (sb_NoBytes_TooNear : PySem.W.subIn K (.ref c_NoBytes) (.ref c_TooNear) = some false)
    (sb_NoBytes_ValueError : PySem.W.subIn K (.ref c_NoBytes) (.type "ValueError") = some true)
    (xx_NoSize : PySem.W.excIn K c_NoSize [.type "ValueError", .type "Exception", .type "BaseException", .type "object"] "ValueError.__new__" = true)
    (xk_NoSize : PySem.W.keepIn K (.ref c_NoSize) = true)
    (xe_NoSize : ExcC K c_NoSize)
    (sb_NoSize_BoardError : PySem.W.subIn K (.ref c_NoSize) (.ref c_BoardError) = some true)
    (ne_NoSize_NoBytes : c_NoSize ≠ c_NoBytes)
    (sb_NoSize_NoBytes : PySem.W.subIn K (.ref c_NoSize) (.ref c_NoBytes) = some false)
    (ne_NoSize_NoDeed : c_NoSize ≠ c_NoDeed)
    (sb_NoSize_NoDeed : PySem.W.subIn K (.ref c_NoSize) (.ref c_NoDeed) = some false)
    (ne_NoSize_NoDrawing : c_NoSize ≠ c_NoDrawing)
    (sb_NoSize_NoDrawing : PySem.W.subIn K (.ref c_NoSize) (.ref c_NoDrawing) = some false)
    (ne_NoSize_NoOrder : c_NoSize ≠ c_NoOrder)
    (sb_NoSize_NoOrder : PySem.W.subIn K (.ref c_NoSize) (.ref c_NoOrder) = some false)
    (ne_NoSize_NoPart : c_NoSize ≠ c_NoPart)
    (sb_NoSize_NoPart : PySem.W.subIn K (.ref c_NoSize) (.ref c_NoPart) = some false)
    (sb_NoSize_NoSize : PySem.W.subIn K (.ref c_NoSize) (.ref c_NoSize) = some true)
    (ne_NoSize_NoSpot : c_NoSize ≠ c_NoSpot)
    (sb_NoSize_NoSpot : PySem.W.subIn K (.ref c_NoSize) (.ref c_NoSpot) = some false)
    (ne_NoSize_NoText : c_NoSize ≠ c_NoText)
    (sb_NoSize_NoText : PySem.W.subIn K (.ref c_NoSize) (.ref c_NoText) = some false)
    (ne_NoSize_NoTie : c_NoSize ≠ c_NoTie)
    (sb_NoSize_NoTie : PySem.W.subIn K (.ref c_NoSize) (.ref c_NoTie) = some false)
    (ne_NoSize_NoTurn : c_NoSize ≠ c_NoTurn)
    (sb_NoSize_NoTurn : PySem.W.subIn K (.ref c_NoSize) (.ref c_NoTurn) = some false)
    (ne_NoSize_NoWay : c_NoSize ≠ c_NoWay)
    (sb_NoSize_NoWay : PySem.W.subIn K (.ref c_NoSize) (.ref c_NoWay) = some false)
    (ne_NoSize_NoWeight : c_NoSize ≠ c_NoWeight)
    (sb_NoSize_NoWeight : PySem.W.subIn K (.ref c_NoSize) (.ref c_NoWeight) = some false)
    (ne_NoSize_NoWord : c_NoSize ≠ c_NoWord)
    (sb_NoSize_NoWord : PySem.W.subIn K (.ref c_NoSize) (.ref c_NoWord) = some false)
    (ne_NoSize_OffFloor : c_NoSize ≠ c_OffFloor)
    (sb_NoSize_OffFloor : PySem.W.subIn K (.ref c_NoSize) (.ref c_OffFloor) = some false)
    (ne_NoSize_OnShut : c_NoSize ≠ c_OnShut)
    (sb_NoSize_OnShut : PySem.W.subIn K (.ref c_NoSize) (.ref c_OnShut) = some false)
    (ne_NoSize_Overlap : c_NoSize ≠ c_Overlap)
    (sb_NoSize_Overlap : PySem.W.subIn K (.ref c_NoSize) (.ref c_Overlap) = some false)
    (ne_NoSize_TooMany : c_NoSize ≠ c_TooMany)
    (sb_NoSize_TooMany : PySem.W.subIn K (.ref c_NoSize) (.ref c_TooMany) = some false)
    (ne_NoSize_TooNear : c_NoSize ≠ c_TooNear)
    (sb_NoSize_TooNear : PySem.W.subIn K (.ref c_NoSize) (.ref c_TooNear) = some false)
    (sb_NoSize_ValueError : PySem.W.subIn K (.ref c_NoSize) (.type "ValueError") = some true)
    (z_ValueError : PySem.W.nsIn K mainGlobals "ValueError" = some none)
    (z_all : PySem.W.nsIn K mainGlobals "all" = some none)
    (z_any : PySem.W.nsIn K mainGlobals "any" = some none)
    (z_bool : PySem.W.nsIn K mainGlobals "bool" = some none)
    (z_divmod : PySem.W.nsIn K mainGlobals "divmod" = some none)
    (z_enumerate : PySem.W.nsIn K mainGlobals "enumerate" = some none)
    (z_int : PySem.W.nsIn K mainGlobals "int" = some none)
    (z_isinstance : PySem.W.nsIn K mainGlobals "isinstance" = some none)
    (z_len : PySem.W.nsIn K mainGlobals "len" = some none)
    (z_list : PySem.W.nsIn K mainGlobals "list" = some none)
    (z_max : PySem.W.nsIn K mainGlobals "max" = some none)
    (z_min : PySem.W.nsIn K mainGlobals "min" = some none)
    (z_range : PySem.W.nsIn K mainGlobals "range" = some none)
    (z_tuple : PySem.W.nsIn K mainGlobals "tuple" = some none)
    (z_zip : PySem.W.nsIn K mainGlobals "zip" = some none)
    {tk_LEAST : Tok} (w_LEAST : PySem.W.nsIn K mainGlobals "LEAST" = some (some (.int 3 tk_LEAST)))
    {tk_MOST : Tok} (w_MOST : PySem.W.nsIn K mainGlobals "MOST" = some (some (.int 10 tk_MOST)))
    {tk_REST : Tok} (w_REST : PySem.W.nsIn K mainGlobals "REST" = some (some (.int 65521 tk_REST)))
    {tk_SIDE : Tok} (w_SIDE : PySem.W.nsIn K mainGlobals "SIDE" = some (some (.int 256 tk_SIDE)))
    : ∃ T : Top K mg, T.a_law = fa ∧ (∀ (s : Shared) (v : Value), BindsTo s T.fd_law ⟨[v], []⟩ [("_law_script", v)]) := by
  have e := hfa.symm.trans (PySem.W.mg_of X G n19)
  cases e
  exact ⟨{ a_is_number := f_0, fd_is_number := _, F_is_number := fun_mk (st := s_is_number) l0 c0 k0, m_is_number := PySem.W.mg_of X G n0, b_is_number := ((fun_mk (st := s_is_number) l0 c0 k0).binds (ps := ["thing", "least", "most"]) fun _ _ _ _ _ _ us hl => match us, hl with | [_, _, _], _ => rfl), a_size_of := f_1, fd_size_of := _, F_size_of := fun_mk (st := s_size_of) l1 c1 k1, m_size_of := PySem.W.mg_of X G n1, b_size_of := ((fun_mk (st := s_size_of) l1 c1 k1).binds (ps := ["thing"]) fun _ _ _ _ _ _ us hl => match us, hl with | [_], _ => rfl), a_common := f_2, fd_common := _, F_common := fun_mk (st := s_common) l2 c2 k2, m_common := PySem.W.mg_of X G n2, b_common := ((fun_mk (st := s_common) l2 c2 k2).binds (ps := ["one", "other"]) fun _ _ _ _ _ _ us hl => match us, hl with | [_, _], _ => rfl), a_without := f_3, fd_without := _, F_without := fun_mk (st := s_without) l3 c3 k3, m_without := PySem.W.mg_of X G n3, b_without := ((fun_mk (st := s_without) l3 c3 k3).binds (ps := ["one", "other"]) fun _ _ _ _ _ _ us hl => match us, hl with | [_, _], _ => rfl), a_summed := f_4, fd_summed := _, F_summed := fun_mk (st := s_summed) l4 c4 k4, m_summed := PySem.W.mg_of X G n4, b_summed := ((fun_mk (st := s_summed) l4 c4 k4).binds (ps := ["numbers"]) fun _ _ _ _ _ _ us hl => match us, hl with | [_], _ => rfl), a_bytes_of := f_5, fd_bytes_of := _, F_bytes_of := fun_mk (st := s_bytes_of) l5 c5 k5, m_bytes_of := PySem.W.mg_of X G n5, b_bytes_of := ((fun_mk (st := s_bytes_of) l5 c5 k5).binds (ps := ["cells"]) fun _ _ _ _ _ _ us hl => match us, hl with | [_], _ => rfl), a_need_numbers := f_6, fd_need_numbers := _, F_need_numbers := fun_mk (st := s_need_numbers) l6 c6 k6, m_need_numbers := PySem.W.mg_of X G n6, b_need_numbers := ((fun_mk (st := s_need_numbers) l6 c6 k6).binds (ps := ["numbers"]) fun _ _ _ _ _ _ us hl => match us, hl with | [_], _ => rfl), a_cells_from := f_7, fd_cells_from := _, F_cells_from := fun_mk (st := s_cells_from) l7 c7 k7, m_cells_from := PySem.W.mg_of X G n7, b_cells_from := ((fun_mk (st := s_cells_from) l7 c7 k7).binds (ps := ["numbers"]) fun _ _ _ _ _ _ us hl => match us, hl with | [_], _ => rfl), a_law_cell_at := f_8, fd_law_cell_at := _, F_law_cell_at := fun_mk (st := s_law_cell_at) l8 c8 k8, m_law_cell_at := PySem.W.mg_of X G n8, b_law_cell_at := ((fun_mk (st := s_law_cell_at) l8 c8 k8).binds (ps := ["_law_script", "_law_k"]) fun _ _ _ _ _ _ us hl => match us, hl with | [_, _], _ => rfl), a_law_state := f_9, fd_law_state := _, F_law_state := fun_mk (st := s_law_state) l9 c9 k9, m_law_state := PySem.W.mg_of X G n9, b_law_state := ((fun_mk (st := s_law_state) l9 c9 k9).binds (ps := ["_law_cell", "_law_k"]) fun _ _ _ _ _ _ us hl => match us, hl with | [_, _], _ => rfl), a_law_next := f_10, fd_law_next := _, F_law_next := fun_mk (st := s_law_next) l10 c10 k10, m_law_next := PySem.W.mg_of X G n10, b_law_next := ((fun_mk (st := s_law_next) l10 c10 k10).binds (ps := ["_law_state_here", "_law_size"]) fun _ _ _ _ _ _ us hl => match us, hl with | [_, _], _ => rfl), a_law_kinds := f_11, fd_law_kinds := _, F_law_kinds := fun_mk (st := s_law_kinds) l11 c11 k11, m_law_kinds := PySem.W.mg_of X G n11, b_law_kinds := ((fun_mk (st := s_law_kinds) l11 c11 k11).binds (ps := ["_law_e"]) fun _ _ _ _ _ _ us hl => match us, hl with | [_], _ => rfl), a_law_sum := f_12, fd_law_sum := _, F_law_sum := fun_mk (st := s_law_sum) l12 c12 k12, m_law_sum := PySem.W.mg_of X G n12, b_law_sum := ((fun_mk (st := s_law_sum) l12 c12 k12).binds (ps := ["_law_numbers_here"]) fun _ _ _ _ _ _ us hl => match us, hl with | [_], _ => rfl), a_law_numbers := f_13, fd_law_numbers := _, F_law_numbers := fun_mk (st := s_law_numbers) l13 c13 k13, m_law_numbers := PySem.W.mg_of X G n13, b_law_numbers := ((fun_mk (st := s_law_numbers) l13 c13 k13).binds (ps := ["_law_cells_here"]) fun _ _ _ _ _ _ us hl => match us, hl with | [_], _ => rfl), a_law_cells := f_14, fd_law_cells := _, F_law_cells := fun_mk (st := s_law_cells) l14 c14 k14, m_law_cells := PySem.W.mg_of X G n14, b_law_cells := ((fun_mk (st := s_law_cells) l14 c14 k14).binds (ps := ["_law_state_here"]) fun _ _ _ _ _ _ us hl => match us, hl with | [_], _ => rfl), a_law_tells := f_15, fd_law_tells := _, F_law_tells := fun_mk (st := s_law_tells) l15 c15 k15, m_law_tells := PySem.W.mg_of X G n15, b_law_tells := ((fun_mk (st := s_law_tells) l15 c15 k15).binds (ps := ["_law_thing"]) fun _ _ _ _ _ _ us hl => match us, hl with | [_], _ => rfl), a_law_other := f_16, fd_law_other := _, F_law_other := fun_mk (st := s_law_other) l16 c16 k16, m_law_other := PySem.W.mg_of X G n16, b_law_other := ((fun_mk (st := s_law_other) l16 c16 k16).binds (ps := ["_law_state_here", "_law_numbers_here"]) fun _ _ _ _ _ _ us hl => match us, hl with | [_, _], _ => rfl), a_law_tried := f_17, fd_law_tried := _, F_law_tried := fun_mk (st := s_law_tried) l17 c17 k17, m_law_tried := PySem.W.mg_of X G n17, b_law_tried := ((fun_mk (st := s_law_tried) l17 c17 k17).binds (ps := ["_law_thing"]) fun _ _ _ _ _ _ us hl => match us, hl with | [_], _ => rfl), a_law_right := f_18, fd_law_right := _, F_law_right := fun_mk (st := s_law_right) l18 c18 k18, m_law_right := PySem.W.mg_of X G n18, b_law_right := ((fun_mk (st := s_law_right) l18 c18 k18).binds (ps := ["_law_state_here", "_law_cells_here"]) fun _ _ _ _ _ _ us hl => match us, hl with | [_, _], _ => rfl), a_law := fa, fd_law := _, F_law := fun_mk (st := s_law) l19 c19 k19, m_law := PySem.W.mg_of X G n19, b_law := ((fun_mk (st := s_law) l19 c19 k19).binds (ps := ["_law_script"]) fun _ _ _ _ _ _ us hl => match us, hl with | [_], _ => rfl), c_BoardError := c_BoardError, gx_BoardError := PySem.W.mg_of X G gx_BoardError, c_NoBytes := c_NoBytes, gx_NoBytes := PySem.W.mg_of X G gx_NoBytes, c_NoDeed := c_NoDeed, gx_NoDeed := PySem.W.mg_of X G gx_NoDeed, c_NoDrawing := c_NoDrawing, gx_NoDrawing := PySem.W.mg_of X G gx_NoDrawing, c_NoOrder := c_NoOrder, gx_NoOrder := PySem.W.mg_of X G gx_NoOrder, c_NoPart := c_NoPart, gx_NoPart := PySem.W.mg_of X G gx_NoPart, c_NoSize := c_NoSize, gx_NoSize := PySem.W.mg_of X G gx_NoSize, c_NoSpot := c_NoSpot, gx_NoSpot := PySem.W.mg_of X G gx_NoSpot, c_NoText := c_NoText, gx_NoText := PySem.W.mg_of X G gx_NoText, c_NoTie := c_NoTie, gx_NoTie := PySem.W.mg_of X G gx_NoTie, c_NoTurn := c_NoTurn, gx_NoTurn := PySem.W.mg_of X G gx_NoTurn, c_NoWay := c_NoWay, gx_NoWay := PySem.W.mg_of X G gx_NoWay, c_NoWeight := c_NoWeight, gx_NoWeight := PySem.W.mg_of X G gx_NoWeight, c_NoWord := c_NoWord, gx_NoWord := PySem.W.mg_of X G gx_NoWord, c_OffFloor := c_OffFloor, gx_OffFloor := PySem.W.mg_of X G gx_OffFloor, c_OnShut := c_OnShut, gx_OnShut := PySem.W.mg_of X G gx_OnShut, c_Overlap := c_Overlap, gx_Overlap := PySem.W.mg_of X G gx_Overlap, c_TooMany := c_TooMany, gx_TooMany := PySem.W.mg_of X G gx_TooMany, c_TooNear := c_TooNear, gx_TooNear := PySem.W.mg_of X G gx_TooNear, hd_BoardError := hd_BoardError, xt_BoardError := xt_BoardError, hd_NoBytes := hd_NoBytes, xt_NoBytes := xt_NoBytes, hd_NoDeed := hd_NoDeed, xt_NoDeed := xt_NoDeed, hd_NoDrawing := hd_NoDrawing, xt_NoDrawing := xt_NoDrawing, hd_NoOrder := hd_NoOrder, xt_NoOrder := xt_NoOrder, hd_NoPart := hd_NoPart, xt_NoPart := xt_NoPart, hd_NoSize := hd_NoSize, xt_NoSize := xt_NoSize, hd_NoSpot := hd_NoSpot, xt_NoSpot := xt_NoSpot, hd_NoText := hd_NoText, xt_NoText := xt_NoText, hd_NoTie := hd_NoTie, xt_NoTie := xt_NoTie, hd_NoTurn := hd_NoTurn, xt_NoTurn := xt_NoTurn, hd_NoWay := hd_NoWay, xt_NoWay := xt_NoWay, hd_NoWeight := hd_NoWeight, xt_NoWeight := xt_NoWeight, hd_NoWord := hd_NoWord, xt_NoWord := xt_NoWord, hd_OffFloor := hd_OffFloor, xt_OffFloor := xt_OffFloor, hd_OnShut := hd_OnShut, xt_OnShut := xt_OnShut, hd_Overlap := hd_Overlap, xt_Overlap := xt_Overlap, hd_TooMany := hd_TooMany, xt_TooMany := xt_TooMany, hd_TooNear := hd_TooNear, xt_TooNear := xt_TooNear, xb_BoardError := xb_BoardError, xb_NoSize := xb_NoSize, xx_NoBytes := xx_NoBytes, xk_NoBytes := xk_NoBytes, xb_NoBytes := xb_NoBytes, xe_NoBytes := xe_NoBytes, sb_NoBytes_BoardError := sb_NoBytes_BoardError, ne_NoBytes_NoDeed := ne_NoBytes_NoDeed, sb_NoBytes_NoDeed := sb_NoBytes_NoDeed, ne_NoBytes_NoDrawing := ne_NoBytes_NoDrawing, sb_NoBytes_NoDrawing := sb_NoBytes_NoDrawing, ne_NoBytes_NoOrder := ne_NoBytes_NoOrder, sb_NoBytes_NoOrder := sb_NoBytes_NoOrder, ne_NoBytes_NoPart := ne_NoBytes_NoPart, sb_NoBytes_NoPart := sb_NoBytes_NoPart, ne_NoBytes_NoSize := ne_NoBytes_NoSize, sb_NoBytes_NoSize := sb_NoBytes_NoSize, ne_NoBytes_NoSpot := ne_NoBytes_NoSpot, sb_NoBytes_NoSpot := sb_NoBytes_NoSpot, ne_NoBytes_NoText := ne_NoBytes_NoText, sb_NoBytes_NoText := sb_NoBytes_NoText, ne_NoBytes_NoTie := ne_NoBytes_NoTie, sb_NoBytes_NoTie := sb_NoBytes_NoTie, ne_NoBytes_NoTurn := ne_NoBytes_NoTurn, sb_NoBytes_NoTurn := sb_NoBytes_NoTurn, ne_NoBytes_NoWay := ne_NoBytes_NoWay, sb_NoBytes_NoWay := sb_NoBytes_NoWay, ne_NoBytes_NoWeight := ne_NoBytes_NoWeight, sb_NoBytes_NoWeight := sb_NoBytes_NoWeight, ne_NoBytes_NoWord := ne_NoBytes_NoWord, sb_NoBytes_NoWord := sb_NoBytes_NoWord, ne_NoBytes_OffFloor := ne_NoBytes_OffFloor, sb_NoBytes_OffFloor := sb_NoBytes_OffFloor, ne_NoBytes_OnShut := ne_NoBytes_OnShut, sb_NoBytes_OnShut := sb_NoBytes_OnShut, ne_NoBytes_Overlap := ne_NoBytes_Overlap, sb_NoBytes_Overlap := sb_NoBytes_Overlap, ne_NoBytes_TooMany := ne_NoBytes_TooMany, sb_NoBytes_TooMany := sb_NoBytes_TooMany, ne_NoBytes_TooNear := ne_NoBytes_TooNear, sb_NoBytes_TooNear := sb_NoBytes_TooNear, sb_NoBytes_ValueError := sb_NoBytes_ValueError, xx_NoSize := xx_NoSize, xk_NoSize := xk_NoSize, xe_NoSize := xe_NoSize, sb_NoSize_BoardError := sb_NoSize_BoardError, ne_NoSize_NoBytes := ne_NoSize_NoBytes, sb_NoSize_NoBytes := sb_NoSize_NoBytes, ne_NoSize_NoDeed := ne_NoSize_NoDeed, sb_NoSize_NoDeed := sb_NoSize_NoDeed, ne_NoSize_NoDrawing := ne_NoSize_NoDrawing, sb_NoSize_NoDrawing := sb_NoSize_NoDrawing, ne_NoSize_NoOrder := ne_NoSize_NoOrder, sb_NoSize_NoOrder := sb_NoSize_NoOrder, ne_NoSize_NoPart := ne_NoSize_NoPart, sb_NoSize_NoPart := sb_NoSize_NoPart, sb_NoSize_NoSize := sb_NoSize_NoSize, ne_NoSize_NoSpot := ne_NoSize_NoSpot, sb_NoSize_NoSpot := sb_NoSize_NoSpot, ne_NoSize_NoText := ne_NoSize_NoText, sb_NoSize_NoText := sb_NoSize_NoText, ne_NoSize_NoTie := ne_NoSize_NoTie, sb_NoSize_NoTie := sb_NoSize_NoTie, ne_NoSize_NoTurn := ne_NoSize_NoTurn, sb_NoSize_NoTurn := sb_NoSize_NoTurn, ne_NoSize_NoWay := ne_NoSize_NoWay, sb_NoSize_NoWay := sb_NoSize_NoWay, ne_NoSize_NoWeight := ne_NoSize_NoWeight, sb_NoSize_NoWeight := sb_NoSize_NoWeight, ne_NoSize_NoWord := ne_NoSize_NoWord, sb_NoSize_NoWord := sb_NoSize_NoWord, ne_NoSize_OffFloor := ne_NoSize_OffFloor, sb_NoSize_OffFloor := sb_NoSize_OffFloor, ne_NoSize_OnShut := ne_NoSize_OnShut, sb_NoSize_OnShut := sb_NoSize_OnShut, ne_NoSize_Overlap := ne_NoSize_Overlap, sb_NoSize_Overlap := sb_NoSize_Overlap, ne_NoSize_TooMany := ne_NoSize_TooMany, sb_NoSize_TooMany := sb_NoSize_TooMany, ne_NoSize_TooNear := ne_NoSize_TooNear, sb_NoSize_TooNear := sb_NoSize_TooNear, sb_NoSize_ValueError := sb_NoSize_ValueError, n_ValueError := PySem.W.mg_none_of X G z_ValueError, n_all := PySem.W.mg_none_of X G z_all, n_any := PySem.W.mg_none_of X G z_any, n_bool := PySem.W.mg_none_of X G z_bool, n_divmod := PySem.W.mg_none_of X G z_divmod, n_enumerate := PySem.W.mg_none_of X G z_enumerate, n_int := PySem.W.mg_none_of X G z_int, n_isinstance := PySem.W.mg_none_of X G z_isinstance, n_len := PySem.W.mg_none_of X G z_len, n_list := PySem.W.mg_none_of X G z_list, n_max := PySem.W.mg_none_of X G z_max, n_min := PySem.W.mg_none_of X G z_min, n_range := PySem.W.mg_none_of X G z_range, n_tuple := PySem.W.mg_none_of X G z_tuple, n_zip := PySem.W.mg_none_of X G z_zip, g_LEAST := ⟨_, PySem.W.mg_of X G w_LEAST⟩, g_MOST := ⟨_, PySem.W.mg_of X G w_MOST⟩, g_REST := ⟨_, PySem.W.mg_of X G w_REST⟩, g_SIDE := ⟨_, PySem.W.mg_of X G w_SIDE⟩ }, rfl, fun s v => .of_eq rfl⟩
theorem walk {l : PySem.W.OpenLaw} {q : Program} {loose : List Str} {XP : (Str → Option Value) → Heap → Prop} {YP : World → Heap → Prop} {d : DefRec} {K : Params → PySem.W.Frag} (hn : l.most = some 63) (hdf : d.params.defaults = [])
    (hY : ∀ (w : World) (h : Heap), YP w h → (K w.params).In h)
    (F : ∀ (w : World) (mg : Str → Option Value) (fa : Addr) (h : Heap), (K w.params).In h → h.Ns mainGlobals mg → mg d.name = some (.ref fa) →
      ∃ T : Top (K w.params) mg, T.a_law = fa ∧ ∀ (s : Shared) (u : Value), BindsTo s T.fd_law ⟨[u], []⟩ [("_law_script", u)]) :
    PySem.W.WalkO q loose XP YP l.row.toRowW d [] (fun f vs => PySem.call f vs) :=
  L2.walk_of (n := 63) (k := 7) (x := "_law_script") (CX := fun w => L2.CX l.prog w) (sp := fun w => spLaw (K w.params)) hn (by decide) hdf ⟨rfl, by decide, by decide⟩ hY
    (fun w mg fa h X G hm => by
      obtain ⟨T, rfl, hb⟩ := F w mg fa h X G hm
      exact ⟨T.fd_law, hb, fun base _ _ => (ok_law T).imp fun vs H Q E h => law_sp h⟩)
    (fun _ _ a ns hl _ hS => ⟨a, ns, rfl, hS, hl, fun _ => rfl⟩) fun _ _ _ _ _ z => cx_no z
end
end B
set_option maxRecDepth 100000 in
set_option maxHeartbeats 0 in
theorem PySem.Challenge.cw_boardlay_k72_cells_in_numbers_holds : PySem.Challenge.rw_boardlay_k72_cells_in_numbers.Holds := by
  w_on; o_law; k_head; (case hw => w_witness2)
  k_fill
  refine B.walk (l := PySem.Challenge.rw_boardlay_k72_cells_in_numbers) rfl rfl (fun w h Y => PySem.W.kIn_of Y) ?F
  case F =>
    intro w mg fa h KX G hmg
    refine' B.all_mk KX G hmg ?n0 ?l0 ?c0 ?k0 ?n1 ?l1 ?c1 ?k1 ?n2 ?l2 ?c2 ?k2 ?n3 ?l3 ?c3 ?k3 ?n4 ?l4 ?c4 ?k4 ?n5 ?l5 ?c5 ?k5 ?n6 ?l6 ?c6 ?k6 ?n7 ?l7 ?c7 ?k7 ?n8 ?l8 ?c8 ?k8 ?n9 ?l9 ?c9 ?k9 ?n10 ?l10 ?c10 ?k10 ?n11 ?l11 ?c11 ?k11 ?n12 ?l12 ?c12 ?k12 ?n13 ?l13 ?c13 ?k13 ?n14 ?l14 ?c14 ?k14 ?n15 ?l15 ?c15 ?k15 ?n16 ?l16 ?c16 ?k16 ?n17 ?l17 ?c17 ?k17 ?n18 ?l18 ?c18 ?k18 ?n19 ?l19 ?c19 ?k19 ?gx_BoardError ?gx_NoBytes ?gx_NoDeed ?gx_NoDrawing ?gx_NoOrder ?gx_NoPart ?gx_NoSize ?gx_NoSpot ?gx_NoText ?gx_NoTie ?gx_NoTurn ?gx_NoWay ?gx_NoWeight ?gx_NoWord ?gx_OffFloor ?gx_OnShut ?gx_Overlap ?gx_TooMany ?gx_TooNear ?hd_BoardError ?xt_BoardError ?hd_NoBytes ?xt_NoBytes ?hd_NoDeed ?xt_NoDeed ?hd_NoDrawing ?xt_NoDrawing ?hd_NoOrder ?xt_NoOrder ?hd_NoPart ?xt_NoPart ?hd_NoSize ?xt_NoSize ?hd_NoSpot ?xt_NoSpot ?hd_NoText ?xt_NoText ?hd_NoTie ?xt_NoTie ?hd_NoTurn ?xt_NoTurn ?hd_NoWay ?xt_NoWay ?hd_NoWeight ?xt_NoWeight ?hd_NoWord ?xt_NoWord ?hd_OffFloor ?xt_OffFloor ?hd_OnShut ?xt_OnShut ?hd_Overlap ?xt_Overlap ?hd_TooMany ?xt_TooMany ?hd_TooNear ?xt_TooNear ?xb_BoardError ?xb_NoSize ?xx_NoBytes ?xk_NoBytes ?xb_NoBytes ?xe_NoBytes ?sb_NoBytes_BoardError ?ne_NoBytes_NoDeed ?sb_NoBytes_NoDeed ?ne_NoBytes_NoDrawing ?sb_NoBytes_NoDrawing ?ne_NoBytes_NoOrder ?sb_NoBytes_NoOrder ?ne_NoBytes_NoPart ?sb_NoBytes_NoPart ?ne_NoBytes_NoSize ?sb_NoBytes_NoSize ?ne_NoBytes_NoSpot ?sb_NoBytes_NoSpot ?ne_NoBytes_NoText ?sb_NoBytes_NoText ?ne_NoBytes_NoTie ?sb_NoBytes_NoTie ?ne_NoBytes_NoTurn ?sb_NoBytes_NoTurn ?ne_NoBytes_NoWay ?sb_NoBytes_NoWay ?ne_NoBytes_NoWeight ?sb_NoBytes_NoWeight ?ne_NoBytes_NoWord ?sb_NoBytes_NoWord ?ne_NoBytes_OffFloor ?sb_NoBytes_OffFloor ?ne_NoBytes_OnShut ?sb_NoBytes_OnShut ?ne_NoBytes_Overlap ?sb_NoBytes_Overlap ?ne_NoBytes_TooMany ?sb_NoBytes_TooMany ?ne_NoBytes_TooNear ?sb_NoBytes_TooNear ?sb_NoBytes_ValueError ?xx_NoSize ?xk_NoSize ?xe_NoSize ?sb_NoSize_BoardError ?ne_NoSize_NoBytes ?sb_NoSize_NoBytes ?ne_NoSize_NoDeed ?sb_NoSize_NoDeed ?ne_NoSize_NoDrawing ?sb_NoSize_NoDrawing ?ne_NoSize_NoOrder ?sb_NoSize_NoOrder ?ne_NoSize_NoPart ?sb_NoSize_NoPart ?sb_NoSize_NoSize ?ne_NoSize_NoSpot ?sb_NoSize_NoSpot ?ne_NoSize_NoText ?sb_NoSize_NoText ?ne_NoSize_NoTie ?sb_NoSize_NoTie ?ne_NoSize_NoTurn ?sb_NoSize_NoTurn ?ne_NoSize_NoWay ?sb_NoSize_NoWay ?ne_NoSize_NoWeight ?sb_NoSize_NoWeight ?ne_NoSize_NoWord ?sb_NoSize_NoWord ?ne_NoSize_OffFloor ?sb_NoSize_OffFloor ?ne_NoSize_OnShut ?sb_NoSize_OnShut ?ne_NoSize_Overlap ?sb_NoSize_Overlap ?ne_NoSize_TooMany ?sb_NoSize_TooMany ?ne_NoSize_TooNear ?sb_NoSize_TooNear ?sb_NoSize_ValueError ?z_ValueError ?z_all ?z_any ?z_bool ?z_divmod ?z_enumerate ?z_int ?z_isinstance ?z_len ?z_list ?z_max ?z_min ?z_range ?z_tuple ?z_zip ?w_LEAST ?w_MOST ?w_REST ?w_SIDE
    (case gx_BoardError => k_is); (case gx_NoBytes => k_is); (case gx_NoDeed => k_is); (case gx_NoDrawing => k_is); (case gx_NoOrder => k_is); (case gx_NoPart => k_is)
    (case gx_NoSize => k_is); (case gx_NoSpot => k_is); (case gx_NoText => k_is); (case gx_NoTie => k_is); (case gx_NoTurn => k_is); (case gx_NoWay => k_is)
    (case gx_NoWeight => k_is); (case gx_NoWord => k_is); (case gx_OffFloor => k_is); (case gx_OnShut => k_is); (case gx_Overlap => k_is); (case gx_TooMany => k_is)
    (case gx_TooNear => k_is); (case n0 => k_is); (case l0 => k_is); (case c0 => k_is); (case k0 => k_is); (case n1 => k_is)
    (case l1 => k_is); (case c1 => k_is); (case k1 => k_is); (case n2 => k_is); (case l2 => k_is); (case c2 => k_is)
    (case k2 => k_is); (case n3 => k_is); (case l3 => k_is); (case c3 => k_is); (case k3 => k_is); (case n4 => k_is)
    (case l4 => k_is); (case c4 => k_is); (case k4 => k_is); (case n5 => k_is); (case l5 => k_is); (case c5 => k_is)
    (case k5 => k_is); (case n6 => k_is); (case l6 => k_is); (case c6 => k_is); (case k6 => k_is); (case n7 => k_is)
    (case l7 => k_is); (case c7 => k_is); (case k7 => k_is); (case n8 => k_is); (case l8 => k_is); (case c8 => k_is)
    (case k8 => k_is); (case n9 => k_is); (case l9 => k_is); (case c9 => k_is); (case k9 => k_is); (case n10 => k_is)
    (case l10 => k_is); (case c10 => k_is); (case k10 => k_is); (case n11 => k_is); (case l11 => k_is); (case c11 => k_is)
    (case k11 => k_is); (case n12 => k_is); (case l12 => k_is); (case c12 => k_is); (case k12 => k_is); (case n13 => k_is)
    (case l13 => k_is); (case c13 => k_is); (case k13 => k_is); (case n14 => k_is); (case l14 => k_is); (case c14 => k_is)
    (case k14 => k_is); (case n15 => k_is); (case l15 => k_is); (case c15 => k_is); (case k15 => k_is); (case n16 => k_is)
    (case l16 => k_is); (case c16 => k_is); (case k16 => k_is); (case n17 => k_is); (case l17 => k_is); (case c17 => k_is)
    (case k17 => k_is); (case n18 => k_is); (case l18 => k_is); (case c18 => k_is); (case k18 => k_is); (case n19 => k_is)
    (case l19 => k_is); (case c19 => k_is); (case k19 => k_is); (case hd_BoardError => k_is); (case xt_BoardError => k_is); (case hd_NoBytes => k_is)
    (case xt_NoBytes => k_is); (case hd_NoDeed => k_is); (case xt_NoDeed => k_is); (case hd_NoDrawing => k_is); (case xt_NoDrawing => k_is); (case hd_NoOrder => k_is)
    (case xt_NoOrder => k_is); (case hd_NoPart => k_is); (case xt_NoPart => k_is); (case hd_NoSize => k_is); (case xt_NoSize => k_is); (case hd_NoSpot => k_is)
    (case xt_NoSpot => k_is); (case hd_NoText => k_is); (case xt_NoText => k_is); (case hd_NoTie => k_is); (case xt_NoTie => k_is); (case hd_NoTurn => k_is)
    (case xt_NoTurn => k_is); (case hd_NoWay => k_is); (case xt_NoWay => k_is); (case hd_NoWeight => k_is); (case xt_NoWeight => k_is); (case hd_NoWord => k_is)
    (case xt_NoWord => k_is); (case hd_OffFloor => k_is); (case xt_OffFloor => k_is); (case hd_OnShut => k_is); (case xt_OnShut => k_is); (case hd_Overlap => k_is)
    (case xt_Overlap => k_is); (case hd_TooMany => k_is); (case xt_TooMany => k_is); (case hd_TooNear => k_is); (case xt_TooNear => k_is); (case xb_BoardError => k_is)
    (case xb_NoSize => k_is); (case xx_NoBytes => k_exc); (case xk_NoBytes => k_is); (case xb_NoBytes => k_is); (case xe_NoBytes => constructor <;> k_is); (case sb_NoBytes_BoardError => k_is)
    (case ne_NoBytes_NoDeed => decide); (case sb_NoBytes_NoDeed => k_is); (case ne_NoBytes_NoDrawing => decide); (case sb_NoBytes_NoDrawing => k_is); (case ne_NoBytes_NoOrder => decide); (case sb_NoBytes_NoOrder => k_is)
    (case ne_NoBytes_NoPart => decide); (case sb_NoBytes_NoPart => k_is); (case ne_NoBytes_NoSize => decide); (case sb_NoBytes_NoSize => k_is); (case ne_NoBytes_NoSpot => decide); (case sb_NoBytes_NoSpot => k_is)
    (case ne_NoBytes_NoText => decide); (case sb_NoBytes_NoText => k_is); (case ne_NoBytes_NoTie => decide); (case sb_NoBytes_NoTie => k_is); (case ne_NoBytes_NoTurn => decide); (case sb_NoBytes_NoTurn => k_is)
    (case ne_NoBytes_NoWay => decide); (case sb_NoBytes_NoWay => k_is); (case ne_NoBytes_NoWeight => decide); (case sb_NoBytes_NoWeight => k_is); (case ne_NoBytes_NoWord => decide); (case sb_NoBytes_NoWord => k_is)
    (case ne_NoBytes_OffFloor => decide); (case sb_NoBytes_OffFloor => k_is); (case ne_NoBytes_OnShut => decide); (case sb_NoBytes_OnShut => k_is); (case ne_NoBytes_Overlap => decide); (case sb_NoBytes_Overlap => k_is)
    (case ne_NoBytes_TooMany => decide); (case sb_NoBytes_TooMany => k_is); (case ne_NoBytes_TooNear => decide); (case sb_NoBytes_TooNear => k_is); (case sb_NoBytes_ValueError => k_is); (case xx_NoSize => k_exc)
    (case xk_NoSize => k_is); (case xe_NoSize => constructor <;> k_is); (case sb_NoSize_BoardError => k_is); (case ne_NoSize_NoBytes => decide); (case sb_NoSize_NoBytes => k_is); (case ne_NoSize_NoDeed => decide)
    (case sb_NoSize_NoDeed => k_is); (case ne_NoSize_NoDrawing => decide); (case sb_NoSize_NoDrawing => k_is); (case ne_NoSize_NoOrder => decide); (case sb_NoSize_NoOrder => k_is); (case ne_NoSize_NoPart => decide)
    (case sb_NoSize_NoPart => k_is); (case sb_NoSize_NoSize => k_is); (case ne_NoSize_NoSpot => decide); (case sb_NoSize_NoSpot => k_is); (case ne_NoSize_NoText => decide); (case sb_NoSize_NoText => k_is)
    (case ne_NoSize_NoTie => decide); (case sb_NoSize_NoTie => k_is); (case ne_NoSize_NoTurn => decide); (case sb_NoSize_NoTurn => k_is); (case ne_NoSize_NoWay => decide); (case sb_NoSize_NoWay => k_is)
    (case ne_NoSize_NoWeight => decide); (case sb_NoSize_NoWeight => k_is); (case ne_NoSize_NoWord => decide); (case sb_NoSize_NoWord => k_is); (case ne_NoSize_OffFloor => decide); (case sb_NoSize_OffFloor => k_is)
    (case ne_NoSize_OnShut => decide); (case sb_NoSize_OnShut => k_is); (case ne_NoSize_Overlap => decide); (case sb_NoSize_Overlap => k_is); (case ne_NoSize_TooMany => decide); (case sb_NoSize_TooMany => k_is)
    (case ne_NoSize_TooNear => decide); (case sb_NoSize_TooNear => k_is); (case sb_NoSize_ValueError => k_is); (case z_ValueError => k_is); (case z_all => k_is); (case z_any => k_is)
    (case z_bool => k_is); (case z_divmod => k_is); (case z_enumerate => k_is); (case z_int => k_is); (case z_isinstance => k_is); (case z_len => k_is)
    (case z_list => k_is); (case z_max => k_is); (case z_min => k_is); (case z_range => k_is); (case z_tuple => k_is); (case z_zip => k_is)
    (case w_LEAST => k_is); (case w_MOST => k_is); (case w_REST => k_is); (case w_SIDE => k_is)
