import PyProof.Rows.All
import Wide.All
import OpenK.AllK
import Wide.FinOn
import HandS.ForMost
import HandS.ForExc
import HandS.Walk
import HandS.ExcOwn
import HandS.CallSlots
import HandS.TupAny
import HandS.TupMul
import HandS.IsInst
import HandS.Deep
import HandS.WordsDict
import HandS.Text
import HandS.ExcIs
import HandS.Defaults
import HandS.Zip
import HandS.Conv
import HandS.TupLen
import HandS.DictTup
import HandS.Small
import PyProof.Rows.BitMore
import KE.KDictCopyH
import KE.KDictKeyed
import KE.KDictPairs
import PyProof.DictMoreH
import KE.SortData
import HandS.SortInts
import KE.GoesEnum
import KE.DataFind
import HandS.Style
import HandS.ListItems
import PySem.Challenge.RW_boardlay_k14_whole_sheets_go_on
set_option Elab.async false
set_option linter.all false
set_option maxRecDepth 100000
set_option maxHeartbeats 4000000
/-! The data layer: contracts over plain data instead of heaps. -/
namespace DL
open PySem L2

/-- an exception: its class, its fields (of a class with an own __init__) -/
structure Exn where
  c : Addr
  fs : Option (List (Str × PyData))

/-- a value as the contracts see it: data, a cell of the store, a list that nobody else has, any other -/
inductive EV where
  | dat (d : PyData)
  | loc (n : Nat)
  | new (xs : List PyData)
  | raw (v : V)
  | exc (x : Exn)
  | ro (xs : List PyData)
  | newd (kvs : List (List Key × PyData))
  | newk (kvs : List (Key × PyData))

/-- a cell: a list that may change, one that may not any more, a dict -/
inductive Cell where
  | lst (xs : List PyData)
  | frz (xs : List PyData)
  | dct (kvs : List (List Key × PyData))
  | dck (kvs : List (Key × PyData))
  | abs (P : List PyData → Prop)
  | dead

abbrev Mu := List Cell
abbrev DEnv := List (Option EV)

/-- dicts' keys: ints and texts, or tuples of such -/
def keyD : Key → PyData
  | .inl i => .int i
  | .inr x => .str x
/-- a key's text can be laid -/
def keyOk : Key → Prop
  | .inl _ => True
  | .inr x => PyData.strOk x = true
/-- the keys are alike -/
def sameT (ks : List (List Key × V)) (kvs : List (List Key × PyData)) : Prop := ks.map (·.1) = kvs.map (·.1) ∧ ∀ p ∈ kvs, ∀ k ∈ p.1, keyOk k
def sameK (ks : List (Key × V)) (kvs : List (Key × PyData)) : Prop := ks.map (·.1) = kvs.map (·.1) ∧ ∀ p ∈ kvs, keyOk p.1
/-- .. as data -/
def kvT (kvs : List (List Key × PyData)) : List (PyData × PyData) := kvs.map fun p => (.tuple (p.1.map keyD), p.2)
def kvK (kvs : List (Key × PyData)) : List (PyData × PyData) := kvs.map fun p => (keyD p.1, p.2)
mutual
/-- a value that is data, in the still part F of the heap -/
inductive DR (K : PySem.W.Frag) (F : Hp) : V → PyData → Prop
  | non : DR K F .non .none
  | bl (b : Bool) : DR K F (.bl b) (.bool b)
  | int (i : Int) : DR K F (.int i) (.int i)
  | str (x : Str) : PyData.strOk x = true → DR K F (.str x) (.str x)
  | lst {a : Addr} {vs : List V} {ds : List PyData} : F a = some (.lst vs) → DRs K F vs ds → DR K F (.ref a) (.list ds)
  | tup {a : Addr} {vs : List V} {ds : List PyData} : F a = some (.tup vs) → DRs K F vs ds → DR K F (.ref a) (.tuple ds)
  | dcT {a : Addr} {od : Obj} {ks : List (List Key × V)} {kvs : List (List Key × PyData)} {d : List (PyData × PyData)} : F a = some (.frz od (.dT ks)) → sameT ks kvs → DRs K F (ks.map (·.2)) (kvs.map (·.2)) → d = kvT kvs → DR K F (.ref a) (.dict d)
  | dcK {a : Addr} {od : Obj} {ks : List (Key × V)} {kvs : List (Key × PyData)} {d : List (PyData × PyData)} : F a = some (.frz od (.dK ks)) → sameK ks kvs → DRs K F (ks.map (·.2)) (kvs.map (·.2)) → d = kvK kvs → kvs ≠ [] → DR K F (.ref a) (.dict d)
inductive DRs (K : PySem.W.Frag) (F : Hp) : List V → List PyData → Prop
  | nil : DRs K F [] []
  | cons {v : V} {vs : List V} {d : PyData} {ds : List PyData} : DR K F v d → DRs K F vs ds → DRs K F (v :: vs) (d :: ds)
end

theorem sqT_mono {K : PySem.W.Frag} {F F' : Hp} {a : Addr} {xs : List V} (e : Same F F') (h : SqT K F a xs) : SqT K F' a xs := by
  rcases h with (h | ⟨o, h⟩) | h
  · exact .inl (.inl (e _ _ h))
  · exact .inl (.inr ⟨o, e _ _ h⟩)
  · exact .inr h

mutual
theorem DR.mono {K : PySem.W.Frag} {F F' : Hp} (e : Same F F') : ∀ {v : V} {d : PyData}, DR K F v d → DR K F' v d
  | _, _, .non => .non
  | _, _, .bl b => .bl b
  | _, _, .int i => .int i
  | _, _, .str x h => .str x h
  | _, _, .lst h hs => .lst (e _ _ h) (DRs.mono e hs)
  | _, _, .tup h hs => .tup (e _ _ h) (DRs.mono e hs)
  | _, _, .dcT h k hs e' => .dcT (e _ _ h) k (DRs.mono e hs) e'
  | _, _, .dcK h k hs e' n' => .dcK (e _ _ h) k (DRs.mono e hs) e' n'
theorem DRs.mono {K : PySem.W.Frag} {F F' : Hp} (e : Same F F') : ∀ {vs : List V} {ds : List PyData}, DRs K F vs ds → DRs K F' vs ds
  | _, _, .nil => .nil
  | _, _, .cons h hs => .cons (DR.mono e h) (DRs.mono e hs)
end
mutual
/-- no dict in it -/
def noD : PyData → Bool
  | .dict _ => false
  | .list xs => noDs xs
  | .tuple xs => noDs xs
  | .none => true
  | .bool _ => true
  | .int _ => true
  | .str _ => true
def noDs : List PyData → Bool
  | [] => true
  | x :: xs => noD x && noDs xs
end
mutual
theorem DR.dp {K : PySem.W.Frag} {F : Hp} : ∀ {v : V} {d : PyData}, DR K F v d → noD d = true → Dp K F v d
  | _, _, .non, _ => .non
  | _, _, .bl b, _ => .bl b
  | _, _, .int i, _ => .int i
  | _, _, .str x _, _ => .str x
  | _, _, .lst h hs, n => .lst (SqL.of h) (DRs.dp hs (by simpa [noD] using n))
  | _, _, .tup h hs, n => .tup (SqT.of h) (DRs.dp hs (by simpa [noD] using n))
  | _, _, .dcT _ _ _ _, n => by simp [noD] at n
  | _, _, .dcK _ _ _ _ _, n => by simp [noD] at n
theorem DRs.dp {K : PySem.W.Frag} {F : Hp} : ∀ {vs : List V} {ds : List PyData}, DRs K F vs ds → noDs ds = true → DpAll K F vs ds
  | _, _, .nil, _ => .nil
  | _, _, .cons h hs, n => .cons (DR.dp h (by simp [noDs] at n; exact n.1)) (DRs.dp hs (by simp [noDs] at n; exact n.2))
end
mutual
theorem DR.lay {K : PySem.W.Frag} {F : Hp} : ∀ {v : V} {d : PyData}, DR K F v d → noD d = true → d.canLay0 = true
  | _, _, .non, _ => by simp [PyData.canLay0]
  | _, _, .bl b, _ => by simp [PyData.canLay0]
  | _, _, .int i, _ => by simp [PyData.canLay0]
  | _, _, .str x h, _ => by simpa [PyData.canLay0] using h
  | _, _, .lst h hs, n => by simpa [PyData.canLay0] using DRs.lay hs (by simpa [noD] using n)
  | _, _, .tup h hs, n => by simpa [PyData.canLay0] using DRs.lay hs (by simpa [noD] using n)
  | _, _, .dcT _ _ _ _, n => by simp [noD] at n
  | _, _, .dcK _ _ _ _ _, n => by simp [noD] at n
theorem DRs.lay {K : PySem.W.Frag} {F : Hp} : ∀ {vs : List V} {ds : List PyData}, DRs K F vs ds → noDs ds = true → PyData.canLayAll0 ds = true
  | _, _, .nil, _ => by simp [PyData.canLayAll0]
  | _, _, .cons h hs, n => by
    simp [noDs] at n
    simp [PyData.canLayAll0, DR.lay h n.1, DRs.lay hs n.2]
end
theorem DRs.length {K : PySem.W.Frag} {F : Hp} : ∀ {vs : List V} {ds : List PyData}, DRs K F vs ds → vs.length = ds.length
  | _, _, .nil => rfl
  | _, _, .cons _ hs => by rw [List.length_cons, List.length_cons, DRs.length hs]
theorem DRs.append {K : PySem.W.Frag} {F : Hp} : ∀ {vs ws : List V} {ds es : List PyData}, DRs K F vs ds → DRs K F ws es → DRs K F (vs ++ ws) (ds ++ es)
  | _, _, _, _, .nil, s => s
  | _, _, _, _, .cons h hs, s => .cons h (DRs.append hs s)
theorem DRs.get {K : PySem.W.Frag} {F : Hp} : ∀ {vs : List V} {ds : List PyData} {i : Nat} {d : PyData}, DRs K F vs ds → ds[i]? = some d → ∃ v, vs[i]? = some v ∧ DR K F v d
  | _, _, _, _, .nil, e => by simp at e
  | _, _, 0, _, .cons h _, e => by simp at e; subst e; exact ⟨_, rfl, h⟩
  | _, _, i + 1, d, .cons _ hs, e => by
    obtain ⟨v, h1, h2⟩ := DRs.get (i := i) (d := d) hs (by simpa using e)
    exact ⟨v, by simpa using h1, h2⟩
theorem DRs.getV {K : PySem.W.Frag} {F : Hp} : ∀ {vs : List V} {ds : List PyData} {i : Nat} {v : V}, DRs K F vs ds → vs[i]? = some v → ∃ d, ds[i]? = some d ∧ DR K F v d
  | _, _, _, _, .nil, e => by simp at e
  | _, _, 0, _, .cons h _, e => by simp at e; subst e; exact ⟨_, rfl, h⟩
  | _, _, i + 1, v, .cons _ hs, e => by
    obtain ⟨d, h1, h2⟩ := DRs.getV (i := i) (v := v) hs (by simpa using e)
    exact ⟨d, by simpa using h1, h2⟩
theorem DRs.set {K : PySem.W.Frag} {F : Hp} {v : V} {d : PyData} (r : DR K F v d) : ∀ {vs : List V} {ds : List PyData} (i : Nat), DRs K F vs ds → DRs K F (vs.set i v) (ds.set i d)
  | _, _, _, .nil => .nil
  | _, _, 0, .cons _ hs => .cons r hs
  | _, _, i + 1, .cons h hs => .cons h (DRs.set r i hs)
theorem DRs.take {K : PySem.W.Frag} {F : Hp} : ∀ {vs : List V} {ds : List PyData} (i : Nat), DRs K F vs ds → DRs K F (vs.take i) (ds.take i)
  | _, _, 0, _ => .nil
  | _, _, _ + 1, .nil => .nil
  | _, _, i + 1, .cons h hs => .cons h (DRs.take i hs)
theorem DRs.drop {K : PySem.W.Frag} {F : Hp} : ∀ {vs : List V} {ds : List PyData} (i : Nat), DRs K F vs ds → DRs K F (vs.drop i) (ds.drop i)
  | _, _, 0, h => h
  | _, _, _ + 1, .nil => .nil
  | _, _, i + 1, .cons _ hs => DRs.drop i hs

/-- a world: the tracked heap, its still part, where the cells lie -/
structure Wd where
  H : Hp
  F : Hp
  L : Nat → Addr

def CellAt (K : PySem.W.Frag) (s : Wd) (a : Addr) : Cell → Prop
  | .lst xs => s.F a = none ∧ ∃ vs, s.H a = some (.lst vs) ∧ DRs K s.F vs xs
  | .frz xs => ∃ vs, s.F a = some (.lst vs) ∧ DRs K s.F vs xs
  | .dct kvs => s.F a = none ∧ ∃ ks : List (List Key × V), s.H a = some (.dT ks) ∧ sameT ks kvs ∧ DRs K s.F (ks.map (·.2)) (kvs.map (·.2))
  | .dck kvs => s.F a = none ∧ ∃ ks : List (Key × V), s.H a = some (.dK ks) ∧ sameK ks kvs ∧ DRs K s.F (ks.map (·.2)) (kvs.map (·.2))
  | .abs P => ∃ xs, P xs ∧ s.F a = none ∧ ∃ vs, s.H a = some (.lst vs) ∧ DRs K s.F vs xs
  | .dead => s.H a ≠ none

structure Rep (K : PySem.W.Frag) (s : Wd) (μ : Mu) : Prop where
  sub : Same s.F s.H
  cell : ∀ n c, μ[n]? = some c → CellAt K s (s.L n) c
  inj : ∀ m n, m < μ.length → n < μ.length → s.L m = s.L n → m = n

theorem CellAt.here {K : PySem.W.Frag} {s : Wd} {a : Addr} {c : Cell} (h : CellAt K s a c) (sub : Same s.F s.H) : s.H a ≠ none := by
  cases c with
  | lst xs => obtain ⟨_, vs, e, _⟩ := h; rw [e]; simp
  | frz xs => obtain ⟨vs, e, _⟩ := h; rw [sub _ _ e]; simp
  | dct kvs =>
    obtain ⟨_, ks, e, _⟩ := h
    rw [e]; simp
  | dck kvs =>
    obtain ⟨_, ks, e, _⟩ := h
    rw [e]; simp
  | abs P => obtain ⟨xs, _, _, vs, e, _⟩ := h; rw [e]; simp
  | dead => exact h
theorem Rep.here {K : PySem.W.Frag} {s : Wd} {μ : Mu} (R : Rep K s μ) {n : Nat} (h : n < μ.length) : s.H (s.L n) ≠ none := (R.cell n μ[n] (by simp [h])).here R.sub

/-- from s with N cells to s' with N' -/
structure Ext (s : Wd) (N : Nat) (s' : Wd) (N' : Nat) : Prop where
  f : Same s.F s'.F
  l : ∀ n, n < N → s'.L n = s.L n
  le : N ≤ N'
  keep : ∀ a o, s.H a = some o → (∀ n, n < N → s.L n ≠ a) → s'.H a = some o
  fnew : ∀ a, s.F a = none → (∀ n, n < N → s.L n ≠ a) → s.H a ≠ none → (∀ vs, s.H a ≠ some (.tup vs)) → s'.F a = none
  lnew : ∀ n, N ≤ n → n < N' → s.H (s'.L n) = none
theorem Ext.refl (s : Wd) (N : Nat) : Ext s N s N := ⟨fun _ _ h => h, fun _ _ => rfl, Nat.le_refl _, fun _ _ h _ => h, fun _ h _ _ _ => h, fun n h1 h2 => absurd h1 (Nat.not_le_of_lt h2)⟩
theorem Ext.trans {s s1 s2 : Wd} {N N1 N2 : Nat} (a : Ext s N s1 N1) (b : Ext s1 N1 s2 N2) (h1 : ∀ n, n < N1 → s1.H (s1.L n) ≠ none) : Ext s N s2 N2 := by
  have out : ∀ c, s.H c ≠ none → (∀ n, n < N → s.L n ≠ c) → ∀ n, n < N1 → s1.L n ≠ c := fun c hc hn n hn1 e => by
    by_cases h : n < N
    · exact hn n h ((a.l n h).symm.trans e)
    · have := a.lnew n (Nat.le_of_not_lt h) hn1
      rw [e] at this
      exact hc this
  refine ⟨fun x o h => b.f x o (a.f x o h), fun n h => (b.l n (Nat.lt_of_lt_of_le h a.le)).trans (a.l n h), Nat.le_trans a.le b.le, fun x o h hn => b.keep x o (a.keep x o h hn) (out x (by rw [h]; simp) hn), fun x hf hn hx ht => ?_, fun n hn hn2 => ?_⟩
  · have kx : ∀ o, s.H x = some o → s1.H x = some o := fun o q => a.keep x o q hn
    refine b.fnew x (a.fnew x hf hn hx ht) (out x hx hn) ?_ ?_
    · cases q : s.H x with
      | none => exact absurd q hx
      | some o => rw [kx o q]; simp
    · cases q : s.H x with
      | none => exact absurd q hx
      | some o =>
        intro vs z
        rw [kx o q] at z
        exact ht vs (by rw [q]; exact z)
  · by_cases h : n < N1
    · rw [b.l n h]
      exact a.lnew n hn h
    · have q := b.lnew n (Nat.le_of_not_lt h) hn2
      cases e : s.H (s2.L n) with
      | none => rfl
      | some o =>
        by_cases hm : ∃ m, m < N ∧ s.L m = s2.L n
        · obtain ⟨m, hm1, hm2⟩ := hm
          have := h1 m (Nat.lt_of_lt_of_le hm1 a.le)
          rw [a.l m hm1, hm2] at this
          exact absurd q this
        · have := a.keep _ o e (fun m hm1 hm2 => hm ⟨m, hm1, hm2⟩)
          rw [this] at q
          cases q

/-- an exception's object -/
def excO (a : Addr) (cls : Value) (d : Option Addr) : HO := .ext fun h => ∃ (oe : Obj) (vs : Array Value), h.get? a = some oe ∧ Zc cls d oe ∧ oe.data = .fields vs
def excAt (K : PySem.W.Frag) (s : Wd) (v : V) (x : Exn) : Prop := ∃ a d, v = .ref a ∧ s.F a = some (excO a (.ref x.c) d) ∧ (x.fs = none → d = none)
/-- a value as it is seen in a world with N cells -/
def VR (K : PySem.W.Frag) (s : Wd) (N : Nat) (v : V) : EV → Prop
  | .dat d => DR K s.F v d
  | .loc n => n < N ∧ v = .ref (s.L n)
  | .new xs => ∃ p vs, v = .ref p ∧ s.H p = some (.lst vs) ∧ s.F p = none ∧ (∀ m, m < N → s.L m ≠ p) ∧ DRs K s.F vs xs
  | .raw u => v = u
  | .exc x => excAt K s v x
  | .ro xs => ∃ a vs, v = .ref a ∧ SqL K s.F a vs ∧ DRs K s.F vs xs
  | .newd kvs => ∃ p ks, v = .ref p ∧ s.H p = some (.dT ks) ∧ s.F p = none ∧ (∀ m, m < N → s.L m ≠ p) ∧ sameT ks kvs ∧ DRs K s.F (ks.map (·.2)) (kvs.map (·.2))
  | .newk kvs => ∃ p ks, v = .ref p ∧ s.H p = some (.dK ks) ∧ s.F p = none ∧ (∀ m, m < N → s.L m ≠ p) ∧ sameK ks kvs ∧ DRs K s.F (ks.map (·.2)) (kvs.map (·.2))
theorem VR.ext {K : PySem.W.Frag} {s s' : Wd} {N N' : Nat} {v : V} {e : EV} (h : VR K s N v e) (x : Ext s N s' N') : VR K s' N' v e := by
  cases e with
  | dat d => exact DR.mono x.f h
  | loc n => exact ⟨Nat.lt_of_lt_of_le h.1 x.le, by rw [x.l n h.1]; exact h.2⟩
  | new xs =>
    obtain ⟨p, vs, e1, e2, e3, e4, e5⟩ := h
    refine ⟨p, vs, e1, x.keep p _ e2 e4, x.fnew p e3 e4 (by rw [e2]; simp) (by intro vs z; rw [e2] at z; cases z), fun m hm e => ?_, e5.mono x.f⟩
    by_cases q : m < N
    · exact e4 m q ((x.l m q).symm.trans e)
    · have := x.lnew m (Nat.le_of_not_lt q) hm
      rw [e, e2] at this
      cases this
  | raw u => exact h
  | exc y =>
    obtain ⟨a, d, e1, e2, e3⟩ := h
    exact ⟨a, d, e1, x.f _ _ e2, e3⟩
  | ro xs =>
    obtain ⟨a, vs, e1, e2, e3⟩ := h
    exact ⟨a, vs, e1, x.f.seq e2, e3.mono x.f⟩
  | newd kvs =>
    obtain ⟨p, ks, e1, e2, e3, e4, e5, e6⟩ := h
    refine ⟨p, ks, e1, x.keep p _ e2 e4, x.fnew p e3 e4 (by rw [e2]; simp) (by intro vs z; rw [e2] at z; cases z), fun m hm e => ?_, e5, e6.mono x.f⟩
    by_cases q : m < N
    · exact e4 m q ((x.l m q).symm.trans e)
    · have := x.lnew m (Nat.le_of_not_lt q) hm
      rw [e, e2] at this
      cases this
  | newk kvs =>
    obtain ⟨p, ks, e1, e2, e3, e4, e5, e6⟩ := h
    refine ⟨p, ks, e1, x.keep p _ e2 e4, x.fnew p e3 e4 (by rw [e2]; simp) (by intro vs z; rw [e2] at z; cases z), fun m hm e => ?_, e5, e6.mono x.f⟩
    by_cases q : m < N
    · exact e4 m q ((x.l m q).symm.trans e)
    · have := x.lnew m (Nat.le_of_not_lt q) hm
      rw [e, e2] at this
      cases this
/-- a list that nobody else has was not there ahead -/
def Frsh (H : Hp) (v : V) : EV → Prop
  | .new _ => ∀ p, v = .ref p → H p = none
  | .newd _ => ∀ p, v = .ref p → H p = none
  | .newk _ => ∀ p, v = .ref p → H p = none
  | _ => True
theorem Frsh.back {s s1 : Wd} {N N1 : Nat} {v : V} {e : EV} {K : PySem.W.Frag} (x : Ext s N s1 N1) (h : Frsh s1.H v e) (r : ∀ n, n < N1 → s1.H (s1.L n) ≠ none) : Frsh s.H v e := by
  cases e with
  | new xs =>
    intro p hp
    have q := h p hp
    cases e : s.H p with
    | none => rfl
    | some o =>
      by_cases hm : ∃ m, m < N ∧ s.L m = p
      · obtain ⟨m, hm1, hm2⟩ := hm
        have := r m (Nat.lt_of_lt_of_le hm1 x.le)
        rw [x.l m hm1, hm2] at this
        exact absurd q this
      · have := x.keep p o e (fun m hm1 hm2 => hm ⟨m, hm1, hm2⟩)
        rw [this] at q
        cases q
  | newd xs =>
    intro p hp
    have q := h p hp
    cases e : s.H p with
    | none => rfl
    | some o =>
      by_cases hm : ∃ m, m < N ∧ s.L m = p
      · obtain ⟨m, hm1, hm2⟩ := hm
        have := r m (Nat.lt_of_lt_of_le hm1 x.le)
        rw [x.l m hm1, hm2] at this
        exact absurd q this
      · have := x.keep p o e (fun m hm1 hm2 => hm ⟨m, hm1, hm2⟩)
        rw [this] at q
        cases q
  | newk xs =>
    intro p hp
    have q := h p hp
    cases e : s.H p with
    | none => rfl
    | some o =>
      by_cases hm : ∃ m, m < N ∧ s.L m = p
      · obtain ⟨m, hm1, hm2⟩ := hm
        have := r m (Nat.lt_of_lt_of_le hm1 x.le)
        rw [x.l m hm1, hm2] at this
        exact absurd q this
      · have := x.keep p o e (fun m hm1 hm2 => hm ⟨m, hm1, hm2⟩)
        rw [this] at q
        cases q
  | _ => trivial

/-- the slots -/
structure ER (K : PySem.W.Frag) (s : Wd) (N : Nat) (σ : L2.St) (η : DEnv) : Prop where
  len : σ.length = η.length
  get : ∀ (i : Nat) (e : EV), η[i]? = some (some e) → ∃ v, σ[i]? = some (some v) ∧ VR K s N v e
theorem ER.ext {K : PySem.W.Frag} {s s' : Wd} {N N' : Nat} {σ : L2.St} {η : DEnv} (h : ER K s N σ η) (x : Ext s N s' N') : ER K s' N' σ η :=
  ⟨h.len, fun i e q => let ⟨v, h1, h2⟩ := h.get i e q; ⟨v, h1, h2.ext x⟩⟩
theorem ER.set {K : PySem.W.Frag} {s : Wd} {N : Nat} {σ : L2.St} {η : DEnv} (h : ER K s N σ η) (i : Nat) {v : V} {e : EV} (r : VR K s N v e) : ER K s N (σ.set i (some v)) (η.set i (some e)) := by
  refine ⟨by simp [h.len], fun j e' q => ?_⟩
  by_cases hj : i = j
  · subst hj
    by_cases hl : i < η.length
    · rw [List.getElem?_set_self hl] at q
      cases q
      exact ⟨v, List.getElem?_set_self (by rw [h.len]; exact hl), r⟩
    · rw [List.getElem?_eq_none (by simpa using hl)] at q
      cases q
  · rw [List.getElem?_set_ne hj] at q
    obtain ⟨w, h1, h2⟩ := h.get j e' q
    exact ⟨w, by rw [List.getElem?_set_ne hj]; exact h1, h2⟩
theorem ER.wipe1 {K : PySem.W.Frag} {s : Wd} {N : Nat} {σ : L2.St} {η : DEnv} (h : ER K s N σ η) (i : Nat) : ER K s N (σ.set i none) (η.set i none) := by
  refine ⟨by simp [h.len], fun j e' q => ?_⟩
  by_cases hj : i = j
  · subst hj
    by_cases hl : i < η.length
    · rw [List.getElem?_set_self hl] at q
      cases q
    · rw [List.getElem?_eq_none (by simpa using hl)] at q
      cases q
  · rw [List.getElem?_set_ne hj] at q
    obtain ⟨w, h1, h2⟩ := h.get j e' q
    exact ⟨w, by rw [List.getElem?_set_ne hj]; exact h1, h2⟩
def wipeD (η : DEnv) : List Nat → DEnv
  | [] => η
  | v :: vs => (wipeD η vs).set v none
theorem ER.wipe {K : PySem.W.Frag} {s : Wd} {N : Nat} {σ : L2.St} {η : DEnv} (h : ER K s N σ η) : ∀ vs : List Nat, ER K s N (L2.wipe σ vs) (wipeD η vs)
  | [] => h
  | v :: vs => by
    unfold L2.wipe wipeD
    exact (ER.wipe h vs).wipe1 v
/-- fewer slots are known -/
theorem ER.sub {K : PySem.W.Frag} {s : Wd} {N : Nat} {σ : L2.St} {η η' : DEnv} (h : ER K s N σ η) (hl : η'.length = η.length) (hs : ∀ (i : Nat) (e : EV), η'[i]? = some (some e) → η[i]? = some (some e)) : ER K s N σ η' :=
  ⟨by rw [h.len, hl], fun i e q => h.get i e (hs i e q)⟩

/-! ### making cells, making still -/
section
variable {K : PySem.W.Frag} {s0 s : Wd} {N0 : Nat} {μ : Mu}
theorem cell_still {s : Wd} {a b : Addr} {o : HO} {c : Cell} (h : CellAt K s b c) (ne : b ≠ a) (hn : s.F a = none) : CellAt K { s with F := upd s.F a o } b c := by
  have e : Same s.F (upd s.F a o) := fun x o' q => by rw [upd_ne (ne_of_none q hn)]; exact q
  cases c with
  | lst xs => obtain ⟨h1, ws, h2, h3⟩ := h; exact ⟨(upd_ne ne).trans h1, ws, h2, h3.mono e⟩
  | frz xs => obtain ⟨ws, h2, h3⟩ := h; exact ⟨ws, e _ _ h2, h3.mono e⟩
  | dct kvs =>
    obtain ⟨h1, ks, h2, h3, h4⟩ := h
    exact ⟨(upd_ne ne).trans h1, ks, h2, h3, h4.mono e⟩
  | dck kvs =>
    obtain ⟨h1, ks, h2, h3, h4⟩ := h
    exact ⟨(upd_ne ne).trans h1, ks, h2, h3, h4.mono e⟩
  | abs P => obtain ⟨xs, hP, h1, ws, h2, h3⟩ := h; exact ⟨xs, hP, (upd_ne ne).trans h1, ws, h2, h3.mono e⟩
  | dead => exact h
/-- a list that nobody else has becomes still -/
theorem still_new {p : Addr} {vs : List V} {xs : List PyData} (R : Rep K s μ) (x : Ext s0 N0 s μ.length) (hp : s.H p = some (.lst vs)) (hf : s.F p = none) (hl : ∀ m, m < μ.length → s.L m ≠ p) (hd : DRs K s.F vs xs) (h0 : s0.H p = none) :
    Rep K { s with F := upd s.F p (.lst vs) } μ ∧ Ext s0 N0 { s with F := upd s.F p (.lst vs) } μ.length ∧ DR K (upd s.F p (.lst vs)) (.ref p) (.list xs) := by
  have e : Same s.F (upd s.F p (.lst vs)) := fun y o q => by rw [upd_ne (ne_of_none q hf)]; exact q
  refine ⟨⟨fun a o q => ?_, fun n c q => cell_still (R.cell n c q) (hl n (List.getElem?_eq_some_iff.mp q).1) hf, R.inj⟩, ⟨fun a o q => e a o (x.f a o q), x.l, x.le, x.keep, fun a h1 h2 h3 h4 => ?_, x.lnew⟩, .lst upd_same (hd.mono e)⟩
  · have q' : upd s.F p (.lst vs) a = some o := q
    by_cases ha : a = p
    · subst ha
      rw [upd_same] at q'
      cases q'
      exact hp
    · rw [upd_ne ha] at q'
      exact R.sub a o q'
  · have ha : a ≠ p := fun z => h3 (z ▸ h0)
    show upd s.F p (.lst vs) a = none
    rw [upd_ne ha]
    exact x.fnew a h1 h2 h3 h4
theorem CellAt.atL {K : PySem.W.Frag} {s : Wd} {L' : Nat → Addr} {a : Addr} {c : Cell} (h : CellAt K s a c) : CellAt K { s with L := L' } a c := by
  cases c <;> exact h
/-- .. becomes a cell -/
theorem cell_newC {p : Addr} {c : Cell} (R : Rep K s μ) (x : Ext s0 N0 s μ.length) (hC : CellAt K s p c) (hl : ∀ m, m < μ.length → s.L m ≠ p) (h0 : s0.H p = none) :
    Rep K { s with L := fun n => if n = μ.length then p else s.L n } (μ ++ [c]) ∧ Ext s0 N0 { s with L := fun n => if n = μ.length then p else s.L n } (μ ++ [c]).length := by
  refine ⟨⟨R.sub, fun n c' q => ?_, fun m n hm hn e => ?_⟩, ⟨x.f, fun n hn => ?_, by simp; exact Nat.le_trans x.le (Nat.le_succ _), x.keep, x.fnew, fun n h1 h2 => ?_⟩⟩
  · by_cases hn : n = μ.length
    · subst hn
      simp at q
      subst q
      show CellAt K _ (if μ.length = μ.length then p else _) _
      rw [if_pos rfl]
      exact hC.atL
    · have hlt : n < μ.length := by
        have := (List.getElem?_eq_some_iff.mp q).1
        simp at this
        omega
      rw [List.getElem?_append_left hlt] at q
      show CellAt K _ (if n = μ.length then p else s.L n) c'
      rw [if_neg hn]
      exact (R.cell n c' q).atL
  · simp at hm hn
    have e' : (if m = μ.length then p else s.L m) = (if n = μ.length then p else s.L n) := e
    by_cases h1 : m = μ.length
    · by_cases h2 : n = μ.length
      · omega
      · rw [if_pos h1, if_neg h2] at e'
        exact absurd e'.symm (hl n (by omega))
    · by_cases h2 : n = μ.length
      · rw [if_neg h1, if_pos h2] at e'
        exact absurd e' (hl m (by omega))
      · rw [if_neg h1, if_neg h2] at e'
        exact R.inj m n (by omega) (by omega) e'
  · show (if n = μ.length then p else s.L n) = _
    rw [if_neg (by have := x.le; omega)]
    exact x.l n hn
  · show s0.H (if n = μ.length then p else s.L n) = none
    by_cases hn : n = μ.length
    · rw [if_pos hn]; exact h0
    · rw [if_neg hn]
      simp at h2
      exact x.lnew n h1 (by omega)
theorem cell_new {p : Addr} {vs : List V} {xs : List PyData} (R : Rep K s μ) (x : Ext s0 N0 s μ.length) (hp : s.H p = some (.lst vs)) (hf : s.F p = none) (hl : ∀ m, m < μ.length → s.L m ≠ p) (hd : DRs K s.F vs xs) (h0 : s0.H p = none) :
    Rep K { s with L := fun n => if n = μ.length then p else s.L n } (μ ++ [.lst xs]) ∧ Ext s0 N0 { s with L := fun n => if n = μ.length then p else s.L n } (μ ++ [Cell.lst xs]).length := cell_newC R x ⟨hf, vs, hp, hd⟩ hl h0
/-- a cell becomes still -/
theorem still_cell {n : Nat} {xs : List PyData} (R : Rep K s μ) (x : Ext s0 N0 s μ.length) (hn : μ[n]? = some (.lst xs)) :
    ∃ F', Rep K { s with F := F' } (μ.set n (.frz xs)) ∧ Ext s0 N0 { s with F := F' } (μ.set n (.frz xs)).length ∧ DR K F' (.ref (s.L n)) (.list xs) := by
  obtain ⟨hf, vs, hp, hd⟩ := R.cell n _ hn
  have hlt := (List.getElem?_eq_some_iff.mp hn).1
  have e : Same s.F (upd s.F (s.L n) (.lst vs)) := fun y o q => by rw [upd_ne (ne_of_none q hf)]; exact q
  refine ⟨upd s.F (s.L n) (.lst vs), ⟨fun a o q => ?_, fun m c q => ?_, fun i j hi hj => R.inj i j (by simpa using hi) (by simpa using hj)⟩, ⟨fun a o q => e a o (x.f a o q), x.l, by rw [List.length_set]; exact x.le, x.keep, fun a h1 h2 h3 h4 => ?_, fun i h1 h2 => x.lnew i h1 (by simpa using h2)⟩, .lst upd_same (hd.mono e)⟩
  · by_cases ha : a = s.L n
    · subst ha
      have q' : upd s.F (s.L n) (.lst vs) (s.L n) = some o := q
      rw [upd_same] at q'
      cases q'
      exact hp
    · have q' : upd s.F (s.L n) (.lst vs) a = some o := q
      rw [upd_ne ha] at q'
      exact R.sub a o q'
  · by_cases hm : n = m
    · subst hm
      rw [List.getElem?_set_self hlt] at q
      cases q
      exact ⟨vs, upd_same, hd.mono e⟩
    · rw [List.getElem?_set_ne hm] at q
      exact cell_still (R.cell m c q) (fun z => hm (R.inj m n (List.getElem?_eq_some_iff.mp q).1 hlt z).symm) hf
  · by_cases ha : a = s.L n
    · exfalso
      have hN : ¬ n < N0 := fun z => h2 n z ((x.l n z).symm.trans ha.symm)
      have := x.lnew n (Nat.le_of_not_lt hN) hlt
      rw [← ha] at this
      exact h3 this
    · show upd s.F (s.L n) (.lst vs) a = none
      rw [upd_ne ha]
      exact x.fnew a h1 h2 h3 h4
/-- only the first N cells are kept -/
theorem Rep.take (R : Rep K s μ) (N : Nat) : Rep K s (μ.take N) :=
  ⟨R.sub, fun n c q => R.cell n c (by
    rw [List.getElem?_take] at q
    split at q
    · exact q
    · cases q), fun m n hm hn => R.inj m n (by rw [List.length_take] at hm; omega) (by rw [List.length_take] at hn; omega)⟩
theorem Ext.take {N N' : Nat} (x : Ext s0 N0 s N) (h1 : N0 ≤ N') (h2 : N' ≤ N) : Ext s0 N0 s N' := ⟨x.f, x.l, h1, x.keep, x.fnew, fun n a b => x.lnew n a (by omega)⟩
end
end DL

set_option Elab.async false
set_option linter.all false
set_option maxRecDepth 100000
set_option maxHeartbeats 4000000
namespace DL
open PySem L2

abbrev PQ := EV → Mu → Prop
abbrev XQ := Exn → Mu → Prop
/-- what must hold of the slots and the store so that an expression gives what is wanted -/
abbrev TDE := DEnv → Mu → PQ → XQ → Prop
abbrev TDT := DEnv → Mu → (Bool → Mu → Prop) → XQ → Prop
abbrev TDA := DEnv → Mu → (List EV → Mu → Prop) → XQ → Prop
structure DEnds where
  nx : DEnv → Mu → Prop
  rt : EV → Mu → Prop
  bk : DEnv → Mu → Prop := fun _ _ => False
  ct : DEnv → Mu → Prop := fun _ _ => False
abbrev TDS := DEnds → XQ → DEnv → Mu → Prop

def XR (K : PySem.W.Frag) (s : Wd) (cls : Value) (d : Option Addr) (x : Exn) : Prop := cls = .ref x.c ∧ match x.fs, d with
  | none, none => True
  | some fs, some a => ∃ vs : List (Str × V), s.H a = some (.xd vs) ∧ vs.map (·.1) = fs.map (·.1) ∧ DRs K s.F (vs.map (·.2)) (fs.map (·.2))
  | _, _ => False

/-- the state of a body: world, store, slots -/
structure Sit (K : PySem.W.Frag) (s : Wd) (μ : Mu) (σ : L2.St) (η : DEnv) : Prop where
  rep : Rep K s μ
  er : ER K s μ.length σ η

def LE (K : PySem.W.Frag) (s : Wd) (N : Nat) (q : PQ) (Q : VK) : Prop := ∀ (e : EV) (μ' : Mu) (v : V) (s' : Wd), q e μ' → Ext s N s' μ'.length → Rep K s' μ' → VR K s' μ'.length v e → Frsh s.H v e → Q v s'.H
def LB (K : PySem.W.Frag) (s : Wd) (N : Nat) (q : Bool → Mu → Prop) (Q : Bool → Hp → Prop) : Prop := ∀ (b : Bool) (μ' : Mu) (s' : Wd), q b μ' → Ext s N s' μ'.length → Rep K s' μ' → Q b s'.H
inductive VRs (K : PySem.W.Frag) (s : Wd) (N : Nat) (H0 : Hp) : List V → List EV → Prop
  | nil : VRs K s N H0 [] []
  | cons {v : V} {vs : List V} {e : EV} {es : List EV} : VR K s N v e → Frsh H0 v e → VRs K s N H0 vs es → VRs K s N H0 (v :: vs) (e :: es)
def LA (K : PySem.W.Frag) (s : Wd) (N : Nat) (q : List EV → Mu → Prop) (Q : List V → Hp → Prop) : Prop := ∀ (es : List EV) (μ' : Mu) (vs : List V) (s' : Wd), q es μ' → Ext s N s' μ'.length → Rep K s' μ' → VRs K s' μ'.length s.H vs es → Q vs s'.H
def LX (K : PySem.W.Frag) (s : Wd) (N : Nat) (σ : L2.St) (E : XQ) (W : WX) : Prop := ∀ (x : Exn) (μ' : Mu) (cls : Value) (d : Option Addr) (s' : Wd), E x μ' → Ext s N s' μ'.length → Rep K s' μ' → XR K s' cls d x → W cls d σ s'.H

section
variable {K : PySem.W.Frag} {s s1 : Wd} {N N1 : Nat} {μ1 : Mu} {σ : L2.St}
theorem LE.go {q : PQ} {Q : VK} (h : LE K s N q Q) (x : Ext s N s1 μ1.length) (R : Rep K s1 μ1) : LE K s1 μ1.length q Q := fun e μ' v s' hq x' R' r f =>
  h e μ' v s' hq (x.trans x' fun n hn => R.here hn) R' r (f.back (K := K) x fun n hn => R.here hn)
theorem LB.go {q : Bool → Mu → Prop} {Q : Bool → Hp → Prop} (h : LB K s N q Q) (x : Ext s N s1 μ1.length) (R : Rep K s1 μ1) : LB K s1 μ1.length q Q := fun e μ' s' hq x' R' =>
  h e μ' s' hq (x.trans x' fun n hn => R.here hn) R'
theorem LX.go {E : XQ} {W : WX} (h : LX K s N σ E W) (x : Ext s N s1 μ1.length) (R : Rep K s1 μ1) : LX K s1 μ1.length σ E W := fun e μ' cls d s' hq x' R' r =>
  h e μ' cls d s' hq (x.trans x' fun n hn => R.here hn) R' r
theorem LX.none {W : WX} : LX K s N σ (fun _ _ => False) W := fun _ _ _ _ _ h => h.elim
theorem VRs.ext {s' : Wd} {N' : Nat} {H0 : Hp} {vs : List V} {es : List EV} (h : VRs K s N H0 vs es) (x : Ext s N s' N') : VRs K s' N' H0 vs es := by
  induction h with
  | nil => exact .nil
  | cons r f _ ih => exact .cons (r.ext x) f ih
theorem VRs.len {H0 : Hp} {vs : List V} {es : List EV} (h : VRs K s N H0 vs es) : vs.length = es.length := by
  induction h with
  | nil => rfl
  | cons _ _ _ ih => rw [List.length_cons, List.length_cons, ih]
theorem VRs.back {s0 : Wd} {N0 : Nat} {s' : Wd} {N' : Nat} {vs : List V} {es : List EV} (h : VRs K s' N' s1.H vs es) (x : Ext s0 N0 s1 N1) (r : ∀ n, n < N1 → s1.H (s1.L n) ≠ Option.none) : VRs K s' N' s0.H vs es := by
  induction h with
  | nil => exact .nil
  | cons a f _ ih => exact .cons a (f.back (K := K) x r) ih
end

/-- an expression by its data reading -/
structure DE (X : Cx) (W : WX) (e : Expr) (td : TDE) : Prop where
  ex : ∃ t : TE, PE X e t ∧ ∀ (s : Wd) (σ : L2.St) (η : DEnv) (μ : Mu) (Q : VK) (q : PQ) (E : XQ), Sit X.K s μ σ η → td η μ q E → LE X.K s μ.length q Q → LX X.K s μ.length σ E W → t σ s.H Q
structure DT (X : Cx) (W : WX) (e : Expr) (td : TDT) : Prop where
  ex : ∃ t : TT, PT X e t ∧ ∀ (s : Wd) (σ : L2.St) (η : DEnv) (μ : Mu) (Q : Bool → Hp → Prop) (q : Bool → Mu → Prop) (E : XQ), Sit X.K s μ σ η → td η μ q E → LB X.K s μ.length q Q → LX X.K s μ.length σ E W → t σ s.H Q
structure DW (X : Cx) (W : WX) (e : Expr) (td : TDT) : Prop where
  ex : ∃ t : TT, PW X e t ∧ ∀ (s : Wd) (σ : L2.St) (η : DEnv) (μ : Mu) (Q : Bool → Hp → Prop) (q : Bool → Mu → Prop) (E : XQ), Sit X.K s μ σ η → td η μ q E → LB X.K s μ.length q Q → LX X.K s μ.length σ E W → t σ s.H Q
structure DA (X : Cx) (W : WX) (es : List Expr) (td : TDA) : Prop where
  ex : ∃ t : TA, PA X es t ∧ ∀ (s : Wd) (σ : L2.St) (η : DEnv) (μ : Mu) (Q : List V → Hp → Prop) (q : List EV → Mu → Prop) (E : XQ), Sit X.K s μ σ η → td η μ q E → LA X.K s μ.length q Q → LX X.K s μ.length σ E W → t σ s.H Q

/-- what is wanted behind a statement, lifted -/
structure LS (K : PySem.W.Frag) (s : Wd) (N : Nat) (d : DEnds) (E : XQ) (D : Ends) (W : WX) : Prop where
  nx : ∀ (η' : DEnv) (μ' : Mu) (σ' : L2.St) (s' : Wd), d.nx η' μ' → Ext s N s' μ'.length → Sit K s' μ' σ' η' → D.nx σ' s'.H
  rt : LE K s N d.rt D.rt
  bk : ∀ (η' : DEnv) (μ' : Mu) (σ' : L2.St) (s' : Wd), d.bk η' μ' → Ext s N s' μ'.length → Sit K s' μ' σ' η' → D.bk σ' s'.H
  ct : ∀ (η' : DEnv) (μ' : Mu) (σ' : L2.St) (s' : Wd), d.ct η' μ' → Ext s N s' μ'.length → Sit K s' μ' σ' η' → D.ct σ' s'.H
  xq : ∀ (x : Exn) (μ' : Mu) (cls : Value) (dd : Option Addr) (σ' : L2.St) (s' : Wd), E x μ' → Ext s N s' μ'.length → Rep K s' μ' → XR K s' cls dd x → W cls dd σ' s'.H
structure DS (X : Cx) (W : WX) (st : Stmt) (td : TDS) : Prop where
  ex : ∃ t : TS, PS X st t ∧ ∀ (s : Wd) (σ : L2.St) (η : DEnv) (μ : Mu) (D : Ends) (d : DEnds) (E : XQ), Sit X.K s μ σ η → td d E η μ → LS X.K s μ.length d E D W → t D σ s.H
structure DSs (X : Cx) (W : WX) (st : List Stmt) (td : TDS) : Prop where
  ex : ∃ t : TS, PSs X st t ∧ ∀ (s : Wd) (σ : L2.St) (η : DEnv) (μ : Mu) (D : Ends) (d : DEnds) (E : XQ), Sit X.K s μ σ η → td d E η μ → LS X.K s μ.length d E D W → t D σ s.H

theorem LS.go {K : PySem.W.Frag} {s s1 : Wd} {N : Nat} {μ1 : Mu} {d : DEnds} {E : XQ} {D : Ends} {W : WX} (h : LS K s N d E D W) (x : Ext s N s1 μ1.length) (R : Rep K s1 μ1) : LS K s1 μ1.length d E D W :=
  ⟨fun η' μ' σ' s' q x' S => h.nx η' μ' σ' s' q (x.trans x' fun n hn => R.here hn) S, h.rt.go x R, fun η' μ' σ' s' q x' S => h.bk η' μ' σ' s' q (x.trans x' fun n hn => R.here hn) S,
   fun η' μ' σ' s' q x' S => h.ct η' μ' σ' s' q (x.trans x' fun n hn => R.here hn) S, fun y μ' cls dd σ' s' q x' R' r => h.xq y μ' cls dd σ' s' q (x.trans x' fun n hn => R.here hn) R' r⟩
theorem LS.lx {K : PySem.W.Frag} {s : Wd} {N : Nat} {d : DEnds} {E : XQ} {D : Ends} {W : WX} (h : LS K s N d E D W) (σ : L2.St) : LX K s N σ E W := fun x μ' cls dd s' q x' R r => h.xq x μ' cls dd σ s' q x' R r
theorem Sit.go {K : PySem.W.Frag} {s s1 : Wd} {μ μ1 : Mu} {σ : L2.St} {η : DEnv} (h : Sit K s μ σ η) (x : Ext s μ.length s1 μ1.length) (R : Rep K s1 μ1) : Sit K s1 μ1 σ η := ⟨R, h.er.ext x⟩

section
variable {X : Cx} {W : WX} {e a b : Expr} {ta tb te : TDE} {pos : Pos}
/-! ### names, constants -/
def dVar (i : Nat) : TDE := fun η μ q _ => match η[i]? with
  | some (some (.new _)) => False
  | some (some (.newd _)) => False
  | some (some (.newk _)) => False
  | some (some e) => q e μ
  | _ => False
def dC (d : PyData) : TDE := fun _ μ q _ => q (.dat d) μ
def dRaw (v : V) : TDE := fun _ μ q _ => q (.raw v) μ
theorem de_pe {t : TE} (h : PE X e t) (g : ∀ (s : Wd) (σ : L2.St) (η : DEnv) (μ : Mu) (Q : VK) (q : PQ) (E : XQ), Sit X.K s μ σ η → te η μ q E → LE X.K s μ.length q Q → LX X.K s μ.length σ E W → t σ s.H Q) : DE X W e te := ⟨t, h, g⟩
theorem de_var {i : Nat} (h : PE X e (tVar i)) : DE X W e (dVar i) := de_pe h fun s σ η μ Q q E S hq l _ => by
  unfold dVar at hq
  cases hi : η[i]? with
  | none => rw [hi] at hq; exact hq.elim
  | some o =>
    cases o with
    | none => rw [hi] at hq; exact hq.elim
    | some ev =>
      rw [hi] at hq
      obtain ⟨v, h1, h2⟩ := S.er.get i _ hi
      cases ev with
      | new xs => exact hq.elim
      | newd xs => exact hq.elim
      | newk xs => exact hq.elim
      | dat _ => exact ⟨v, h1, l _ μ v s hq (Ext.refl _ _) S.rep h2 trivial⟩
      | loc _ => exact ⟨v, h1, l _ μ v s hq (Ext.refl _ _) S.rep h2 trivial⟩
      | raw _ => exact ⟨v, h1, l _ μ v s hq (Ext.refl _ _) S.rep h2 trivial⟩
      | exc _ => exact ⟨v, h1, l _ μ v s hq (Ext.refl _ _) S.rep h2 trivial⟩
      | ro _ => exact ⟨v, h1, l _ μ v s hq (Ext.refl _ _) S.rep h2 trivial⟩
theorem de_c {v : V} {d : PyData} (h : PE X e (tC v)) (r : ∀ (K : PySem.W.Frag) (F : Hp), DR K F v d) : DE X W e (dC d) := de_pe h fun s σ η μ Q q E S hq l _ => l _ _ _ _ hq (Ext.refl _ _) S.rep (r _ _) trivial
theorem de_int {i j} : DE X W (.Constant (.int i) j pos) (dC (.int i)) := de_c pe_int fun _ _ => .int i
theorem de_bl {b j} : DE X W (.Constant (.bool b) j pos) (dC (.bool b)) := de_c pe_bl fun _ _ => .bl b
theorem de_non {j} : DE X W (.Constant .none j pos) (dC .none) := de_c pe_non fun _ _ => .non
theorem de_str {x j} (h : PyData.strOk x = true := by decide +kernel) : DE X W (.Constant (.str x) j pos) (dC (.str x)) := de_c pe_str fun _ _ => .str x h
theorem de_raw {v : V} (h : PE X e (tC v)) : DE X W e (dRaw v) := de_pe h fun s σ η μ Q q E S hq l _ => l _ _ _ _ hq (Ext.refl _ _) S.rep rfl trivial
/-- a module's constant that is data of the written part -/
theorem de_gd {v : V} {d : PyData} (h : PE X e (tC v)) (r : ∀ F : Hp, DR X.K F v d) : DE X W e (dC d) := de_pe h fun s σ η μ Q q E S hq l _ => l _ _ _ _ hq (Ext.refl _ _) S.rep (r _) trivial

/-! ### made still, made a cell -/
def toDat (μ : Mu) : EV → Option (PyData × Mu)
  | .dat d => some (d, μ)
  | .new xs => some (.list xs, μ)
  | .loc n => match μ[n]? with
    | some (.lst xs) => some (.list xs, μ.set n (.frz xs))
    | some (.frz xs) => some (.list xs, μ)
    | _ => none
  | _ => none
def withDat (μ : Mu) (e : EV) (k : PyData → Mu → Prop) : Prop := match toDat μ e with
  | some (d, μ') => k d μ'
  | none => False
/-- what is still -/
theorem still {K : PySem.W.Frag} {s0 s : Wd} {N0 : Nat} {μ : Mu} {e : EV} {v : V} {k : PyData → Mu → Prop} (R : Rep K s μ) (x : Ext s0 N0 s μ.length) (r : VR K s μ.length v e) (f : Frsh s0.H v e) (h : withDat μ e k) :
    ∃ d μ' F', k d μ' ∧ μ'.length = μ.length ∧ Rep K { s with F := F' } μ' ∧ Ext s0 N0 { s with F := F' } μ'.length ∧ DR K F' v d := by
  unfold withDat toDat at h
  cases e with
  | dat d => exact ⟨d, μ, s.F, h, rfl, R, x, r⟩
  | new xs =>
    obtain ⟨p, vs, rfl, h1, h2, h3, h4⟩ := r
    obtain ⟨a1, a2, a3⟩ := still_new R x h1 h2 h3 h4 (f p rfl)
    exact ⟨_, μ, _, h, rfl, a1, a2, a3⟩
  | loc n =>
    obtain ⟨hn, rfl⟩ := r
    simp only at h
    cases hc : μ[n]? with
    | none => rw [hc] at h; exact h.elim
    | some c =>
      rw [hc] at h
      cases c with
      | lst xs =>
        obtain ⟨F', a1, a2, a3⟩ := still_cell R x hc
        exact ⟨_, _, F', h, by simp, a1, a2, a3⟩
      | frz xs =>
        obtain ⟨vs, h1, h2⟩ := R.cell n _ hc
        exact ⟨_, μ, s.F, h, rfl, R, x, .lst h1 h2⟩
      | dct kvs => exact h.elim
      | dck kvs => exact h.elim
      | abs P => exact h.elim
      | dead => exact h.elim
  | raw v => exact h.elim
  | exc y => exact h.elim
  | ro y => exact h.elim
  | newd y => exact h.elim
  | newk y => exact h.elim
def dFrz (t : TDE) : TDE := fun η μ q E => t η μ (fun e μ1 => withDat μ1 e fun d μ2 => q (.dat d) μ2) E
def SemE (K : PySem.W.Frag) (W : WX) (t : TE) (td : TDE) : Prop := ∀ (s : Wd) (σ : L2.St) (η : DEnv) (μ : Mu) (Q : VK) (q : PQ) (E : XQ), Sit K s μ σ η → td η μ q E → LE K s μ.length q Q → LX K s μ.length σ E W → t σ s.H Q
theorem sem_frz {K : PySem.W.Frag} {t : TE} {td : TDE} (g : SemE K W t td) : SemE K W t (dFrz td) := fun s σ η μ Q q E S hq l lx => g s σ η μ Q _ E S hq (fun e μ' v s' hk x R r f => by
  obtain ⟨d, μ2, F', k, _, R2, x2, r2⟩ := still R x r f hk
  exact l (.dat d) μ2 v { s' with F := F' } k x2 R2 r2 trivial) lx
theorem de_frz (h : DE X W e te) : DE X W e (dFrz te) := by
  obtain ⟨t, hp, g⟩ := h.ex
  exact de_pe hp (sem_frz g)
def cellK (q : PQ) : PQ := fun e μ1 => match e with
  | .new xs => q (.loc μ1.length) (μ1 ++ [.lst xs])
  | .newd xs => q (.loc μ1.length) (μ1 ++ [.dct xs])
  | .newk xs => q (.loc μ1.length) (μ1 ++ [.dck xs])
  | e => q e μ1
def dCell (t : TDE) : TDE := fun η μ q E => t η μ (cellK q) E
theorem sem_cell {K : PySem.W.Frag} {t : TE} {td : TDE} (g : SemE K W t td) : SemE K W t (dCell td) := fun s σ η μ Q q E S hq l lx => g s σ η μ Q _ E S hq (fun e μ' v s' hk x R r f => by
  cases e with
  | new xs =>
    obtain ⟨p, vs, rfl, h1, h2, h3, h4⟩ := r
    obtain ⟨a1, a2⟩ := cell_new R x h1 h2 h3 h4 (f p rfl)
    refine l (.loc μ'.length) _ _ { s' with L := fun n => if n = μ'.length then p else s'.L n } hk a2 a1 ⟨by simp, ?_⟩ trivial
    show V.ref p = V.ref (if μ'.length = μ'.length then p else _)
    rw [if_pos rfl]
  | newd xs =>
    obtain ⟨p, ks, rfl, h1, h2, h3, h4, h5⟩ := r
    obtain ⟨a1, a2⟩ := cell_newC (c := .dct xs) R x ⟨h2, ks, h1, h4, h5⟩ h3 (f p rfl)
    refine l (.loc μ'.length) _ _ { s' with L := fun n => if n = μ'.length then p else s'.L n } hk a2 a1 ⟨by simp, ?_⟩ trivial
    show V.ref p = V.ref (if μ'.length = μ'.length then p else _)
    rw [if_pos rfl]
  | newk xs =>
    obtain ⟨p, ks, rfl, h1, h2, h3, h4, h5⟩ := r
    obtain ⟨a1, a2⟩ := cell_newC (c := .dck xs) R x ⟨h2, ks, h1, h4, h5⟩ h3 (f p rfl)
    refine l (.loc μ'.length) _ _ { s' with L := fun n => if n = μ'.length then p else s'.L n } hk a2 a1 ⟨by simp, ?_⟩ trivial
    show V.ref p = V.ref (if μ'.length = μ'.length then p else _)
    rw [if_pos rfl]
  | dat d => exact l _ _ _ _ hk x R r f
  | loc d => exact l _ _ _ _ hk x R r f
  | raw d => exact l _ _ _ _ hk x R r f
  | exc d => exact l _ _ _ _ hk x R r f
  | ro d => exact l _ _ _ _ hk x R r f) lx
theorem de_cell (h : DE X W e te) : DE X W e (dCell te) := by
  obtain ⟨t, hp, g⟩ := h.ex
  exact de_pe hp (sem_cell g)

/-! ### rows of expressions -/
def aNil : TDA := fun _ μ q _ => q [] μ
def aCons (t : TDE) (u : TDA) : TDA := fun η μ q E => t η μ (fun e μ1 => u η μ1 (fun es μ2 => q (e :: es) μ2) E) E
theorem da_nil : DA X W [] aNil := ⟨_, pa_nil, fun s σ η μ Q q E S hq l _ => l [] μ [] s hq (Ext.refl _ _) S.rep .nil⟩
theorem da_cons {es : List Expr} {u : TDA} (h : DE X W e te) (hr : DA X W es u) (hs : starEach (e :: es) X.env = (false, eval e X.env) :: starEach es X.env := by rfl) : DA X W (e :: es) (aCons te u) := by
  obtain ⟨t1, p1, g1⟩ := h.ex
  obtain ⟨t2, p2, g2⟩ := hr.ex
  refine ⟨_, pa_cons p1 p2 hs, fun s σ η μ Q q E S hq l lx => ?_⟩
  refine g1 s σ η μ _ _ E S hq (fun ev μ1 v s1 hq1 x1 R1 r1 f1 => ?_) lx
  refine g2 s1 σ η μ1 _ _ E (S.go x1 R1) hq1 (fun es' μ2 vs s2 hq2 x2 R2 r2 => ?_) (lx.go x1 R1)
  have h1 := fun n (hn : n < μ1.length) => R1.here hn
  exact l _ _ _ _ hq2 (x1.trans x2 h1) R2 (.cons (r1.ext x2) f1 (r2.back x1 h1))
/-- the data of a row -/
def datsOf : List EV → Option (List PyData)
  | [] => some []
  | .dat d :: es => (datsOf es).map (d :: ·)
  | _ :: _ => none
theorem datsOf_rs {K : PySem.W.Frag} {s : Wd} {N : Nat} {H0 : Hp} : ∀ {vs : List V} {es : List EV} {ds : List PyData}, VRs K s N H0 vs es → datsOf es = some ds → DRs K s.F vs ds
  | _, _, _, .nil, h => by cases h; exact .nil
  | _, _, _, .cons (e := e) r _ rs, h => by
    cases e with
    | dat d =>
      unfold datsOf at h
      rename_i vs es _
      cases q : datsOf es with
      | none => rw [q] at h; cases h
      | some ds' =>
        rw [q] at h
        cases h
        exact .cons r (datsOf_rs rs q)
    | _ => cases h
def withDats (es : List EV) (k : List PyData → Prop) : Prop := match datsOf es with
  | some ds => k ds
  | none => False
theorem withDats_ex {es : List EV} {k : List PyData → Prop} (h : withDats es k) : ∃ ds, datsOf es = some ds ∧ k ds := by
  unfold withDats at h
  split at h
  · exact ⟨_, by assumption, h⟩
  · exact h.elim
/-- a new object stands beside -/
theorem Rep.put {K : PySem.W.Frag} {s : Wd} {μ : Mu} {p : Addr} {o : HO} (R : Rep K s μ) (hp : s.H p = none) : Rep K { s with H := upd s.H p o } μ := by
  have k : Same s.H (upd s.H p o) := fun a u q => by rw [upd_ne (ne_of_none q hp)]; exact q
  refine ⟨fun a u q => k a u (R.sub a u q), fun n c q => ?_, R.inj⟩
  have := R.cell n c q
  cases c with
  | lst xs => obtain ⟨h1, vs, h2, h3⟩ := this; exact ⟨h1, vs, k _ _ h2, h3⟩
  | frz xs => exact this
  | dct kvs =>
    obtain ⟨h1, ks, h2, h3, h4⟩ := this
    exact ⟨h1, ks, k _ _ h2, h3, h4⟩
  | dck kvs =>
    obtain ⟨h1, ks, h2, h3, h4⟩ := this
    exact ⟨h1, ks, k _ _ h2, h3, h4⟩
  | abs P => obtain ⟨xs, hP, h1, vs, h2, h3⟩ := this; exact ⟨xs, hP, h1, vs, k _ _ h2, h3⟩
  | dead =>
    intro z
    have z' : upd s.H p o (s.L n) = none := z
    cases e : s.H (s.L n) with
    | none => exact this e
    | some u => rw [k _ _ e] at z'; cases z'
theorem Rep.notF {K : PySem.W.Frag} {s : Wd} {μ : Mu} {p : Addr} (R : Rep K s μ) (hp : s.H p = none) : s.F p = none := by
  cases e : s.F p with
  | none => rfl
  | some o => rw [R.sub p o e] at hp; cases hp
theorem Rep.notL {K : PySem.W.Frag} {s : Wd} {μ : Mu} {p : Addr} (R : Rep K s μ) (hp : s.H p = none) : ∀ m, m < μ.length → s.L m ≠ p := fun m hm e => R.here hm (e ▸ hp)
theorem Ext.put {K : PySem.W.Frag} {s0 s : Wd} {N0 : Nat} {μ : Mu} {p : Addr} {o : HO} (x : Ext s0 N0 s μ.length) (R : Rep K s μ) (hp : s.H p = none) : Ext s0 N0 { s with H := upd s.H p o } μ.length :=
  ⟨x.f, x.l, x.le, fun a u q hn => by
    have q' := x.keep a u q hn
    show upd s.H p o a = some u
    rw [upd_ne (ne_of_none q' hp)]
    exact q', x.fnew, x.lnew⟩
/-- fresh now, fresh ahead -/
theorem Ext.fresh {K : PySem.W.Frag} {s0 s : Wd} {N0 : Nat} {μ : Mu} {p : Addr} (x : Ext s0 N0 s μ.length) (R : Rep K s μ) (hp : s.H p = none) : s0.H p = none := by
  have : Frsh s0.H (.ref p) (.new []) := Frsh.back (K := K) x (s1 := s) (v := .ref p) (e := .new []) (fun q hq => by cases hq; exact hp) fun n hn => R.here hn
  exact this p rfl
/-- [a, b, ..]: a list that nobody else has; the items still -/
def dLst (t : TDA) : TDE := fun η μ q E => t η μ (fun es μ1 => withDats es fun ds => ds.length ≤ 100000 ∧ q (.new ds) μ1) E
def dTup (t : TDA) : TDE := fun η μ q E => t η μ (fun es μ1 => withDats es fun ds => ds.length ≤ 100000 ∧ q (.dat (.tuple ds)) μ1) E
theorem line_of {n : Nat} (h : n ≤ 100000) : n ≤ sizeLine := Nat.le_trans h (by decide)
theorem de_lst {es : List Expr} {t : TDA} (h : DA X W es t) : DE X W (.List es pos) (dLst t) := by
  obtain ⟨t1, p1, g1⟩ := h.ex
  refine de_pe (pe_lst p1) fun s σ η μ Q q E S hq l lx => ?_
  refine g1 s σ η μ _ _ E S hq (fun es' μ1 vs s1 hq1 x1 R1 r1 => ?_) lx
  obtain ⟨ds, e1, hz, hq1⟩ := withDats_ex hq1
  have d := datsOf_rs r1 e1
  refine ⟨line_of (by rw [d.length]; exact hz), fun p hp => ?_⟩
  exact l (.new ds) μ1 (.ref p) { s1 with H := upd s1.H p (.lst vs) } hq1 (x1.put R1 hp) (R1.put hp) ⟨p, vs, rfl, upd_same, R1.notF hp, R1.notL hp, d⟩ (fun y hy => by cases hy; exact x1.fresh R1 hp)
/-- a new still object -/
theorem Rep.putF {K : PySem.W.Frag} {s : Wd} {μ : Mu} {p : Addr} {o : HO} (R : Rep K s μ) (hp : s.H p = none) : Rep K { s with H := upd s.H p o, F := upd s.F p o } μ := by
  have k : Same s.H (upd s.H p o) := fun a u q => by rw [upd_ne (ne_of_none q hp)]; exact q
  have kF : Same s.F (upd s.F p o) := fun a u q => by rw [upd_ne (ne_of_none q (R.notF hp))]; exact q
  refine ⟨fun a u q => ?_, fun n c q => ?_, R.inj⟩
  · have q' : upd s.F p o a = some u := q
    show upd s.H p o a = some u
    by_cases ha : a = p
    · subst ha
      rw [upd_same] at q' ⊢
      exact q'
    · rw [upd_ne ha] at q' ⊢
      exact R.sub a u q'
  · have hn := (List.getElem?_eq_some_iff.mp q).1
    have ne := R.notL hp n hn
    have := R.cell n c q
    cases c with
    | lst xs => obtain ⟨h1, vs, h2, h3⟩ := this; exact ⟨(upd_ne ne).trans h1, vs, k _ _ h2, h3.mono kF⟩
    | frz xs => obtain ⟨vs, h2, h3⟩ := this; exact ⟨vs, kF _ _ h2, h3.mono kF⟩
    | dct kvs =>
      obtain ⟨h1, ks, h2, h3, h4⟩ := this
      exact ⟨(upd_ne ne).trans h1, ks, k _ _ h2, h3, h4.mono kF⟩
    | dck kvs =>
      obtain ⟨h1, ks, h2, h3, h4⟩ := this
      exact ⟨(upd_ne ne).trans h1, ks, k _ _ h2, h3, h4.mono kF⟩
    | abs P => obtain ⟨xs, hP, h1, vs, h2, h3⟩ := this; exact ⟨xs, hP, (upd_ne ne).trans h1, vs, k _ _ h2, h3.mono kF⟩
    | dead =>
      intro z
      have z' : upd s.H p o (s.L n) = none := z
      cases e : s.H (s.L n) with
      | none => exact this e
      | some u => rw [k _ _ e] at z'; cases z'
theorem Ext.putF {K : PySem.W.Frag} {s0 s : Wd} {N0 : Nat} {μ : Mu} {p : Addr} {o : HO} (x : Ext s0 N0 s μ.length) (R : Rep K s μ) (hp : s.H p = none) : Ext s0 N0 { s with H := upd s.H p o, F := upd s.F p o } μ.length := by
  have kF : Same s.F (upd s.F p o) := fun a u q => by rw [upd_ne (ne_of_none q (R.notF hp))]; exact q
  have h0 := x.fresh R hp
  refine ⟨fun a u q => kF a u (x.f a u q), x.l, x.le, fun a u q hn => ?_, fun a h1 h2 h3 h4 => ?_, x.lnew⟩
  · have q' := x.keep a u q hn
    show upd s.H p o a = some u
    rw [upd_ne (ne_of_none q' hp)]
    exact q'
  · show upd s.F p o a = none
    rw [upd_ne (fun z => h3 (by rw [z]; exact h0))]
    exact x.fnew a h1 h2 h3 h4
theorem de_tup {es : List Expr} {x1} {t : TDA} (h : DA X W es t) : DE X W (.Tuple es x1 pos) (dTup t) := by
  obtain ⟨t1, p1, g1⟩ := h.ex
  refine de_pe (pe_tup p1) fun s σ η μ Q q E S hq l lx => ?_
  refine g1 s σ η μ _ _ E S hq (fun es' μ1 vs s1 hq1 x1 R1 r1 => ?_) lx
  obtain ⟨ds, e1, hz, hq1⟩ := withDats_ex hq1
  have d := datsOf_rs r1 e1
  refine ⟨line_of (by rw [d.length]; exact hz), fun p hp => ?_⟩
  have kF : Same s1.F (upd s1.F p (.tup vs)) := fun a u q => by rw [upd_ne (ne_of_none q (R1.notF hp))]; exact q
  exact l (.dat (.tuple ds)) μ1 (.ref p) _ hq1 (x1.putF R1 hp) (R1.putF hp) (.tup upd_same (d.mono kF)) trivial
end
end DL

set_option Elab.async false
set_option linter.all false
set_option maxRecDepth 100000
set_option maxHeartbeats 4000000
namespace DL
open PySem L2
section
variable {X : Cx} {W : WX} {e a b c : Expr} {ta tb te : TDE} {pos : Pos} {rest : List Expr} {tA tB' : TDT}

/-! ### tests -/
def withB (e : EV) (k : Bool → Prop) : Prop := match e with
  | .dat (.bool b) => k b
  | _ => False
theorem withB_ex {e : EV} {k : Bool → Prop} (h : withB e k) : ∃ b, e = .dat (.bool b) ∧ k b := by
  unfold withB at h
  split at h
  · exact ⟨_, rfl, h⟩
  · exact h.elim
theorem vr_b {K : PySem.W.Frag} {s : Wd} {N : Nat} {v : V} {b : Bool} (r : VR K s N v (.dat (.bool b))) : v = .bl b := by
  have r' : DR K s.F v (.bool b) := r
  cases r'
  rfl
theorem vr_i {K : PySem.W.Frag} {s : Wd} {N : Nat} {v : V} {b : Int} (r : VR K s N v (.dat (.int b))) : v = .int b := by
  have r' : DR K s.F v (.int b) := r
  cases r'
  rfl
theorem vr_s {K : PySem.W.Frag} {s : Wd} {N : Nat} {v : V} {b : Str} (r : VR K s N v (.dat (.str b))) : v = .str b := by
  have r' : DR K s.F v (.str b) := r
  cases r'
  rfl
theorem vr_n {K : PySem.W.Frag} {s : Wd} {N : Nat} {v : V} (r : VR K s N v (.dat .none)) : v = .non := by
  have r' : DR K s.F v .none := r
  cases r'
  rfl
def tVal (t : TDE) : TDT := fun η μ q E => t η μ (fun e μ1 => withB e fun b => q b μ1) E
theorem dt_val (h : DE X W e te) (he : ∀ whole, isTrue e X.env whole = (do let v ← whole; standAt e.pos; holding [v] (truthy v)) := by intro _; rfl) : DT X W e (tVal te) := by
  obtain ⟨t, p, g⟩ := h.ex
  refine ⟨_, pt_val p he, fun s σ η μ Q q E S hq l lx => g s σ η μ _ _ E S hq (fun ev μ' v s' hk x R r f => ?_) lx⟩
  obtain ⟨b, rfl, hk⟩ := withB_ex hk
  exact ⟨b, vr_b r, l b μ' s' hk x R⟩
def tAndD (t u : TDT) : TDT := fun η μ q E => t η μ (fun b μ1 => if b = true then u η μ1 q E else q false μ1) E
def tOrD (t u : TDT) : TDT := fun η μ q E => t η μ (fun b μ1 => if b = true then q true μ1 else u η μ1 q E) E
def tNotD (t : TDT) : TDT := fun η μ q E => t η μ (fun b μ1 => q (!b) μ1) E
theorem dw_and1 (ha : DT X W a tA) : DW X W (.BoolOp .And [a] pos) tA := by
  obtain ⟨t, p, g⟩ := ha.ex
  exact ⟨t, pw_and1 p, g⟩
theorem dw_or1 (ha : DT X W a tA) : DW X W (.BoolOp .Or [a] pos) tA := by
  obtain ⟨t, p, g⟩ := ha.ex
  exact ⟨t, pw_or1 p, g⟩
theorem dw_and (ha : DT X W a tA) (hb : DW X W (.BoolOp .And (b :: rest) pos) tB') : DW X W (.BoolOp .And (a :: b :: rest) pos) (tAndD tA tB') := by
  obtain ⟨t, p, g⟩ := ha.ex
  obtain ⟨u, p2, g2⟩ := hb.ex
  refine ⟨_, pw_and p p2, fun s σ η μ Q q E S hq l lx => g s σ η μ _ _ E S hq (fun k μ' s' hk x R => ?_) lx⟩
  cases k with
  | true => exact g2 s' σ η μ' Q q E (S.go x R) hk (l.go x R) (lx.go x R)
  | false => exact l false μ' s' hk x R
theorem dw_or (ha : DT X W a tA) (hb : DW X W (.BoolOp .Or (b :: rest) pos) tB') : DW X W (.BoolOp .Or (a :: b :: rest) pos) (tOrD tA tB') := by
  obtain ⟨t, p, g⟩ := ha.ex
  obtain ⟨u, p2, g2⟩ := hb.ex
  refine ⟨_, pw_or p p2, fun s σ η μ Q q E S hq l lx => g s σ η μ _ _ E S hq (fun k μ' s' hk x R => ?_) lx⟩
  cases k with
  | true => exact l true μ' s' hk x R
  | false => exact g2 s' σ η μ' Q q E (S.go x R) hk (l.go x R) (lx.go x R)
theorem DW.dt (h : DW X W e tA) : DT X W e tA := by
  obtain ⟨t, p, g⟩ := h.ex
  exact ⟨t, p.pt, g⟩
theorem dt_not (ha : DT X W a tA) : DT X W (.UnaryOp .Not a pos) (tNotD tA) := by
  obtain ⟨t, p, g⟩ := ha.ex
  exact ⟨_, pt_not p, fun s σ η μ Q q E S hq l lx => g s σ η μ _ _ E S hq (fun k μ' s' hk x R => l (!k) μ' s' hk x R) lx⟩
/-! .. as values -/
def dAndV (t u : TDE) : TDE := fun η μ q E => t η μ (fun e μ1 => withB e fun b => if b = true then u η μ1 q E else q (.dat (.bool false)) μ1) E
def dOrV (t u : TDE) : TDE := fun η μ q E => t η μ (fun e μ1 => withB e fun b => if b = true then q (.dat (.bool true)) μ1 else u η μ1 q E) E
def dNotV (t : TDE) : TDE := fun η μ q E => t η μ (fun e μ1 => withB e fun b => q (.dat (.bool (!b))) μ1) E
theorem de_one {op} (h : DE X W a te) : DE X W (.BoolOp op [a] pos) te := by
  obtain ⟨t, p, g⟩ := h.ex
  exact ⟨t, pe_one p, g⟩
theorem de_and (ha : DE X W a ta) (hb : DE X W (.BoolOp .And (b :: rest) pos) tb) : DE X W (.BoolOp .And (a :: b :: rest) pos) (dAndV ta tb) := by
  obtain ⟨t, p, g⟩ := ha.ex
  obtain ⟨u, p2, g2⟩ := hb.ex
  refine de_pe (pe_and p p2) fun s σ η μ Q q E S hq l lx => g s σ η μ _ _ E S hq (fun ev μ' v s' hk x R r f => ?_) lx
  obtain ⟨k, rfl, hk⟩ := withB_ex hk
  refine ⟨k, vr_b r, ?_⟩
  cases k with
  | true => exact g2 s' σ η μ' Q q E (S.go x R) hk (l.go x R) (lx.go x R)
  | false => exact l _ μ' _ s' hk x R (.bl false) trivial
theorem de_or (ha : DE X W a ta) (hb : DE X W (.BoolOp .Or (b :: rest) pos) tb) : DE X W (.BoolOp .Or (a :: b :: rest) pos) (dOrV ta tb) := by
  obtain ⟨t, p, g⟩ := ha.ex
  obtain ⟨u, p2, g2⟩ := hb.ex
  refine de_pe (pe_or p p2) fun s σ η μ Q q E S hq l lx => g s σ η μ _ _ E S hq (fun ev μ' v s' hk x R r f => ?_) lx
  obtain ⟨k, rfl, hk⟩ := withB_ex hk
  refine ⟨k, vr_b r, ?_⟩
  cases k with
  | true => exact l _ μ' _ s' hk x R (.bl true) trivial
  | false => exact g2 s' σ η μ' Q q E (S.go x R) hk (l.go x R) (lx.go x R)
theorem de_not (ha : DE X W a ta) : DE X W (.UnaryOp .Not a pos) (dNotV ta) := by
  obtain ⟨t, p, g⟩ := ha.ex
  refine de_pe (pe_not p) fun s σ η μ Q q E S hq l lx => g s σ η μ _ _ E S hq (fun ev μ' v s' hk x R r f => ?_) lx
  obtain ⟨k, rfl, hk⟩ := withB_ex hk
  exact ⟨k, vr_b r, l _ μ' _ s' hk x R (.bl _) trivial⟩
def dIfE (t : TDT) (ta tb : TDE) : TDE := fun η μ q E => t η μ (fun b μ1 => if b = true then ta η μ1 q E else tb η μ1 q E) E
theorem de_ifExp (hc : DT X W c tA) (ha : DE X W a ta) (hb : DE X W b tb) : DE X W (.IfExp c a b pos) (dIfE tA ta tb) := by
  obtain ⟨t, p, g⟩ := hc.ex
  obtain ⟨t1, p1, g1⟩ := ha.ex
  obtain ⟨t2, p2, g2⟩ := hb.ex
  refine de_pe (pe_ifExp p p1 p2) fun s σ η μ Q q E S hq l lx => g s σ η μ _ _ E S hq (fun k μ' s' hk x R => ?_) lx
  cases k with
  | true => exact g1 s' σ η μ' Q q E (S.go x R) hk (l.go x R) (lx.go x R)
  | false => exact g2 s' σ η μ' Q q E (S.go x R) hk (l.go x R) (lx.go x R)

/-! ### operators, by values -/
abbrev OD := EV → EV → Mu → PQ → Prop
def OpS (K : PySem.W.Frag) (r : R2) (o : OD) : Prop := ∀ (s0 : Wd) (N0 : Nat) (s : Wd) (μ : Mu) (x y : V) (ex ey : EV) (q : PQ) (Q : VK), Rep K s μ → Ext s0 N0 s μ.length → VR K s μ.length x ex → Frsh s0.H x ex → VR K s μ.length y ey → Frsh s0.H y ey →
  o ex ey μ q → LE K s0 N0 q Q → r x y s.H Q
def dOp (o : OD) (ta tb : TDE) : TDE := fun η μ q E => ta η μ (fun x μ1 => tb η μ1 (fun y μ2 => o x y μ2 q) E) E
theorem de_op {op : Operator} {r : R2} {o : OD} (ho : OpR X (binaryOp op) r) (hs : OpS X.K r o) (ha : DE X W a ta) (hb : DE X W b tb) : DE X W (.BinOp a op b pos) (dOp o ta tb) := by
  obtain ⟨t1, p1, g1⟩ := ha.ex
  obtain ⟨t2, p2, g2⟩ := hb.ex
  refine de_pe (pe_op ho p1 p2) fun s σ η μ Q q E S hq l lx => g1 s σ η μ _ _ E S hq (fun ex μ1 x s1 hk1 x1 R1 r1 f1 => ?_) lx
  refine g2 s1 σ η μ1 _ _ E (S.go x1 R1) hk1 (fun ey μ2 y s2 hk2 x2 R2 r2 f2 => ?_) (lx.go x1 R1)
  have h1 := fun n (hn : n < μ1.length) => R1.here hn
  exact hs s _ s2 μ2 x y ex ey q Q R2 (x1.trans x2 h1) (r1.ext x2) f1 r2 (f2.back (K := X.K) x1 h1) hk2 l
theorem de_cmp {op : CmpOp} {r : R2} {o : OD} (ho : OpR X (compareOp op) r) (hs : OpS X.K r o) (ha : DE X W a ta) (hb : DE X W b tb) (hm : behindInMarks op b = false) : DE X W (.Compare a [op] [b] pos) (dOp o ta tb) := by
  obtain ⟨t1, p1, g1⟩ := ha.ex
  obtain ⟨t2, p2, g2⟩ := hb.ex
  refine de_pe (pe_cmpR ho p1 p2 hm) fun s σ η μ Q q E S hq l lx => g1 s σ η μ _ _ E S hq (fun ex μ1 x s1 hk1 x1 R1 r1 f1 => ?_) lx
  refine g2 s1 σ η μ1 _ _ E (S.go x1 R1) hk1 (fun ey μ2 y s2 hk2 x2 R2 r2 f2 => ?_) (lx.go x1 R1)
  have h1 := fun n (hn : n < μ1.length) => R1.here hn
  exact hs s _ s2 μ2 x y ex ey q Q R2 (x1.trans x2 h1) (r1.ext x2) f1 r2 (f2.back (K := X.K) x1 h1) hk2 l
theorem dt_cmp {op : CmpOp} {r : R2} {o : OD} (ho : OpR X (compareOp op) r) (hs : OpS X.K r o) (ha : DE X W a ta) (hb : DE X W b tb) (hm : behindInMarks op b = false) : DT X W (.Compare a [op] [b] pos) (tVal (dOp o ta tb)) := by
  obtain ⟨t1, p1, g1⟩ := ha.ex
  obtain ⟨t2, p2, g2⟩ := hb.ex
  refine ⟨_, pt_cmpR ho p1 p2 hm, fun s σ η μ Q q E S hq l lx => g1 s σ η μ _ _ E S hq (fun ex μ1 x s1 hk1 x1 R1 r1 f1 => ?_) lx⟩
  refine g2 s1 σ η μ1 _ _ E (S.go x1 R1) hk1 (fun ey μ2 y s2 hk2 x2 R2 r2 f2 => ?_) (lx.go x1 R1)
  have h1 := fun n (hn : n < μ1.length) => R1.here hn
  refine hs s _ s2 μ2 x y ex ey _ _ R2 (x1.trans x2 h1) (r1.ext x2) f1 r2 (f2.back (K := X.K) x1 h1) hk2 fun ev μ' v s' hk x' R r f => ?_
  obtain ⟨k, rfl, hk⟩ := withB_ex hk
  exact ⟨k, vr_b r, l k μ' s' hk x' R⟩
def noNew : EV → Bool
  | .new _ => false
  | .newd _ => false
  | .newk _ => false
  | _ => true
theorem frsh_of {H : Hp} {v : V} {e : EV} (h : noNew e = true) : Frsh H v e := by
  cases e with
  | new _ => cases h
  | newd _ => cases h
  | newk _ => cases h
  | _ => trivial
/-- a < b < c -/
def dChain (o o' : OD) (ta tb tc : TDE) : TDE := fun η μ q E => ta η μ (fun x μ1 => tb η μ1 (fun y μ2 => noNew x = true ∧ noNew y = true ∧ o x y μ2 fun z μ3 => withB z fun k => if k = true then tc η μ3 (fun w μ4 => o' y w μ4 q) E else q (.dat (.bool false)) μ3) E) E
theorem chain_ok {r r' : R2} {o o' : OD} {tc : TDE} {t1 t2 t3 : TE} (hs : OpS X.K r o) (hs' : OpS X.K r' o')
    (g1 : ∀ (s : Wd) (σ : L2.St) (η : DEnv) (μ : Mu) (Q : VK) (q : PQ) (E : XQ), Sit X.K s μ σ η → ta η μ q E → LE X.K s μ.length q Q → LX X.K s μ.length σ E W → t1 σ s.H Q)
    (g2 : ∀ (s : Wd) (σ : L2.St) (η : DEnv) (μ : Mu) (Q : VK) (q : PQ) (E : XQ), Sit X.K s μ σ η → tb η μ q E → LE X.K s μ.length q Q → LX X.K s μ.length σ E W → t2 σ s.H Q)
    (g3 : ∀ (s : Wd) (σ : L2.St) (η : DEnv) (μ : Mu) (Q : VK) (q : PQ) (E : XQ), Sit X.K s μ σ η → tc η μ q E → LE X.K s μ.length q Q → LX X.K s μ.length σ E W → t3 σ s.H Q)
    (s : Wd) (σ : L2.St) (η : DEnv) (μ : Mu) (Q : VK) (q : PQ) (E : XQ) (S : Sit X.K s μ σ η) (hq : dChain o o' ta tb tc η μ q E) (l : LE X.K s μ.length q Q) (lx : LX X.K s μ.length σ E W) : tChain r r' t1 t2 t3 σ s.H Q := by
  refine g1 s σ η μ _ _ E S hq (fun ex μ1 x s1 hk1 x1 R1 r1 f1 => ?_) lx
  refine g2 s1 σ η μ1 _ _ E (S.go x1 R1) hk1 (fun ey μ2 y s2 hk2 x2 R2 r2 f2 => ?_) (lx.go x1 R1)
  obtain ⟨nx, ny, hk2⟩ := hk2
  have h1 := fun n (hn : n < μ1.length) => R1.here hn
  have x12 := x1.trans x2 h1
  refine hs s2 _ s2 μ2 x y ex ey _ _ R2 (Ext.refl _ _) (r1.ext x2) (frsh_of nx) r2 (frsh_of ny) hk2 fun ez μ3 z s3 hk3 x3 R3 r3 f3 => ?_
  obtain ⟨k, rfl, hk3⟩ := withB_ex hk3
  refine ⟨k, vr_b r3, ?_⟩
  have h2 := fun n (hn : n < μ2.length) => R2.here hn
  have x13 := x12.trans x3 h2
  cases k with
  | false => exact l _ μ3 _ s3 hk3 x13 R3 (.bl false) trivial
  | true =>
    refine g3 s3 σ η μ3 _ _ E (S.go x13 R3) hk3 (fun ew μ4 w s4 hk4 x4 R4 r4 f4 => ?_) (lx.go x13 R3)
    exact hs' s3 _ s4 μ4 y w ey ew q Q R4 x4 ((r2.ext x3).ext x4) (frsh_of ny) r4 f4 hk4 (l.go x13 R3)
theorem de_chain {op op' : CmpOp} {r r' : R2} {o o' : OD} {tc : TDE} (ho : OpR X (compareOp op) r) (hs : OpS X.K r o) (ho' : OpR X (compareOp op') r') (hs' : OpS X.K r' o') (ha : DE X W a ta) (hb : DE X W b tb) (hc : DE X W c tc)
    (hm : lastMarks [op, op'] [b, c] = false := by with_unfolding_all rfl) : DE X W (.Compare a [op, op'] [b, c] pos) (dChain o o' ta tb tc) := by
  obtain ⟨t1, p1, g1⟩ := ha.ex
  obtain ⟨t2, p2, g2⟩ := hb.ex
  obtain ⟨t3, p3, g3⟩ := hc.ex
  exact de_pe (pe_chain ho ho' p1 p2 p3 hm) (chain_ok hs hs' g1 g2 g3)
theorem dt_chain {op op' : CmpOp} {r r' : R2} {o o' : OD} {tc : TDE} (ho : OpR X (compareOp op) r) (hs : OpS X.K r o) (ho' : OpR X (compareOp op') r') (hs' : OpS X.K r' o') (ha : DE X W a ta) (hb : DE X W b tb) (hc : DE X W c tc)
    (hm : lastMarks [op, op'] [b, c] = false := by with_unfolding_all rfl) : DT X W (.Compare a [op, op'] [b, c] pos) (tVal (dChain o o' ta tb tc)) := by
  obtain ⟨t1, p1, g1⟩ := ha.ex
  obtain ⟨t2, p2, g2⟩ := hb.ex
  obtain ⟨t3, p3, g3⟩ := hc.ex
  refine ⟨_, pt_chain ho ho' p1 p2 p3 hm, fun s σ η μ Q q E S hq l lx => ?_⟩
  refine chain_ok hs hs' g1 g2 g3 s σ η μ _ _ E S hq (fun ev μ' v s' hk x R r f => ?_) lx
  obtain ⟨k, rfl, hk⟩ := withB_ex hk
  exact ⟨k, vr_b r, l k μ' s' hk x R⟩

/-! ### one-place operators, built-in calls by values -/
abbrev UD := EV → Mu → PQ → Prop
def UnS (K : PySem.W.Frag) (r : V → Hp → VK → Prop) (o : UD) : Prop := ∀ (s0 : Wd) (N0 : Nat) (s : Wd) (μ : Mu) (x : V) (ex : EV) (q : PQ) (Q : VK), Rep K s μ → Ext s0 N0 s μ.length → VR K s μ.length x ex → Frsh s0.H x ex → o ex μ q → LE K s0 N0 q Q → r x s.H Q
def dUn (o : UD) (ta : TDE) : TDE := fun η μ q E => ta η μ (fun x μ1 => o x μ1 q) E
theorem de_un {op : UnaryOp} {r : V → Hp → VK → Prop} {o : UD} (ho : UnR X (unaryOp op) r) (hs : UnS X.K r o) (ha : DE X W a ta) : DE X W (.UnaryOp op a pos) (dUn o ta) := by
  obtain ⟨t1, p1, g1⟩ := ha.ex
  exact de_pe (pe_un ho p1) fun s σ η μ Q q E S hq l lx => g1 s σ η μ _ _ E S hq (fun ex μ1 x s1 hk1 x1 R1 r1 f1 => hs s _ s1 μ1 x ex q Q R1 x1 r1 f1 hk1 l) lx
abbrev CD := List EV → Mu → PQ → Prop
def CallS (K : PySem.W.Frag) (r : List V → Hp → VK → Prop) (o : CD) : Prop := ∀ (s0 : Wd) (N0 : Nat) (s : Wd) (μ : Mu) (xs : List V) (es : List EV) (q : PQ) (Q : VK), Rep K s μ → Ext s0 N0 s μ.length → VRs K s μ.length s0.H xs es → o es μ q → LE K s0 N0 q Q → r xs s.H Q
def dCB (o : CD) (t : TDA) : TDE := fun η μ q E => t η μ (fun es μ1 => o es μ1 q) E
theorem de_callB {id : String} {x : Str} {p : Pos} {es : List Expr} {t : TDA} {r : List V → Hp → VK → Prop} {o : CD} (hc : CallR X (.builtin id) r) (hs : CallS X.K r o) (hg : Gl X x) (hm : X.mg x = none) (hv : bootBuiltins x = some (.builtin id)) (ha : DA X W (e :: es) t) (hn : x ≠ "__name__" := by decide) (hdb : (x == ("__debug__" : Str)) = false := by decide)
    (he : starEach (e :: es) X.env = (false, eval e X.env) :: starEach es X.env := by rfl) (hpl : (backTo pos (starEach es X.env)).any (·.1) = false := by rfl) : DE X W (.Call (.Name x p) (e :: es) [] pos) (dCB o t) := by
  obtain ⟨t1, p1, g1⟩ := ha.ex
  exact de_pe (pe_callB hc hg hm hv p1 hn hdb he hpl) fun s σ η μ Q q E S hq l lx => g1 s σ η μ _ _ E S hq (fun ex μ1 x s1 hk1 x1 R1 r1 => hs s _ s1 μ1 x ex q Q R1 x1 r1 hk1 l) lx
theorem de_callTy {T : String} {x : Str} {p : Pos} {es : List Expr} {t : TDA} {r : List V → Hp → VK → Prop} {o : CD} (hc : CallR X (.type T) r) (hs : CallS X.K r o) (hg : Gl X x) (hm : X.mg x = none) (hv : bootBuiltins x = some (.type T)) (ha : DA X W (e :: es) t) (hn : x ≠ "__name__" := by decide) (hdb : (x == ("__debug__" : Str)) = false := by decide)
    (he : starEach (e :: es) X.env = (false, eval e X.env) :: starEach es X.env := by rfl) (hpl : (backTo pos (starEach es X.env)).any (·.1) = false := by rfl) : DE X W (.Call (.Name x p) (e :: es) [] pos) (dCB o t) := by
  obtain ⟨t1, p1, g1⟩ := ha.ex
  exact de_pe (pe_callTy hc hg hm hv p1 hn hdb he hpl) fun s σ η μ Q q E S hq l lx => g1 s σ η μ _ _ E S hq (fun ex μ1 x s1 hk1 x1 R1 r1 => hs s _ s1 μ1 x ex q Q R1 x1 r1 hk1 l) lx

/-! ### subscripts, slices, methods of built-in types -/
theorem de_ix {r : R2} {o : OD} (hr : IxR X r) (hs : OpS X.K r o) (ha : DE X W a ta) (hb : DE X W b tb) (hp : PlainIx b) : DE X W (.Subscript a b pos) (dOp o ta tb) := by
  obtain ⟨t1, p1, g1⟩ := ha.ex
  obtain ⟨t2, p2, g2⟩ := hb.ex
  refine de_pe (pe_ix hr p1 p2 hp) fun s σ η μ Q q E S hq l lx => g1 s σ η μ _ _ E S hq (fun ex μ1 x s1 hk1 x1 R1 r1 f1 => ?_) lx
  refine g2 s1 σ η μ1 _ _ E (S.go x1 R1) hk1 (fun ey μ2 y s2 hk2 x2 R2 r2 f2 => ?_) (lx.go x1 R1)
  have h1 := fun n (hn : n < μ1.length) => R1.here hn
  exact hs s _ s2 μ2 x y ex ey q Q R2 (x1.trans x2 h1) (r1.ext x2) f1 r2 (f2.back (K := X.K) x1 h1) hk2 l
abbrev TDO := DEnv → Mu → (Option Int → Mu → Prop) → XQ → Prop
structure DO (X : Cx) (W : WX) (e : Option Expr) (td : TDO) : Prop where
  ex : ∃ t : TO, PO X e t ∧ ∀ (s : Wd) (σ : L2.St) (η : DEnv) (μ : Mu) (Q : Option Int → Hp → Prop) (q : Option Int → Mu → Prop) (E : XQ), Sit X.K s μ σ η → td η μ q E →
    (∀ (o : Option Int) (μ' : Mu) (s' : Wd), q o μ' → Ext s μ.length s' μ'.length → Rep X.K s' μ' → Q o s'.H) → LX X.K s μ.length σ E W → t σ s.H Q
def oNo : TDO := fun _ μ q _ => q none μ
def oSome (t : TDE) : TDO := fun η μ q E => t η μ (fun e μ1 => match e with | .dat (.int i) => q (some i) μ1 | _ => False) E
theorem do_none : DO X W none oNo := ⟨_, po_none, fun s σ η μ Q q E S hq l lx => l none μ s hq (Ext.refl _ _) S.rep⟩
theorem do_some (h : DE X W e te) : DO X W (some e) (oSome te) := by
  obtain ⟨t1, p1, g1⟩ := h.ex
  refine ⟨_, po_some p1, fun s σ η μ Q q E S hq l lx => g1 s σ η μ _ _ E S hq (fun ex μ1 x s1 hk1 x1 R1 r1 f1 => ?_) lx⟩
  split at hk1
  · exact ⟨_, vr_i r1, l _ _ _ hk1 x1 R1⟩
  · exact hk1.elim
abbrev SD := EV → Option Int → Option Int → Mu → PQ → Prop
def SlS (K : PySem.W.Frag) (r : V → Option Int → Option Int → Hp → VK → Prop) (o : SD) : Prop := ∀ (s0 : Wd) (N0 : Nat) (s : Wd) (μ : Mu) (x : V) (ex : EV) (lo hi : Option Int) (q : PQ) (Q : VK), Rep K s μ → Ext s0 N0 s μ.length → VR K s μ.length x ex → Frsh s0.H x ex → o ex lo hi μ q → LE K s0 N0 q Q → r x lo hi s.H Q
def dSl (o : SD) (te : TDE) (tl th : TDO) : TDE := fun η μ q E => te η μ (fun x μ1 => tl η μ1 (fun l μ2 => th η μ2 (fun h μ3 => o x l h μ3 q) E) E) E
theorem de_slice {r : V → Option Int → Option Int → Hp → VK → Prop} {o : SD} {lo hi : Option Expr} {tl th : TDO} {p2 : Pos} (hr : SlR X r) (hs : SlS X.K r o) (ha : DE X W a ta) (hl : DO X W lo tl) (hh : DO X W hi th) : DE X W (.Subscript a (.Slice lo hi none p2) pos) (dSl o ta tl th) := by
  obtain ⟨t1, p1, g1⟩ := ha.ex
  obtain ⟨t2, p2, g2⟩ := hl.ex
  obtain ⟨t3, p3, g3⟩ := hh.ex
  refine de_pe (pe_slice hr p1 p2 p3) fun s σ η μ Q q E S hq l lx => g1 s σ η μ _ _ E S hq (fun ex μ1 x s1 hk1 x1 R1 r1 f1 => ?_) lx
  have h1 := fun n (hn : n < μ1.length) => R1.here hn
  refine g2 s1 σ η μ1 _ _ E (S.go x1 R1) hk1 (fun olo μ2 s2 hk2 x2 R2 => ?_) (lx.go x1 R1)
  have x12 := x1.trans x2 h1
  have h2 := fun n (hn : n < μ2.length) => R2.here hn
  refine g3 s2 σ η μ2 _ _ E (S.go x12 R2) hk2 (fun ohi μ3 s3 hk3 x3 R3 => ?_) (lx.go x12 R2)
  exact hs s _ s3 μ3 x ex olo ohi q Q R3 (x12.trans x3 h2) ((r1.ext x2).ext x3) f1 hk3 l
end
end DL

set_option Elab.async false
set_option linter.all false
set_option maxRecDepth 100000
set_option maxHeartbeats 4000000
namespace DL
open PySem L2
section
variable {X : Cx} {W : WX} {st : Stmt} {rest : List Stmt} {e eo ei : Expr} {te ti : TDE} {tA : TDT} {t u : TDS} {pos : Pos}

/-! ### blocks and small statements -/
def sNext : TDS := fun d _ η μ => d.nx η μ
def sSeq (t u : TDS) : TDS := fun d E η μ => t { d with nx := u d E } E η μ
theorem dss_nil : DSs X W [] sNext := ⟨_, pss_nil, fun s σ η μ D d E S hq l => l.nx η μ σ s hq (Ext.refl _ _) S⟩
theorem dss_cons (h1 : DS X W st t) (h2 : DSs X W rest u) : DSs X W (st :: rest) (sSeq t u) := by
  obtain ⟨t1, p1, g1⟩ := h1.ex
  obtain ⟨t2, p2, g2⟩ := h2.ex
  refine ⟨_, pss_cons p1 p2, fun s σ η μ D d E S hq l => g1 s σ η μ _ _ E S hq ⟨fun η' μ' σ' s' hk x S' => ?_, l.rt, l.bk, l.ct, l.xq⟩⟩
  exact g2 s' σ' η' μ' D d E S' hk (l.go x S'.rep)
theorem dss_one (h1 : DS X W st t) : DSs X W [st] t := by
  obtain ⟨t1, p1, g1⟩ := h1.ex
  exact ⟨_, pss_one p1, g1⟩
def sBreak : TDS := fun d _ η μ => d.bk η μ
def sCont : TDS := fun d _ η μ => d.ct η μ
theorem ds_pass : DS X W (.Pass pos) sNext := ⟨_, ps_pass, fun s σ η μ D d E S hq l => l.nx η μ σ s hq (Ext.refl _ _) S⟩
theorem ds_break : DS X W (.Break pos) sBreak := ⟨_, ps_break, fun s σ η μ D d E S hq l => l.bk η μ σ s hq (Ext.refl _ _) S⟩
theorem ds_continue : DS X W (.Continue pos) sCont := ⟨_, ps_continue, fun s σ η μ D d E S hq l => l.ct η μ σ s hq (Ext.refl _ _) S⟩
theorem ds_doc {x j pos'} : DS X W (.Expr (.Constant (.str x) j pos) pos') sNext := ⟨_, ps_doc, fun s σ η μ D d E S hq l => l.nx η μ σ s hq (Ext.refl _ _) S⟩
def sDrop (t : TDE) : TDS := fun d E η μ => t η μ (fun _ μ1 => d.nx η μ1) E
theorem ds_expr (h : DE X W e te) (hs : swapsWith e none pos.line X.env = pure false := by rfl) : DS X W (.Expr e pos) (sDrop te) := by
  obtain ⟨t1, p1, g1⟩ := h.ex
  exact ⟨_, ps_expr p1 hs, fun s σ η μ D d E S hq l => g1 s σ η μ _ _ E S hq (fun ev μ1 v s1 hk x R r f => l.nx η μ1 σ s1 hk x (S.go x R)) (l.lx σ)⟩
def sRet (t : TDE) : TDS := fun d E η μ => t η μ d.rt E
theorem ds_ret (h : DE X W e te) : DS X W (.Return (some e) pos) (sRet te) := by
  obtain ⟨t1, p1, g1⟩ := h.ex
  exact ⟨_, ps_ret p1, fun s σ η μ D d E S hq l => g1 s σ η μ _ _ E S hq l.rt (l.lx σ)⟩
def sRetN : TDS := fun d _ _ μ => d.rt (.dat .none) μ
theorem ds_retN : DS X W (.Return none pos) sRetN := ⟨_, ps_retN, fun s σ η μ D d E S hq l => l.rt _ μ .non s hq (Ext.refl _ _) S.rep .non trivial⟩
def sIf (c : TDT) (t u : TDS) : TDS := fun d E η μ => c η μ (fun b μ1 => if b = true then t d E η μ1 else u d E η μ1) E
theorem ds_if {c : Expr} {a b : List Stmt} (hc : DT X W c tA) (ha : DSs X W a t) (hb : DSs X W b u) : DS X W (.If c a b pos) (sIf tA t u) := by
  obtain ⟨tc, p, g⟩ := hc.ex
  obtain ⟨t1, p1, g1⟩ := ha.ex
  obtain ⟨t2, p2, g2⟩ := hb.ex
  refine ⟨_, ps_if p p1 p2, fun s σ η μ D d E S hq l => g s σ η μ _ _ E S hq (fun k μ' s' hk x R => ?_) (l.lx σ)⟩
  cases k with
  | true => exact g1 s' σ η μ' D d E (S.go x R) hk (l.go x R)
  | false => exact g2 s' σ η μ' D d E (S.go x R) hk (l.go x R)
/-- the proof never comes here -/
def sNever : TDS := fun _ _ _ _ => False
theorem ds_never : DS X W st sNever := ⟨_, ps_never, fun _ _ _ _ _ _ _ _ h _ => h.elim⟩

/-! ### targets -/
abbrev TDG := EV → DEnv → Mu → (DEnv → Mu → Prop) → Prop
def LG (K : PySem.W.Frag) (s : Wd) (N : Nat) (q : DEnv → Mu → Prop) (Q : L2.St → Hp → Prop) : Prop := ∀ (η' : DEnv) (μ' : Mu) (σ' : L2.St) (s' : Wd), q η' μ' → Ext s N s' μ'.length → Sit K s' μ' σ' η' → Q σ' s'.H
/-- only the slots is are other ones -/
def Only (is : List Nat) (σ σ' : L2.St) : Prop := σ'.length = σ.length ∧ ∀ j, j ∉ is → σ'[j]? = σ[j]?
def LGo (K : PySem.W.Frag) (s : Wd) (N : Nat) (is : List Nat) (σ : L2.St) (q : DEnv → Mu → Prop) (Q : L2.St → Hp → Prop) : Prop := ∀ (η' : DEnv) (μ' : Mu) (σ' : L2.St) (s' : Wd), q η' μ' → Ext s N s' μ'.length → Sit K s' μ' σ' η' → Only is σ σ' → Q σ' s'.H
theorem LG.o {K : PySem.W.Frag} {s : Wd} {N : Nat} {is : List Nat} {σ : L2.St} {q : DEnv → Mu → Prop} {Q : L2.St → Hp → Prop} (h : LG K s N q Q) : LGo K s N is σ q Q := fun η' μ' σ' s' a b c _ => h η' μ' σ' s' a b c
theorem Only.refl {is : List Nat} (σ : L2.St) : Only is σ σ := ⟨rfl, fun _ _ => rfl⟩
theorem Only.set {is : List Nat} (σ : L2.St) (i : Nat) (o : Option V) (h : i ∈ is) : Only is σ (σ.set i o) := ⟨by simp, fun j hj => List.getElem?_set_ne fun e => hj (by rw [← e]; exact h)⟩
theorem Only.trans {is js : List Nat} {σ σ1 σ2 : L2.St} (a : Only is σ σ1) (b : Only js σ1 σ2) : Only (is ++ js) σ σ2 := ⟨b.1.trans a.1, fun j hj => (b.2 j fun h => hj (List.mem_append_right _ h)).trans (a.2 j fun h => hj (List.mem_append_left _ h))⟩
structure DG (X : Cx) (target : Expr) (is : List Nat) (td : TDG) : Prop where
  ex : ∃ g : TG, PG X target g ∧ ∀ (s : Wd) (σ : L2.St) (η : DEnv) (μ : Mu) (v : V) (e : EV) (Q : L2.St → Hp → Prop) (q : DEnv → Mu → Prop), Sit X.K s μ σ η → VR X.K s μ.length v e → td e η μ q → LGo X.K s μ.length is σ q Q → g v σ s.H Q
def gNm (i : Nat) : TDG := fun e η μ q => noNew e = true ∧ q (η.set i (some e)) μ
theorem dg_name {i : Nat} {x : Str} (hN : X.N.Nodup) (hi : X.N[i]? = some x) (hx : Loc X.env.scope x) (hf : X.fn x = true ∨ X.env.scope.names.lookup x = some .local := by first | exact .inl rfl | exact .inr rfl | assumption) : DG X (.Name x pos) [i] (gNm i) :=
  ⟨_, pg_name hN hi hx hf, fun s σ η μ v e Q q S r hq l => l _ μ _ s hq.2 (Ext.refl _ _) ⟨S.rep, S.er.set i r⟩ (Only.set σ i _ (by simp))⟩
abbrev TDGs := List PyData → DEnv → Mu → (DEnv → Mu → Prop) → Prop
structure DGs (X : Cx) (ts : List Expr) (is : List Nat) (td : TDGs) : Prop where
  ex : ∃ g : TGs, PGs X ts g ∧ ∀ (s : Wd) (σ : L2.St) (η : DEnv) (μ : Mu) (vs : List V) (ds : List PyData) (Q : L2.St → Hp → Prop) (q : DEnv → Mu → Prop), Sit X.K s μ σ η → DRs X.K s.F vs ds → td ds η μ q → LGo X.K s μ.length is σ q Q → g vs σ s.H Q
def gNl : TDGs := fun ds η μ q => ds = [] ∧ q η μ
def gCn (t : TDG) (u : TDGs) : TDGs := fun ds η μ q => match ds with
  | d :: r => t (.dat d) η μ fun η' μ' => u r η' μ' q
  | [] => False
theorem dgs_nil : DGs X [] [] gNl := ⟨_, pgs_nil, fun s σ η μ vs ds Q q S r hq l => by
  obtain ⟨rfl, hq⟩ := hq
  cases r
  exact ⟨rfl, l η μ σ s hq (Ext.refl _ _) S (Only.refl σ)⟩⟩
theorem dgs_cons {e : Expr} {es : List Expr} {is js : List Nat} {t : TDG} {u : TDGs} (h1 : DG X e is t) (h2 : DGs X es js u) (hs : (assignEach (e :: es) X.env).map (·.2) = assign e X.env :: (assignEach es X.env).map (·.2) := by rfl) : DGs X (e :: es) (is ++ js) (gCn t u) := by
  obtain ⟨t1, p1, g1⟩ := h1.ex
  obtain ⟨t2, p2, g2⟩ := h2.ex
  refine ⟨_, pgs_cons p1 p2 hs, fun s σ η μ vs ds Q q S r hq l => ?_⟩
  cases r with
  | nil => exact hq.elim
  | cons r rr =>
    refine ⟨_, _, rfl, g1 s σ η μ _ (.dat _) _ _ S r hq fun η' μ' σ' s' hk x S' o => ?_⟩
    exact g2 s' σ' η' μ' _ _ Q q S' (rr.mono x.f) hk fun η2 μ2 σ2 s2 hk2 x2 S2 o2 => l η2 μ2 σ2 s2 hk2 (x.trans x2 fun n hn => S'.rep.here hn) S2 (o.trans o2)
/-- (a, b, ..) = a tuple that is data -/
def gTp (n : Nat) (t : TDGs) : TDG := fun e η μ q => match e with
  | .dat (.tuple ds) => ds.length = n ∧ t ds η μ q
  | _ => False
theorem dg_tup {es : List Expr} {k : Nat} {is : List Nat} {t : TDGs} {n : Nat} (hc : X.calm = true) (h : DGs X es is t) (hn : (assignEach es X.env).length = n := by rfl) (hst : (assignEach es X.env).findIdx? (·.1) = none := by rfl) : DG X (.Tuple es k pos) is (gTp n t) := by
  obtain ⟨t1, p1, g1⟩ := h.ex
  refine ⟨_, pg_tup hc p1 hn hst, fun s σ η μ v e Q q S r hq l => ?_⟩
  unfold gTp at hq
  split at hq
  · rename_i ds
    have r' : DR X.K s.F v (.tuple ds) := r
    cases r' with
    | tup h hs => exact ⟨_, _, rfl, SqT.of (S.rep.sub _ _ h), by rw [hs.length]; exact hq.1, g1 s σ η μ _ _ Q q S hs hq.2 l⟩
  · exact hq.elim
/-- target = value -/
def sAsg (t : TDE) (g : TDG) : TDS := fun d E η μ => t η μ (fun e μ1 => g e η μ1 d.nx) E
theorem ds_asg {tg : Expr} {is : List Nat} {g : TDG} (he : DE X W e te) (hg : DG X tg is g) (hs : swapsWithSole [tg] e pos.line X.env = pure false := by rfl) (hw : swappedStores [tg] e X.env = pure none := by rfl)
    (h1 : (assignEach [tg] X.env).map (·.2) = [assign tg X.env] := by rfl) : DS X W (.Assign [tg] e pos) (sAsg te g) := by
  obtain ⟨t1, p1, g1⟩ := he.ex
  obtain ⟨t2, p2, g2⟩ := hg.ex
  refine ⟨_, ps_asg p1 p2 hs hw h1, fun s σ η μ D d E S hq l => g1 s σ η μ _ _ E S hq (fun ev μ1 v s1 hk x R r f => ?_) (l.lx σ)⟩
  exact g2 s1 σ η μ1 v ev _ _ (S.go x R) r hk fun η' μ' σ' s' hk' x' S' _ => l.nx η' μ' σ' s' hk' (x.trans x' fun n hn => R.here hn) S'
theorem ds_set {i : Nat} {x : Str} {pos' : Pos} (hN : X.N.Nodup) (hi : X.N[i]? = some x) (hx : Loc X.env.scope x) (he : DE X W e te) (hs : swapsWith e (some (.Name x pos')) pos.line X.env = pure false := by rfl) (hf : X.fn x = true ∨ X.env.scope.names.lookup x = some .local := by first | exact .inl rfl | exact .inr rfl | assumption) :
    DS X W (.Assign [.Name x pos'] e pos) (sAsg te (gNm i)) := by
  obtain ⟨t1, p1, g1⟩ := he.ex
  refine ⟨_, ps_set hN hi hx p1 hs hf, fun s σ η μ D d E S hq l => g1 s σ η μ _ _ E S hq (fun ev μ1 v s1 hk x R r f => ?_) (l.lx σ)⟩
  have S1 := S.go x R
  exact l.nx _ μ1 _ s1 hk.2 x ⟨R, S1.er.set i r⟩
/-- a, b = x, y (local names): data -/
def sPar (i j : Nat) (t : TDA) : TDS := fun d E η μ => t η μ (fun es μ1 => match es with
  | [e1, e2] => noNew e1 = true ∧ noNew e2 = true ∧ d.nx ((η.set i (some e1)).set j (some e2)) μ1
  | _ => False) E
theorem ds_par {i j : Nat} {x y : Str} {a b : Expr} {ta : TDA} {px py pt : Pos} {kt k2 pt2} (hc : X.calm = true) (hN : X.N.Nodup) (hi : X.N[i]? = some x) (hj : X.N[j]? = some y) (hij : i ≠ j)
    (hx : X.env.scope.names.lookup x = some .local) (hy : X.env.scope.names.lookup y = some .local) (ha : DA X W [a, b] ta)
    (hw : swappedStores [.Tuple [.Name x px, .Name y py] kt pt] (.Tuple [a, b] k2 pt2) X.env = pure (some [x, y]))
    (hs : swapsWithSole [.Tuple [.Name x px, .Name y py] kt pt] (.Tuple [a, b] k2 pt2) pos.line X.env = pure false := by rfl) :
    DS X W (.Assign [.Tuple [.Name x px, .Name y py] kt pt] (.Tuple [a, b] k2 pt2) pos) (sPar i j ta) := by
  obtain ⟨t1, p1, g1⟩ := ha.ex
  refine ⟨_, ps_par hc hN hi hj hij hx hy p1 hw hs, fun s σ η μ D d E S hq l => g1 s σ η μ _ _ E S hq (fun es μ1 vs s1 hk x R r => ?_) (l.lx σ)⟩
  split at hk
  · cases r with
    | cons r1 f1 rr =>
      cases rr with
      | cons r2 f2 rr =>
        cases rr
        exact ⟨_, _, rfl, l.nx _ μ1 _ s1 hk.2.2 x ⟨R, ((S.go x R).er.set i r1).set j r2⟩⟩
  · exact hk.elim
/-- name op= e -/
def sAug (i : Nat) (te : TDE) (o : OD) : TDS := fun d E η μ => match η[i]? with
  | some (some x) => noNew x = true ∧ te η μ (fun y μ1 => o x y μ1 fun z μ2 => noNew z = true ∧ d.nx (η.set i (some z)) μ2) E
  | _ => False
theorem ds_aug {i : Nat} {x : Str} {op : Operator} {ti : TIp} {o : OD} {pos' : Pos} (hN : X.N.Nodup) (hi : X.N[i]? = some x) (hx : Loc X.env.scope x) (he : DE X W e te) (ho : PIp X op ti) (hs : OpS X.K ti o)
    (hf : X.fn x = true ∨ X.env.scope.names.lookup x = some .local := by first | exact .inl rfl | exact .inr rfl | assumption) : DS X W (.AugAssign (.Name x pos') op e pos) (sAug i te o) := by
  obtain ⟨t1, p1, g1⟩ := he.ex
  refine ⟨_, ps_aug hN hi hx p1 ho hf, fun s σ η μ D d E S hq l => ?_⟩
  unfold sAug at hq
  split at hq
  · rename_i ex hex
    obtain ⟨v, h1, h2⟩ := S.er.get i _ hex
    refine ⟨v, h1, g1 s σ η μ _ _ E S hq.2 (fun ey μ1 y s1 hk x1 R r f => ?_) (l.lx σ)⟩
    refine hs s _ s1 μ1 v y ex ey _ _ R x1 (h2.ext x1) (frsh_of hq.1) r f hk fun ez μ2 z s2 hk2 x2 R2 r2 f2 => ?_
    exact l.nx _ μ2 _ s2 hk2.2 x2 ⟨R2, (S.go x2 R2).er.set i r2⟩
  · exact hq.elim
/-- o[i] = v, by values -/
abbrev SetD := EV → EV → EV → Mu → (Mu → Prop) → Prop
def SetS (K : PySem.W.Frag) (r : TSet) (o : SetD) : Prop := ∀ (s0 : Wd) (N0 : Nat) (s : Wd) (μ : Mu) (x y z : V) (ex ey ez : EV) (q : Mu → Prop) (Q : Hp → Prop), Rep K s μ → Ext s0 N0 s μ.length → VR K s μ.length x ex → VR K s μ.length y ey → VR K s μ.length z ez →
  o ex ey ez μ q → (∀ (μ' : Mu) (s' : Wd), q μ' → Ext s0 N0 s' μ'.length → Rep K s' μ' → Q s'.H) → r x y z s.H Q
def gSb (to ti : TDE) (o : SetD) : TDG := fun e η μ q => to η μ (fun x μ1 => ti η μ1 (fun y μ2 => o x y e μ2 fun μ3 => q η μ3) fun _ _ => False) fun _ _ => False
theorem dg_sub {to : TDE} {r : TSet} {os : SetD} (ho : DE X W eo to) (hi : DE X W ei ti) (hr : PSet X r) (hs : SetS X.K r os)
    (ha : ∀ v, assign (.Subscript eo ei pos) X.env v = (do
      let ov ← holding [v] (eval eo X.env)
      let iv ← holding [v, ov] (eval ei X.env)
      standAt pos
      holding [v, ov, iv] (setItem ov iv v)
      release [v, ov, iv] []) := by intro _; rfl) : DG X (.Subscript eo ei pos) [] (gSb to ti os) := by
  obtain ⟨t1, p1, g1⟩ := ho.ex
  obtain ⟨t2, p2, g2⟩ := hi.ex
  refine ⟨_, pg_sub p1 p2 hr ha, fun s σ η μ v e Q q S r0 hq l => ?_⟩
  refine g1 s σ η μ _ _ _ S hq (fun ex μ1 x s1 hk1 x1 R1 r1 f1 => ?_) LX.none
  refine g2 s1 σ η μ1 _ _ _ (S.go x1 R1) hk1 (fun ey μ2 y s2 hk2 x2 R2 r2 f2 => ?_) LX.none
  have h1 := fun n (hn : n < μ1.length) => R1.here hn
  have x12 := x1.trans x2 h1
  exact hs s _ s2 μ2 x y v ex ey e _ _ R2 x12 (r1.ext x2) r2 (r0.ext x12) hk2 fun μ' s' hk x' R' => l η μ' σ s' hk x' (S.go x' R') (Only.refl σ)

/-! ### what is walked -/
/-- while G holds of the store, J gives the items, one a turn -/
def WalkS (K : PySem.W.Frag) (J : It) (s0 : Wd) (N0 : Nat) (items : List EV) (G : Mu → Prop) : Prop := ∀ (n : Nat) (s : Wd) (μ : Mu), Ext s0 N0 s μ.length → Rep K s μ → G μ →
  (n < items.length → J.go n s.H) ∧ J.stop items.length s.H ∧
  ∀ x H', n < items.length → J.yld n s.H x H' → ∃ (s' : Wd) (e : EV), s'.H = H' ∧ items[n]? = some e ∧ noNew e = true ∧ Ext s μ.length s' μ.length ∧ Rep K s' μ ∧ VR K s' μ.length x e
abbrev TDI := DEnv → Mu → (List EV → (Mu → Prop) → Mu → Prop) → XQ → Prop
structure DI (X : Cx) (W : WX) (tg iter : Expr) (td : TDI) : Prop where
  ex : ∃ wi : TI, PI X tg iter wi ∧ ∀ (s : Wd) (σ : L2.St) (η : DEnv) (μ : Mu) (R : It → Hp → Prop) (r : List EV → (Mu → Prop) → Mu → Prop) (E : XQ), Sit X.K s μ σ η → td η μ r E →
    (∀ (J : It) (items : List EV) (G : Mu → Prop) (μ' : Mu) (s' : Wd), r items G μ' → Ext s μ.length s' μ'.length → Rep X.K s' μ' → WalkS X.K J s' μ'.length items G → R J s'.H) → LX X.K s μ.length σ E W → wi σ s.H R
theorem PI.or {tg iter : Expr} {wi wj : TI} (h : PI X tg iter wi) (h' : PI X tg iter wj) : PI X tg iter (fun σ H R => wi σ H R ∨ wj σ H R) :=
  ⟨fun pins s σ H R I q => q.elim (h.run pins s σ H R I) (h'.run pins s σ H R I)⟩

/-- slots that name cells made since are forgotten -/
def clean (N : Nat) (η : DEnv) : DEnv := η.map fun o => match o with
  | some (.loc n) => if n < N then some (.loc n) else none
  | o => o
theorem er_clean {K : PySem.W.Frag} {s : Wd} {N N' : Nat} {σ : L2.St} {η : DEnv} (h : ER K s N' σ η) (hN : N ≤ N') : ER K s N σ (clean N η) := by
  refine ⟨by simp [clean, h.len], fun i e q => ?_⟩
  unfold clean at q
  rw [List.getElem?_map] at q
  cases hi : η[i]? with
  | none => rw [hi] at q; cases q
  | some o =>
    rw [hi] at q
    cases o with
    | none => cases q
    | some e0 =>
      obtain ⟨v, h1, h2⟩ := h.get i e0 hi
      refine ⟨v, h1, ?_⟩
      cases e0 with
      | loc n =>
        have q1 : (if n < N then some (EV.loc n) else none) = some e := Option.some.inj q
        split at q1
        · cases q1
          exact ⟨by assumption, h2.2⟩
        · cases q1
      | dat d => cases q; exact h2
      | new xs => cases q; obtain ⟨p, vs, a1, a2, a3, a4, a5⟩ := h2; exact ⟨p, vs, a1, a2, a3, fun m hm => a4 m (Nat.lt_of_lt_of_le hm hN), a5⟩
      | raw d => cases q; exact h2
      | exc d => cases q; exact h2
      | ro d => cases q; exact h2
      | newd xs => cases q; obtain ⟨p, vs, a1, a2, a3, a4, a5⟩ := h2; exact ⟨p, vs, a1, a2, a3, fun m hm => a4 m (Nat.lt_of_lt_of_le hm hN), a5⟩
      | newk xs => cases q; obtain ⟨p, vs, a1, a2, a3, a4, a5⟩ := h2; exact ⟨p, vs, a1, a2, a3, fun m hm => a4 m (Nat.lt_of_lt_of_le hm hN), a5⟩
theorem Sit.clean {K : PySem.W.Frag} {s : Wd} {N : Nat} {μ : Mu} {σ : L2.St} {η : DEnv} (h : Sit K s μ σ η) (hN : N ≤ μ.length) : Sit K s (μ.take N) σ (DL.clean N η) := by
  have e : (μ.take N).length = N := by rw [List.length_take]; omega
  exact ⟨h.rep.take N, by rw [e]; exact er_clean h.er hN⟩

/-! ### for, while -/
def sFor (ti : TDI) (g : TDG) (tb : TDS) : TDS := fun d E η μ => ti η μ (fun items G μ1 => ∃ Inv : Nat → DEnv → Mu → Prop, Inv 0 η μ1 ∧ (∀ i η μ, Inv i η μ → G μ) ∧
  (∀ (i : Nat) (e : EV) η μ, items[i]? = some e → Inv i η μ → g e η μ fun η2 μ2 => tb { nx := fun η' μ' => Inv (i + 1) (clean μ1.length η') (μ'.take μ1.length), ct := fun η' μ' => Inv (i + 1) (clean μ1.length η') (μ'.take μ1.length), bk := d.nx, rt := d.rt } E η2 μ2) ∧
  ∀ η μ, Inv items.length η μ → d.nx η μ) E
theorem ds_for {tg iter : Expr} {body : List Stmt} {is : List Nat} {ti : TDI} {g : TDG} {tb : TDS} (hp : PassesOwn (model X.prog X.w) X.A X.env X.xe) (hc : X.calm = true) (hi : DI X W tg iter ti) (hg : DG X tg is g) (hb : DSs X W body tb)
    (hs : ∀ x, foldedSetIterable iter X.env x = pure x := by intro _; rfl) : DS X W (.For tg iter body [] pos) (sFor ti g tb) := by
  obtain ⟨wi, p1, g1⟩ := hi.ex
  obtain ⟨gg, p2, g2⟩ := hg.ex
  obtain ⟨tb', p3, g3⟩ := hb.ex
  refine ⟨_, ps_for hp hc p1 p2 p3 hs, fun s σ η μ D d E S hq l => g1 s σ η μ _ _ E S hq (fun J items G μ1 s1 hk x1 R1 wk => ?_) (l.lx σ)⟩
  obtain ⟨Inv, h0, hG, hs, hd⟩ := hk
  have l1 := l.go x1 R1
  refine ⟨fun i m σ' H' => m = items.length - i ∧ i ≤ items.length ∧ ∃ (s' : Wd) (η' : DEnv) (μ' : Mu), s'.H = H' ∧ Ext s1 μ1.length s' μ'.length ∧ Sit X.K s' μ' σ' η' ∧ Inv i η' μ', ⟨items.length, by simp, Nat.zero_le _, s1, η, μ1, rfl, Ext.refl _ _, S.go x1 R1, h0⟩, ?_⟩
  rintro i m σ' H' ⟨rfl, hi, s', η', μ', rfl, x', S', iv⟩
  have ⟨wgo, wstop, wy⟩ := wk i s' μ' x' S'.rep (hG i η' μ' iv)
  by_cases hlt : i < items.length
  · refine .inr ⟨wgo hlt, fun σ2 H2 => ∃ (s2 : Wd) (η2 : DEnv) (μ2 : Mu), s2.H = H2 ∧ Ext s1 μ1.length s2 μ2.length ∧ Sit X.K s2 μ2 σ2 η2 ∧ Inv (i + 1) η2 μ2, fun σ2 H2 h2 => ⟨items.length - (i + 1), by omega, rfl, hlt, h2⟩, fun x H'' hy => ?_⟩
    obtain ⟨s2, e, rfl, he, hne, x2, R2, r2⟩ := wy x H'' hlt hy
    have x12 := x'.trans x2 fun n hn => S'.rep.here hn
    refine g2 s2 σ' η' μ' x e _ _ (S'.go x2 R2) r2 (hs i e η' μ' he iv) fun η3 μ3 σ3 s3 hk3 x3 S3 _ => ?_
    have x13 := x12.trans x3 fun n hn => R2.here hn
    have l3 := l1.go x13 S3.rep
    have fin : ∀ (η4 : DEnv) (μ4 : Mu) (σ4 : L2.St) (s4 : Wd), Inv (i + 1) (clean μ1.length η4) (μ4.take μ1.length) → Ext s3 μ3.length s4 μ4.length → Sit X.K s4 μ4 σ4 η4 →
        ∃ (s2 : Wd) (η2 : DEnv) (μ2 : Mu), s2.H = s4.H ∧ Ext s1 μ1.length s2 μ2.length ∧ Sit X.K s2 μ2 σ4 η2 ∧ Inv (i + 1) η2 μ2 := fun η4 μ4 σ4 s4 hk4 x4 S4 => by
      have x14 := x13.trans x4 fun n hn => S3.rep.here hn
      have e4 : (μ4.take μ1.length).length = μ1.length := by rw [List.length_take]; have := x14.le; omega
      exact ⟨s4, _, _, rfl, by rw [e4]; exact x14.take (Nat.le_refl _) x14.le, S4.clean x14.le, hk4⟩
    exact g3 s3 σ3 η3 μ3 _ _ E S3 hk3 ⟨fin, l3.rt, l3.nx, fin, l3.xq⟩
  · have e : i = items.length := by omega
    subst e
    exact .inl ⟨wstop, (l1.go x' S'.rep).nx η' μ' σ' s' (hd η' μ' iv) (Ext.refl _ _) S'⟩
def sWhile (c : TDT) (tb : TDS) : TDS := fun d E η μ => ∃ Inv : Nat → DEnv → Mu → Prop, (∃ m, Inv m η μ) ∧ ∀ m η' μ', Inv m η' μ' →
  c η' μ' (fun b μ1 => if b = true then tb { nx := fun η2 μ2 => ∃ m', m' < m ∧ Inv m' (clean μ.length η2) (μ2.take μ.length), ct := fun η2 μ2 => ∃ m', m' < m ∧ Inv m' (clean μ.length η2) (μ2.take μ.length), bk := d.nx, rt := d.rt } E η' μ1 else d.nx η' μ1) E
theorem ds_while {c : Expr} {body : List Stmt} {tb : TDS} (hp : PassesOwn (model X.prog X.w) X.A X.env X.xe) (hc : DT X W c tA) (hb : DSs X W body tb) : DS X W (.While c body [] pos) (sWhile tA tb) := by
  obtain ⟨tc, p1, g1⟩ := hc.ex
  obtain ⟨tb', p3, g3⟩ := hb.ex
  refine ⟨_, ps_while hp p1 p3, fun s σ η μ D d E S hq l => ?_⟩
  obtain ⟨Inv, ⟨m0, h0⟩, turn⟩ := hq
  refine ⟨fun m σ' H' => ∃ (s' : Wd) (η' : DEnv) (μ' : Mu), s'.H = H' ∧ Ext s μ.length s' μ'.length ∧ Sit X.K s' μ' σ' η' ∧ Inv m η' μ', ⟨m0, s, η, μ, rfl, Ext.refl _ _, S, h0⟩, ?_⟩
  rintro m σ' H' ⟨s', η', μ', rfl, x', S', iv⟩
  have l' := l.go x' S'.rep
  refine g1 s' σ' η' μ' _ _ E S' (turn m η' μ' iv) (fun b μ1 s1 hk x1 R1 => ?_) (l'.lx σ')
  have S1 := S'.go x1 R1
  have l1 := l'.go x1 R1
  have xs1 := x'.trans x1 fun n hn => S'.rep.here hn
  cases b with
  | false => exact l1.nx η' μ1 σ' s1 hk (Ext.refl _ _) S1
  | true =>
    refine ⟨fun σ2 H2 => ∃ m', m' < m ∧ ∃ (s' : Wd) (η' : DEnv) (μ' : Mu), s'.H = H2 ∧ Ext s μ.length s' μ'.length ∧ Sit X.K s' μ' σ2 η' ∧ Inv m' η' μ', fun _ _ h => h, ?_⟩
    have fin : ∀ (η4 : DEnv) (μ4 : Mu) (σ4 : L2.St) (s4 : Wd), (∃ m', m' < m ∧ Inv m' (clean μ.length η4) (μ4.take μ.length)) → Ext s1 μ1.length s4 μ4.length → Sit X.K s4 μ4 σ4 η4 →
        ∃ m', m' < m ∧ ∃ (s' : Wd) (η' : DEnv) (μ' : Mu), s'.H = s4.H ∧ Ext s μ.length s' μ'.length ∧ Sit X.K s' μ' σ4 η' ∧ Inv m' η' μ' := fun η4 μ4 σ4 s4 ⟨m', hm, hk4⟩ x4 S4 => by
      have x14 := xs1.trans x4 fun n hn => R1.here hn
      have e4 : (μ4.take μ.length).length = μ.length := by rw [List.length_take]; have := x14.le; omega
      exact ⟨m', hm, s4, _, _, rfl, by rw [e4]; exact x14.take (Nat.le_refl _) x14.le, S4.clean x14.le, hk4⟩
    exact g3 s1 σ' η' μ1 _ _ E S1 hk ⟨fin, l1.rt, l1.nx, fin, l1.xq⟩

/-! ### list comprehensions -/
structure DTs (X : Cx) (W : WX) (ifs : List Expr) (td : TDT) : Prop where
  ex : ∃ t : TT, PTs X ifs t ∧ ∀ (s : Wd) (σ : L2.St) (η : DEnv) (μ : Mu) (Q : Bool → Hp → Prop) (q : Bool → Mu → Prop) (E : XQ), Sit X.K s μ σ η → td η μ q E → LB X.K s μ.length q Q → LX X.K s μ.length σ E W → t σ s.H Q
def tYesD : TDT := fun _ μ q _ => q true μ
theorem dts_nil : DTs X W [] tYesD := ⟨_, pts_nil, fun s σ η μ Q q E S hq l lx => l true μ s hq (Ext.refl _ _) S.rep⟩
theorem dts_one {c : Expr} (h : DT X W c tA) : DTs X W [c] tA := by
  obtain ⟨t, p, g⟩ := h.ex
  exact ⟨_, pts_one p, g⟩
/-- no exception -/
abbrev WF : WX := fun _ _ _ _ => False
abbrev EF : XQ := fun _ _ => False
/-- the readings that data readings stand for -/
def upE (K : PySem.W.Frag) (td : TDE) : TE := fun σ H Q => ∃ (s : Wd) (η : DEnv) (μ : Mu) (q : PQ), s.H = H ∧ Sit K s μ σ η ∧ td η μ q EF ∧ LE K s μ.length q Q
def upT (K : PySem.W.Frag) (td : TDT) : TT := fun σ H Q => ∃ (s : Wd) (η : DEnv) (μ : Mu) (q : Bool → Mu → Prop), s.H = H ∧ Sit K s μ σ η ∧ td η μ q EF ∧ LB K s μ.length q Q
def upG (K : PySem.W.Frag) (is : List Nat) (td : TDG) : TG := fun v σ H Q => ∃ (s : Wd) (η : DEnv) (μ : Mu) (e : EV) (q : DEnv → Mu → Prop), s.H = H ∧ Sit K s μ σ η ∧ VR K s μ.length v e ∧ td e η μ q ∧ LGo K s μ.length is σ q Q
theorem DE.up (h : DE X WF e te) : PE X e (upE X.K te) := by
  obtain ⟨t, p, g⟩ := h.ex
  refine ⟨fun pins sh σ H Q I hq => ?_⟩
  obtain ⟨s, η, μ, q, rfl, S, hq, l⟩ := hq
  exact p.run pins sh σ s.H Q I (g s σ η μ Q q EF S hq l LX.none)
theorem DTs.up {ifs : List Expr} (h : DTs X WF ifs tA) : PTs X ifs (upT X.K tA) := by
  obtain ⟨t, p, g⟩ := h.ex
  refine ⟨fun pins sh σ H Q I hq => ?_⟩
  obtain ⟨s, η, μ, q, rfl, S, hq, l⟩ := hq
  exact p.run pins sh σ s.H Q I (g s σ η μ Q q EF S hq l LX.none)
theorem DG.up {tg : Expr} {is : List Nat} {td : TDG} (h : DG X tg is td) : PG X tg (upG X.K is td) := by
  obtain ⟨t, p, g⟩ := h.ex
  refine ⟨fun pins sh σ H v u Q I r hq => ?_⟩
  obtain ⟨s, η, μ, ev, q, rfl, S, rv, hq, l⟩ := hq
  exact p.run pins sh σ s.H v u Q I r (g s σ η μ v ev Q q S rv hq l)
theorem wipe_get (σ : L2.St) : ∀ (vs : List Nat) (i : Nat), (L2.wipe σ vs)[i]? = if i ∈ vs then (if i < σ.length then some none else none) else σ[i]?
  | [], i => by simp [L2.wipe]
  | v :: vs, i => by
    unfold L2.wipe
    by_cases hv : v = i
    · subst hv
      by_cases hl : v < σ.length
      · rw [List.getElem?_set_self (by rw [wipe_length]; exact hl)]
        simp [hl]
      · rw [List.getElem?_eq_none (by rw [List.length_set, wipe_length]; omega)]
        simp [hl]
    · rw [List.getElem?_set_ne hv, wipe_get σ vs i]
      have : (i ∈ v :: vs) ↔ i ∈ vs := by
        rw [List.mem_cons]
        exact ⟨fun z => z.elim (fun e => absurd e.symm hv) id, .inr⟩
      simp [this]
theorem wipe_only {is vs : List Nat} {σ σ' : L2.St} (h : Only is σ σ') (hs : ∀ i ∈ is, i ∈ vs) : L2.wipe σ' vs = L2.wipe σ vs := by
  refine List.ext_getElem? fun i => ?_
  rw [wipe_get, wipe_get, h.1]
  by_cases hi : i ∈ vs
  · rw [if_pos hi, if_pos hi]
  · rw [if_neg hi, if_neg hi]
    exact h.2 i fun z => hi (hs i z)
theorem wipe_twice (σ : L2.St) (vs : List Nat) : L2.wipe (L2.wipe σ vs) vs = L2.wipe σ vs := by
  refine List.ext_getElem? fun i => ?_
  rw [wipe_get, wipe_get, wipe_length]
  by_cases hi : i ∈ vs
  · rw [if_pos hi, if_pos hi]
  · rw [if_neg hi, if_neg hi]
/-- a list beside is written -/
theorem Rep.poke {K : PySem.W.Frag} {s : Wd} {μ : Mu} {p : Addr} {o : HO} (R : Rep K s μ) (hf : s.F p = none) (hl : ∀ m, m < μ.length → s.L m ≠ p) : Rep K { s with H := upd s.H p o } μ := by
  refine ⟨fun a u q => ?_, fun n c q => ?_, R.inj⟩
  · show upd s.H p o a = some u
    have q' : s.F a = some u := q
    rw [upd_ne (ne_of_none q' hf)]
    exact R.sub a u q
  · have ne := hl n (List.getElem?_eq_some_iff.mp q).1
    have := R.cell n c q
    cases c with
    | lst xs => obtain ⟨h1, vs, h2, h3⟩ := this; exact ⟨h1, vs, (upd_ne ne).trans h2, h3⟩
    | frz xs => exact this
    | dct kvs =>
      obtain ⟨h1, ks, h2, h3, h4⟩ := this
      exact ⟨h1, ks, (upd_ne ne).trans h2, h3, h4⟩
    | dck kvs =>
      obtain ⟨h1, ks, h2, h3, h4⟩ := this
      exact ⟨h1, ks, (upd_ne ne).trans h2, h3, h4⟩
    | abs P => obtain ⟨xs, hP, h1, vs, h2, h3⟩ := this; exact ⟨xs, hP, h1, vs, (upd_ne ne).trans h2, h3⟩
    | dead =>
      show upd s.H p o (s.L n) ≠ none
      rw [upd_ne ne]
      exact this
theorem Ext.poke {s0 s : Wd} {N0 N : Nat} {p : Addr} {o : HO} (x : Ext s0 N0 s N) (h0 : s0.H p = none) : Ext s0 N0 { s with H := upd s.H p o } N :=
  ⟨x.f, x.l, x.le, fun a u q hn => by
    show upd s.H p o a = some u
    rw [upd_ne (ne_of_none q h0)]
    exact x.keep a u q hn, x.fnew, x.lnew⟩
/-- [e for tg in it if c] -/
def dLc (ti : TDI) (g : TDG) (tt : TDT) (te : TDE) (vs : List Nat) : TDE := fun η μ q E => ti η μ (fun items G μ1 => items.length ≤ 100000 ∧ ∃ Inv : Nat → List PyData → Mu → Prop, Inv 0 [] μ1 ∧ (∀ i acc μ, Inv i acc μ → G μ ∧ acc.length ≤ i) ∧
  (∀ (i : Nat) (e : EV) acc μ, items[i]? = some e → Inv i acc μ → g e (wipeD η vs) μ fun η2 μ2 => tt η2 μ2 (fun b μ3 => if b = true then te η2 μ3 (fun ev μ4 => withDat μ4 ev fun d μ5 => Inv (i + 1) (acc ++ [d]) (μ5.take μ1.length)) EF else Inv (i + 1) acc (μ3.take μ1.length)) EF) ∧
  ∀ acc μ, Inv items.length acc μ → q (.new acc) μ) E
theorem lc_ok {ti : TDI} {g : TDG} {tt : TDT} {te : TDE} {wi : TI} {own : List (Str × Nat)} {is : List Nat} (his : ∀ i ∈ is, i ∈ own.map (·.2))
    (g1 : ∀ (s : Wd) (σ : L2.St) (η : DEnv) (μ : Mu) (R : It → Hp → Prop) (r : List EV → (Mu → Prop) → Mu → Prop) (E : XQ), Sit X.K s μ σ η → ti η μ r E →
      (∀ (J : It) (items : List EV) (G : Mu → Prop) (μ' : Mu) (s' : Wd), r items G μ' → Ext s μ.length s' μ'.length → Rep X.K s' μ' → WalkS X.K J s' μ'.length items G → R J s'.H) → LX X.K s μ.length σ E W → wi σ s.H R)
    (s : Wd) (σ : L2.St) (η : DEnv) (μ : Mu) (Q : VK) (q : PQ) (E : XQ) (S : Sit X.K s μ σ η) (hq : dLc ti g tt te (own.map (·.2)) η μ q E) (l : LE X.K s μ.length q Q) (lx : LX X.K s μ.length σ E W) :
    tLc wi (upG X.K is g) (upT X.K tt) (upE X.K te) (own.map (·.2)) σ s.H Q := by
  refine g1 s σ η μ _ _ E S hq (fun J items G μ1 s1 hk x1 R1 wk => ?_) lx
  obtain ⟨hz, Inv, h0, hG, hs, hd⟩ := hk
  intro D hD
  have hD0 := x1.fresh R1 hD
  refine ⟨fun i m H' => m = items.length - i ∧ i ≤ items.length ∧ ∃ (s' : Wd) (acc : List PyData) (μ' : Mu), s'.H = H' ∧ Ext s1 μ1.length s' μ'.length ∧ Rep X.K s' μ' ∧ VR X.K s' μ'.length (.ref D) (.new acc) ∧ Inv i acc μ', ⟨items.length, by simp, Nat.zero_le _, { s1 with H := upd s1.H D (.lst []) }, [], μ1, rfl, (Ext.refl s1 μ1.length).poke hD, R1.put hD, ⟨D, [], rfl, upd_same, R1.notF hD, R1.notL hD, .nil⟩, h0⟩, ?_⟩
  rintro i m H' ⟨rfl, hi, s', acc, μ', rfl, x', R', rD, iv⟩
  obtain ⟨gG, hacc⟩ := hG i acc μ' iv
  have ⟨wgo, wstop, wy⟩ := wk i s' μ' x' R' gG
  by_cases hlt : i < items.length
  · refine .inr ⟨wgo hlt, fun H2 => ∃ (s2 : Wd) (acc2 : List PyData) (μ2 : Mu), s2.H = H2 ∧ Ext s1 μ1.length s2 μ2.length ∧ Rep X.K s2 μ2 ∧ VR X.K s2 μ2.length (.ref D) (.new acc2) ∧ Inv (i + 1) acc2 μ2, fun H2 h2 => ⟨items.length - (i + 1), by omega, rfl, hlt, h2⟩, fun x H'' hy => ?_⟩
    obtain ⟨s2, e, rfl, he, hne, x2, R2, r2⟩ := wy x H'' hlt hy
    have x12 := x'.trans x2 fun n hn => R'.here hn
    have rD2 := rD.ext x2
    have Sw : Sit X.K s2 μ' (L2.wipe σ (own.map (·.2))) (wipeD η (own.map (·.2))) := ⟨R2, ((S.er.ext x1).ext x12).wipe _⟩
    refine ⟨s2, wipeD η (own.map (·.2)), μ', e, _, rfl, Sw, r2, hs i e acc μ' he iv, fun η3 μ3 σ3 s3 hk3 x3 S3 o3 => ?_⟩
    refine ⟨(wipe_only o3 his).trans (wipe_twice _ _), s3, η3, μ3, _, rfl, S3, hk3, fun b μ4 s4 hk4 x4 R4 => ?_⟩
    have x13 := x12.trans x3 fun n hn => R2.here hn
    have x14 := x13.trans x4 fun n hn => S3.rep.here hn
    have rD4 := (rD2.ext x3).ext x4
    cases b with
    | false =>
      have e4 : (μ4.take μ1.length).length = μ1.length := by rw [List.length_take]; have := x14.le; omega
      refine ⟨s4, acc, μ4.take μ1.length, rfl, by rw [e4]; exact x14.take (Nat.le_refl _) x14.le, R4.take _, ?_, hk4⟩
      obtain ⟨p, vs, a1, a2, a3, a4, a5⟩ := rD4
      exact ⟨p, vs, a1, a2, a3, fun m hm => a4 m (by rw [List.length_take] at hm; omega), a5⟩
    | true =>
      refine ⟨s4, η3, μ4, _, rfl, S3.go x4 R4, hk4, fun ev μ5 v s5 hk5 x5 R5 r5 f5 => ?_⟩
      have x15 := x14.trans x5 fun n hn => R4.here hn
      have rD5 := rD4.ext x5
      obtain ⟨p, ws, e0, a2, a3, a4, a5⟩ := rD5
      cases e0
      -- made still
      have hDd : s5.H D ≠ none := by rw [a2]; simp
      have f5' : Frsh s4.H v ev := f5
      have base : ∃ d μ6 F', Inv (i + 1) (acc ++ [d]) (μ6.take μ1.length) ∧ μ6.length = μ5.length ∧ Rep X.K { s5 with F := F' } μ6 ∧ Ext s4 μ4.length { s5 with F := F' } μ6.length ∧ DR X.K F' v d := still R5 x5 r5 f5' hk5
      obtain ⟨d, μ6, F', k6, len6, R6, x6, r6⟩ := base
      have x16 := x14.trans x6 fun n hn => R4.here hn
      have rD6 := rD4.ext x6
      obtain ⟨p, ws, e0, a2, a3, a4, a5⟩ := rD6
      cases e0
      have e6 : (μ6.take μ1.length).length = μ1.length := by rw [List.length_take]; have := x16.le; omega
      have hDm : ∀ m, m < (μ6.take μ1.length).length → s5.L m ≠ D := fun m hm => a4 m (by rw [List.length_take] at hm; omega)
      refine ⟨ws, a2, Nat.lt_of_lt_of_le (show ws.length < 100001 by have := a5.length; omega) (by decide), { s5 with F := F', H := upd s5.H D (.lst (ws ++ [v])) }, acc ++ [d], μ6.take μ1.length, rfl, ?_, ?_, ?_, k6⟩
      · rw [e6]
        exact (x16.poke hD).take (Nat.le_refl _) x16.le
      · exact (R6.take _).poke a3 hDm
      · exact ⟨D, ws ++ [v], rfl, upd_same, a3, hDm, a5.append (.cons r6 .nil)⟩
  · have e : i = items.length := by omega
    subst e
    refine .inl ⟨wstop, l (.new acc) μ' (.ref D) s' (hd acc μ' iv) (x1.trans x' fun n hn => R1.here hn) R' rD fun p hp => ?_⟩
    cases hp
    exact hD0
theorem de_lc {elt tg iter : Expr} {ifs : List Expr} {scope : Scope} {own : List (Str × Nat)} {is : List Nat} {ti : TDI} {g : TDG} {tt : TDT} (hc : X.calm = true) (hN : X.N.Nodup) (hi : DI X W tg iter ti) (ok : BlkOk X.N X.env.scope scope own) (his : ∀ i ∈ is, i ∈ own.map (·.2))
    (hg : ∀ (s : Shared) (H : Hp) (C : Addr) (cl : List (Str × Addr)) (fp : List Addr), DG (X.blk s H scope (compEnvC scope cl C X.env) fp) tg is g)
    (ht : ∀ (s : Shared) (H : Hp) (C : Addr) (cl : List (Str × Addr)) (fp : List Addr), DTs (X.blk s H scope (compEnvC scope cl C X.env) fp) WF ifs tt)
    (he : ∀ (s : Shared) (H : Hp) (C : Addr) (cl : List (Str × Addr)) (fp : List Addr), DE (X.blk s H scope (compEnvC scope cl C X.env) fp) WF elt te) (hs : ∀ x, foldedSetIterable iter X.env x = pure x := by intro _; rfl) :
    DE X W (.ListComp elt [⟨tg, iter, ifs, 0⟩] scope pos) (dLc ti g tt te (own.map (·.2))) := by
  obtain ⟨wi, p1, g1⟩ := hi.ex
  exact de_pe (pe_lc (g := upG X.K is g) (tt := upT X.K tt) (te := upE X.K te) hc hN p1 ok (fun s H C cl fp => (hg s H C cl fp).up) (fun s H C cl fp => (ht s H C cl fp).up) (fun s H C cl fp => (he s H C cl fp).up) hs) (lc_ok his g1)
/-- name = [..] in one row -/
theorem ds_setLc {i : Nat} {y : Str} {py : Pos} {elt tg iter : Expr} {ifs : List Expr} {scope : Scope} {own : List (Str × Nat)} {spos : Pos} {is : List Nat} {ti : TDI} {g : TDG} {tt : TDT} {k : TDE → TDE} (hc : X.calm = true) (hN : X.N.Nodup) (hy : X.N[i]? = some y) (hyl : X.env.scope.names.lookup y = some .local)
    (hs' : swapsWith (.ListComp elt [⟨tg, iter, ifs, 0⟩] scope pos) (some (.Name y py)) spos.line X.env = pure true)
    (hk : k = dFrz ∨ k = dCell)
    (hi : DI X W tg iter ti) (ok : BlkOk X.N X.env.scope scope own) (his : ∀ i ∈ is, i ∈ own.map (·.2))
    (hg : ∀ (s : Shared) (H : Hp) (C : Addr) (cl : List (Str × Addr)) (fp : List Addr), DG (X.blk s H scope (compEnvC scope cl C X.env) fp) tg is g)
    (ht : ∀ (s : Shared) (H : Hp) (C : Addr) (cl : List (Str × Addr)) (fp : List Addr), DTs (X.blk s H scope (compEnvC scope cl C X.env) fp) WF ifs tt)
    (he : ∀ (s : Shared) (H : Hp) (C : Addr) (cl : List (Str × Addr)) (fp : List Addr), DE (X.blk s H scope (compEnvC scope cl C X.env) fp) WF elt te) (hs : ∀ x, foldedSetIterable iter X.env x = pure x := by intro _; rfl) :
    DS X W (.Assign [.Name y py] (.ListComp elt [⟨tg, iter, ifs, 0⟩] scope pos) spos) (sAsg (k (dLc ti g tt te (own.map (·.2)))) (gNm i)) := by
  obtain ⟨wi, p1, g1⟩ := hi.ex
  have g2 : SemE X.K W (tLc wi (upG X.K is g) (upT X.K tt) (upE X.K te) (own.map (·.2))) (k (dLc ti g tt te (own.map (·.2)))) := by
    rcases hk with rfl | rfl
    · exact sem_frz (lc_ok his g1)
    · exact sem_cell (lc_ok his g1)
  refine ⟨_, ps_setLc (g := upG X.K is g) (tt := upT X.K tt) (te := upE X.K te) hc hN hy hyl hs' p1 ok (fun s H C cl fp => (hg s H C cl fp).up) (fun s H C cl fp => (ht s H C cl fp).up) (fun s H C cl fp => (he s H C cl fp).up) hs, fun s σ η μ D d E S hq l => ?_⟩
  refine g2 s σ η μ _ _ E S hq (fun ev μ1 v s1 hk x R r f => ?_) (l.lx σ)
  exact l.nx _ μ1 _ s1 hk.2 x ⟨R, (S.go x R).er.set i r⟩
end
end DL

set_option Elab.async false
set_option linter.all false
set_option maxRecDepth 100000
set_option maxHeartbeats 4000000
namespace DL
open PySem L2 PyProof.Rows

/-! ### contracts of defs -/
/-- a contract: the arguments, the store, what is wanted of the answer, of an exception -/
abbrev SpD := List EV → Mu → PQ → XQ → Prop
inductive VL (K : PySem.W.Frag) (s : Wd) (N : Nat) : List V → List EV → Prop
  | nil : VL K s N [] []
  | cons {v : V} {vs : List V} {e : EV} {es : List EV} : VR K s N v e → VL K s N vs es → VL K s N (v :: vs) (e :: es)
theorem VL.len {K : PySem.W.Frag} {s : Wd} {N : Nat} {vs : List V} {es : List EV} (h : VL K s N vs es) : vs.length = es.length := by
  induction h with
  | nil => rfl
  | cons _ _ ih => rw [List.length_cons, List.length_cons, ih]
theorem VL.get {K : PySem.W.Frag} {s : Wd} {N : Nat} : ∀ {vs : List V} {es : List EV} {i : Nat} {e : EV}, VL K s N vs es → es[i]? = some e → ∃ v, vs[i]? = some v ∧ VR K s N v e
  | _, _, _, _, .nil, e => by simp at e
  | _, _, 0, _, .cons h _, e => by simp at e; subst e; exact ⟨_, rfl, h⟩
  | _, _, i + 1, d, .cons _ hs, e => by
    obtain ⟨v, h1, h2⟩ := VL.get (i := i) (e := d) hs (by simpa using e)
    exact ⟨v, by simpa using h1, h2⟩
theorem VRs.vl {K : PySem.W.Frag} {s : Wd} {N : Nat} {H0 : Hp} {vs : List V} {es : List EV} (h : VRs K s N H0 vs es) : VL K s N vs es := by
  induction h with
  | nil => exact .nil
  | cons a _ _ ih => exact .cons a ih
theorem VL.append {K : PySem.W.Frag} {s : Wd} {N : Nat} {vs ws : List V} {es fs : List EV} (h : VL K s N vs es) (h' : VL K s N ws fs) : VL K s N (vs ++ ws) (es ++ fs) := by
  induction h with
  | nil => exact h'
  | cons a _ ih => exact .cons a ih
def spOf (K : PySem.W.Frag) (n : Nat) (sp : SpD) : Sp := fun vs H Q E => vs.length = n ∧ ∃ (s : Wd) (μ : Mu) (es : List EV) (q : PQ) (x : XQ), s.H = H ∧ Rep K s μ ∧ VL K s μ.length vs es ∧ sp es μ q x ∧ LE K s μ.length q Q ∧
  ∀ (y : Exn) (μ' : Mu) (cls : Value) (d : Option Addr) (s' : Wd), x y μ' → Ext s μ.length s' μ'.length → Rep K s' μ' → XR K s' cls d y → E cls d s'.H

/-- what goes out of a def: its own cells are forgotten, the answer's one is kept -/
def exitQ (N : Nat) (q : PQ) : PQ := fun e μ => match e with
  | .loc n => if n < N then q (.loc n) (μ.take N) else match μ[n]? with
    | some (.lst xs) => q (.new xs) (μ.take N)
    | some (.frz xs) => q (.dat (.list xs)) (μ.take N)
    | some (.dct kvs) => q (.newd kvs) (μ.take N)
    | some (.dck kvs) => q (.newk kvs) (μ.take N)
    | _ => False
  | e => q e (μ.take N)
theorem exit_ok {K : PySem.W.Frag} {s : Wd} {N : Nat} {q : PQ} {Q : VK} (l : LE K s N q Q) (hN : ∀ n, n < N → s.H (s.L n) ≠ none) : LE K s N (exitQ N q) Q := by
  intro e μ' v s' hq x R r f
  have e1 : (μ'.take N).length = N := by rw [List.length_take]; have := x.le; omega
  have xt : Ext s N s' (μ'.take N).length := by rw [e1]; exact x.take (Nat.le_refl _) x.le
  have Rt := R.take N
  cases e with
  | dat d => exact l _ _ v s' hq xt Rt r trivial
  | raw d => exact l _ _ v s' hq xt Rt r trivial
  | exc d => exact l _ _ v s' hq xt Rt r trivial
  | ro d => exact l _ _ v s' hq xt Rt r trivial
  | newd xs =>
    obtain ⟨p, vs, a1, a2, a3, a4, a5⟩ := r
    exact l _ _ v s' hq xt Rt ⟨p, vs, a1, a2, a3, fun m hm => a4 m (by rw [e1] at hm; have := x.le; omega), a5⟩ f
  | newk xs =>
    obtain ⟨p, vs, a1, a2, a3, a4, a5⟩ := r
    exact l _ _ v s' hq xt Rt ⟨p, vs, a1, a2, a3, fun m hm => a4 m (by rw [e1] at hm; have := x.le; omega), a5⟩ f
  | new xs =>
    obtain ⟨p, vs, a1, a2, a3, a4, a5⟩ := r
    exact l _ _ v s' hq xt Rt ⟨p, vs, a1, a2, a3, fun m hm => a4 m (by rw [e1] at hm; have := x.le; omega), a5⟩ f
  | loc n =>
    obtain ⟨hn, rfl⟩ := r
    unfold exitQ at hq
    simp only at hq
    by_cases hlt : n < N
    · rw [if_pos hlt] at hq
      exact l _ _ _ s' hq xt Rt ⟨by rw [e1]; exact hlt, rfl⟩ trivial
    · rw [if_neg hlt] at hq
      have h0 : s.H (s'.L n) = none := x.lnew n (Nat.le_of_not_lt hlt) hn
      have ne : ∀ m, m < (μ'.take N).length → s'.L m ≠ s'.L n := fun m hm e => by
        rw [e1] at hm
        have := R.inj m n (by have := x.le; omega) hn e
        omega
      cases hc : μ'[n]? with
      | none => rw [hc] at hq; exact hq.elim
      | some c =>
        rw [hc] at hq
        have C := R.cell n c hc
        cases c with
        | lst xs =>
          obtain ⟨hf, vs, hv, hd⟩ := C
          exact l _ _ _ s' hq xt Rt ⟨s'.L n, vs, rfl, hv, hf, ne, hd⟩ (fun p hp => by cases hp; exact h0)
        | frz xs =>
          obtain ⟨vs, hv, hd⟩ := C
          exact l _ _ _ s' hq xt Rt (.lst hv hd) trivial
        | dct kvs =>
          obtain ⟨hf, ks, hv, hk, hd⟩ := C
          exact l _ _ _ s' hq xt Rt ⟨s'.L n, ks, rfl, hv, hf, ne, hk, hd⟩ (fun p hp => by cases hp; exact h0)
        | dck kvs =>
          obtain ⟨hf, ks, hv, hk, hd⟩ := C
          exact l _ _ _ s' hq xt Rt ⟨s'.L n, ks, rfl, hv, hf, ne, hk, hd⟩ (fun p hp => by cases hp; exact h0)
        | abs P => exact hq.elim
        | dead => exact hq.elim

def startD (N : List Str) (es : List EV) : DEnv := es.map some ++ List.replicate (N.length - es.length) none
theorem er_start {K : PySem.W.Frag} {s : Wd} {M : Nat} {N : List Str} {vs : List V} {es : List EV} (h : VL K s M vs es) : ER K s M (L2.start N vs) (startD N es) := by
  have hl := h.len
  refine ⟨by simp [L2.start, startD, hl], fun i e q => ?_⟩
  unfold startD at q
  by_cases hi : i < es.length
  · rw [List.getElem?_append_left (by simpa using hi), List.getElem?_map] at q
    cases hg : es[i]? with
    | none => rw [hg] at q; cases q
    | some e0 =>
      rw [hg] at q
      cases q
      obtain ⟨v, h1, h2⟩ := h.get hg
      refine ⟨v, ?_, h2⟩
      unfold L2.start
      rw [List.getElem?_append_left (by simp [hl]; exact hi), List.getElem?_map, h1]
      rfl
  · rw [List.getElem?_append_right (by simpa using Nat.le_of_not_lt hi)] at q
    rw [List.getElem?_replicate] at q
    split at q <;> cases q

section
variable {P : Program} {w : World} {K : PySem.W.Frag} {mg : Str → Option Value} {base : Heap}
/-- THE RULE for a def: its body's data reading, and that the contract gives it -/
theorem fd_of {x qual : Str} {st : Stmt} {f : Addr} {fd : FuncData} {N ps : List Str} {k : Nat} {sp : SpD} {td : TDS} (F : Fun K x qual st f fd) (S : FnScope N ps (defScope st))
    (body : ∀ (cdv : Value) (A : Around) (outer : List Env) (s : Shared) (H : Hp) (E : XK), Room k (A.deeper (envOfC qual (defScope st) s.heap.objs.size f cdv)) →
      DSs (cxOf (L2.CX P w) P w K mg base N qual (defScope st) f cdv A outer s H E) (fun cls d _ H => E cls d H) (defBody st) td)
    (h : ∀ (es : List EV) (μ : Mu) (q : PQ) (x : XQ), es.length = ps.length → sp es μ q x → td { nx := fun _ μ' => exitQ μ.length q (.dat .none) μ', rt := exitQ μ.length q } (fun y μ' => x y (μ'.take μ.length)) (startD N es) μ) :
    FnOk P w K mg base (L2.CX P w) (k + 1) f fd ps (spOf K ps.length sp) := by
  refine F.okX S (fun vs H Q E hs => hs.1) fun cdv A outer sh H vs Q E hr hs => ?_
  obtain ⟨hl, s, μ, es, q, x, rfl, R, hv, hsp, l, lx⟩ := hs
  obtain ⟨t, p, g⟩ := (body cdv A outer sh s.H E hr).ex
  have l' := exit_ok l fun n hn => R.here hn
  refine ⟨t, p, g s _ (startD N es) μ _ _ _ ⟨R, er_start hv⟩ (h es μ q x (by rw [← hv.len]; exact hl) hsp) ⟨fun η' μ' σ' s' hq x' S' => ?_, l', fun _ _ _ _ z => z.elim, fun _ _ _ _ z => z.elim, fun y μ' cls dd σ' s' hq x' R' r => ?_⟩⟩
  · exact l' (.dat .none) μ' .non s' hq x' S'.rep .non trivial
  · have e1 : (μ'.take μ.length).length = μ.length := by rw [List.length_take]; have := x'.le; omega
    exact lx y _ cls dd s' hq (by rw [e1]; exact x'.take (Nat.le_refl _) x'.le) (R'.take _) r
end

/-- what stands at a def's name -/
structure DefAt (P : Program) (w : World) (K : PySem.W.Frag) (mg : Str → Option Value) (base : Heap) (x : Str) (k : Nat) (ps : List Str) (dvs : List V) (ds : List Value) (sp : SpD) : Prop where
  ex : ∃ (f : Addr) (fd : FuncData), FnOk P w K mg base (L2.CX P w) k f fd ps (spOf K ps.length sp) ∧ mg x = some (.ref f) ∧ PySem.W.keepIn K (.ref f) = true ∧ Binds K fd ps ds
  dv : Vals dvs ds
section
variable {X : Cx} {W : WX} {x : Str} {p pos : Pos} {k j : Nat} {ps : List Str} {dvs : List V} {ds : List Value} {sp : SpD} {e : Expr} {es : List Expr} {t : TDA}
def allOld : List EV → Bool
  | [] => true
  | e :: es => noNew e && allOld es
/-- f(e, ..), an own def; the defaults des fill up -/
def dCall (n : Nat) (sp : SpD) (des : List EV) (t : TDA) : TDE := fun η μ q E => t η μ (fun es μ1 => allOld es = true ∧ (es ++ des).length = n ∧ sp (es ++ des) μ1 q E) E
theorem de_call {des : List EV} (F : DefAt X.prog X.w X.K X.mg X.base x k ps dvs ds sp) (hr : Room j X.A) (hj : k ≤ j) (hg : Gl X x) (tk : Takes X W) (hn : ∀ (s : Wd) (N : Nat), VL X.K s N dvs des) (ha : DA X W (e :: es) t)
    (hdb : (x == ("__debug__" : Str)) = false := by decide) (he : starEach (e :: es) X.env = (false, eval e X.env) :: starEach es X.env := by rfl) (hpl : (backTo pos (starEach es X.env)).any (·.1) = false := by rfl) :
    DE X W (.Call (.Name x p) (e :: es) [] pos) (dCall ps.length sp des t) := by
  obtain ⟨f, fd, G, hm, hk, hb⟩ := F.ex
  obtain ⟨t1, p1, g1⟩ := ha.ex
  refine de_pe (pe_callSD (E := WE W) G (hr.mono hj) hg hm hk hb F.dv (fun σ => passAt tk σ) p1 hdb he hpl) fun s σ η μ Q q E S hq l lx => g1 s σ η μ _ _ E S hq (fun es' μ1 vs s1 hk1 x1 R1 r1 => ?_) lx
  obtain ⟨ho, hl, hk1⟩ := hk1
  have hv := r1.vl.append (hn s1 μ1.length)
  exact ⟨hv.len.trans hl, s1, μ1, es' ++ des, q, E, rfl, R1, hv, hk1, l.go x1 R1, lx.go x1 R1⟩
/-- f() -/
theorem de_call0 {des : List EV} (F : DefAt X.prog X.w X.K X.mg X.base x k ps dvs ds sp) (hr : Room j X.A) (hj : k ≤ j) (hg : Gl X x) (tk : Takes X W) (hn : ∀ (s : Wd) (N : Nat), VL X.K s N dvs des)
    (hdb : (x == ("__debug__" : Str)) = false := by decide) : DE X W (.Call (.Name x p) [] [] pos) (dCall ps.length sp des aNil) := by
  obtain ⟨f, fd, G, hm, hk, hb⟩ := F.ex
  have P : PE X (.Call (.Name x p) [] [] pos) (tCallSD (spOf X.K ps.length sp) dvs (WE W) tNil) := by
    refine ⟨fun pins s σ H Q I h => ?_⟩
    refine wpAny_Call_Name_kw (ld_glob I hg hm ?_ hdb)
    exact PySem.W.callWith_K0 I.kIn hk (run_fnSD (us := []) G (hr.mono hj) hb F.dv (passAt tk σ) I .nil h)
  refine de_pe P fun s σ η μ Q q E S hq l lx => ?_
  obtain ⟨ho, hl, hk1⟩ := hq
  have hv : VL X.K s μ.length ([] ++ dvs) ([] ++ des) := VL.append .nil (hn s μ.length)
  exact ⟨hv.len.trans hl, s, μ, [] ++ des, q, E, rfl, S.rep, hv, hk1, l, lx⟩
end
end DL

set_option Elab.async false
set_option linter.all false
set_option maxRecDepth 100000
set_option maxHeartbeats 4000000
namespace DL
open PySem L2 PyProof.Rows

/-! ### what is read of a value -/
def lstOf (μ : Mu) : EV → Option (List PyData)
  | .dat (.list xs) => some xs
  | .new xs => some xs
  | .loc n => match μ[n]? with
    | some (.lst xs) => some xs
    | some (.frz xs) => some xs
    | _ => none
  | _ => none
def tupOf : EV → Option (List PyData)
  | .dat (.tuple xs) => some xs
  | _ => none
def roOf : EV → Option (List PyData)
  | .ro xs => some xs
  | _ => none
def seqOf (μ : Mu) (e : EV) : Option (List PyData) := match tupOf e with
  | some xs => some xs
  | none => match roOf e with
    | some xs => some xs
    | none => lstOf μ e
def datOf (μ : Mu) : EV → Option PyData
  | .dat d => some d
  | e => (lstOf μ e).map .list
section
variable {K : PySem.W.Frag} {s s0 : Wd} {N0 : Nat} {μ : Mu} {v : V} {e : EV}
theorem lst_ok {xs : List PyData} (R : Rep K s μ) (r : VR K s μ.length v e) (h : lstOf μ e = some xs) : ∃ a vs, v = .ref a ∧ s.H a = some (.lst vs) ∧ DRs K s.F vs xs := by
  unfold lstOf at h
  split at h
  · cases h
    have r' : DR K s.F v (.list xs) := r
    cases r' with
    | lst h hs => exact ⟨_, _, rfl, R.sub _ _ h, hs⟩
  · cases h
    obtain ⟨p, vs, a1, a2, a3, a4, a5⟩ := r
    exact ⟨p, vs, a1, a2, a5⟩
  · rename_i n
    obtain ⟨hn, rfl⟩ := r
    cases hc : μ[n]? with
    | none => rw [hc] at h; cases h
    | some c =>
      rw [hc] at h
      have C := R.cell n c hc
      cases c with
      | lst ys => cases h; obtain ⟨_, vs, a1, a2⟩ := C; exact ⟨_, vs, rfl, a1, a2⟩
      | frz ys => cases h; obtain ⟨vs, a1, a2⟩ := C; exact ⟨_, vs, rfl, R.sub _ _ a1, a2⟩
      | dct _ => cases h
      | dck _ => cases h
      | abs _ => cases h
      | dead => cases h
  · cases h
theorem tup_ok {xs : List PyData} (R : Rep K s μ) (r : VR K s μ.length v e) (h : tupOf e = some xs) : ∃ a vs, v = .ref a ∧ SqT K s.H a vs ∧ DRs K s.F vs xs := by
  unfold tupOf at h
  split at h
  · cases h
    have r' : DR K s.F v (.tuple xs) := r
    cases r' with
    | tup h hs => exact ⟨_, _, rfl, SqT.of (R.sub _ _ h), hs⟩
  · cases h
theorem seq_ok {xs : List PyData} (R : Rep K s μ) (r : VR K s μ.length v e) (h : seqOf μ e = some xs) : ∃ a vs, v = .ref a ∧ (SqL K s.H a vs ∨ SqT K s.H a vs) ∧ DRs K s.F vs xs := by
  unfold seqOf at h
  split at h
  · rename_i ys hy
    cases h
    obtain ⟨a, vs, h1, h2, h3⟩ := tup_ok R r hy
    exact ⟨a, vs, h1, .inr h2, h3⟩
  · split at h
    · rename_i ys hy
      cases h
      unfold roOf at hy
      split at hy
      · cases hy
        obtain ⟨a, vs, h1, h2, h3⟩ := r
        exact ⟨a, vs, h1, .inl (R.sub.seq h2), h3⟩
      · cases hy
    · obtain ⟨a, vs, h1, h2, h3⟩ := lst_ok R r h
      exact ⟨a, vs, h1, .inl (SqL.of h2), h3⟩
theorem dat_ok {d : PyData} (R : Rep K s μ) (r : VR K s μ.length v e) (h : datOf μ e = some d) (hn : noD d = true) : Dp K s.H v d ∧ d.canLay0 = true := by
  have key : ∀ xs, lstOf μ e = some xs → noDs xs = true → Dp K s.H v (.list xs) ∧ (PyData.list xs).canLay0 = true := fun xs hx hn => by
    obtain ⟨a, vs, rfl, h2, h3⟩ := lst_ok R r hx
    exact ⟨.lst (SqL.of h2) ((h3.mono R.sub).dp hn), by simp [PyData.canLay0, h3.lay hn]⟩
  cases e with
  | dat d' =>
    cases h
    have r' : DR K s.F v d := r
    exact ⟨(r'.mono R.sub).dp hn, r'.lay hn⟩
  | new xs =>
    cases h
    exact key _ rfl (by simpa [noD] using hn)
  | loc n =>
    have h' : (lstOf μ (.loc n)).map PyData.list = some d := h
    cases q : lstOf μ (.loc n) with
    | none => rw [q] at h'; cases h'
    | some xs =>
      rw [q] at h'
      cases h'
      exact key _ q (by simpa [noD] using hn)
  | raw u => cases h
  | exc x => cases h
  | ro x => cases h
  | newd x => cases h
  | newk x => cases h
/-- a new list is answered -/
theorem ans_new {vs : List V} {ds : List PyData} {q : PQ} {Q : VK} {p : Addr} (R : Rep K s μ) (x : Ext s0 N0 s μ.length) (l : LE K s0 N0 q Q) (hq : q (.new ds) μ) (hd : DRs K s.F vs ds) (hp : s.H p = none) : Q (.ref p) (upd s.H p (.lst vs)) :=
  l (.new ds) μ (.ref p) { s with H := upd s.H p (.lst vs) } hq (x.put R hp) (R.put hp) ⟨p, vs, rfl, upd_same, R.notF hp, R.notL hp, hd⟩ (fun y hy => by cases hy; exact x.fresh R hp)
theorem ans_tup {vs : List V} {ds : List PyData} {q : PQ} {Q : VK} {p : Addr} (R : Rep K s μ) (x : Ext s0 N0 s μ.length) (l : LE K s0 N0 q Q) (hq : q (.dat (.tuple ds)) μ) (hd : DRs K s.F vs ds) (hp : s.H p = none) : Q (.ref p) (upd s.H p (.tup vs)) := by
  have kF : Same s.F (upd s.F p (.tup vs)) := fun a u q => by rw [upd_ne (ne_of_none q (R.notF hp))]; exact q
  exact l (.dat (.tuple ds)) μ (.ref p) { s with H := upd s.H p (.tup vs), F := upd s.F p (.tup vs) } hq (x.putF R hp) (R.putF hp) (.tup upd_same (hd.mono kF)) trivial
theorem ans {d : PyData} {q : PQ} {Q : VK} (R : Rep K s μ) (x : Ext s0 N0 s μ.length) (l : LE K s0 N0 q Q) (hq : q (.dat d) μ) (hd : DR K s.F v d) : Q v s.H := l (.dat d) μ v s hq x R hd trivial
theorem tupR {a : Addr} {vs : List V} {ds : List PyData} (r : VR K s μ.length (.ref a) (.dat (.tuple ds))) : DR K s.F (.ref a) (.tuple ds) := r
end

section
variable {X : Cx}
/-! ### + -/
def oAdd : OD := fun x y μ q => match x, y with
  | .dat (.int i), .dat (.int j) => q (.dat (.int (i + j))) μ
  | .dat (.str a), .dat (.str b) => a.length + b.length ≤ 100000 ∧ q (.dat (.str (a ++ b))) μ
  | .dat (.tuple a), .dat (.tuple b) => a.length + b.length ≤ 100000 ∧ q (.dat (.tuple (a ++ b))) μ
  | x, y => match lstOf μ x, lstOf μ y with
    | some a, some b => a.length + b.length ≤ 100000 ∧ q (.new (a ++ b)) μ
    | _, _ => False
abbrev rAddA (K : PySem.W.Frag) : R2 := fun x y H Q => rI0 (fun i j => V.int (i + j)) x y H Q ∨ ((∃ i j, x = .str i ∧ y = .str j ∧ i.length + j.length ≤ sizeLine ∧ Q (.str (i ++ j)) H) ∨ (rCatA K x y H Q ∨ rCat x y H Q))
theorem opA_add : OpR X (binaryOp .Add) (rAddA X.K) := op_add.or (op_add_str.or (op_catA.or op_cat))
theorem strOk_app {a b : Str} (h1 : PyData.strOk a = true) (h2 : PyData.strOk b = true) : PyData.strOk (a ++ b) = true := by
  unfold PyData.strOk at *
  show (a.cps ++ b.cps).all _ = true
  rw [Array.all_append, h1, h2]
  rfl
theorem os_add {K : PySem.W.Frag} : OpS K (rAddA K) oAdd := by
  intro s0 N0 s μ x y ex ey q Q R xt rx fx ry fy h l
  unfold oAdd at h
  split at h
  · exact .inl ⟨_, _, vr_i rx, vr_i ry, ans R xt l h (.int _)⟩
  · have r1 : DR K s.F x _ := rx
    have r2 : DR K s.F y _ := ry
    cases r1 with
    | str _ h1 =>
      cases r2 with
      | str _ h2 => exact .inr (.inl ⟨_, _, rfl, rfl, line_of h.1, ans R xt l h.2 (.str _ (strOk_app h1 h2))⟩)
  · rename_i a b
    obtain ⟨p, vs, rfl, hp, hv⟩ := tup_ok R rx (e := .dat (.tuple a)) rfl
    obtain ⟨p2, ws, rfl, hp2, hw⟩ := tup_ok R ry (e := .dat (.tuple b)) rfl
    refine .inr (.inr (.inl ⟨_, _, vs, ws, rfl, rfl, hp, hp2, line_of (by rw [hv.length, hw.length]; exact h.1), fun e => ?_, fun _ e => ?_, fun _ _ p3 hp3 => ?_⟩))
    · subst e
      cases hv
      exact ans R xt l h.2 ry
    · subst e
      cases hw
      rw [List.append_nil] at h
      exact ans R xt l h.2 rx
    · exact ans_tup R xt l h.2 (hv.append hw) hp3
  · split at h
    · rename_i a b ha hb
      obtain ⟨p, vs, rfl, hp, hv⟩ := lst_ok R rx ha
      obtain ⟨p2, ws, rfl, hp2, hw⟩ := lst_ok R ry hb
      exact .inr (.inr (.inr ⟨_, _, vs, ws, rfl, rfl, hp, hp2, line_of (by rw [hv.length, hw.length]; exact h.1), fun p3 hp3 => ans_new R xt l h.2 (hv.append hw) hp3⟩))
    · exact h.elim

/-! ### operators of ints -/
def oI (C : Int → Int → Prop) (g : Int → Int → PyData) : OD := fun x y μ q => match x, y with
  | .dat (.int i), .dat (.int j) => C i j ∧ q (.dat (g i j)) μ
  | _, _ => False
theorem os_I {K : PySem.W.Frag} {C : Int → Int → Prop} {g : Int → Int → V} {g' : Int → Int → PyData} (hg : ∀ F i j, DR K F (g i j) (g' i j)) : OpS K (rI C g) (oI C g') := by
  intro s0 N0 s μ x y ex ey q Q R xt rx fx ry fy h l
  unfold oI at h
  split at h
  · exact ⟨_, _, vr_i rx, vr_i ry, h.1, ans R xt l h.2 (hg _ _ _)⟩
  · exact h.elim
def oI0 (g : Int → Int → PyData) : OD := fun x y μ q => match x, y with
  | .dat (.int i), .dat (.int j) => q (.dat (g i j)) μ
  | _, _ => False
theorem os_I0 {K : PySem.W.Frag} {g : Int → Int → V} {g' : Int → Int → PyData} (hg : ∀ F i j, DR K F (g i j) (g' i j)) : OpS K (rI0 g) (oI0 g') := by
  intro s0 N0 s μ x y ex ey q Q R xt rx fx ry fy h l
  unfold oI0 at h
  split at h
  · exact ⟨_, _, vr_i rx, vr_i ry, ans R xt l h (hg _ _ _)⟩
  · exact h.elim
abbrev oSub : OD := oI0 fun i j => .int (i - j)
theorem os_sub {K : PySem.W.Frag} : OpS K (rI0 fun i j => V.int (i - j)) oSub := os_I0 fun _ _ _ => .int _
abbrev oMod : OD := oI (fun _ j => 0 < j) fun i j => .int (i % j)
theorem os_mod {K : PySem.W.Frag} : OpS K (rI (fun _ j => 0 < j) fun i j => V.int (i % j)) oMod := os_I fun _ _ _ => .int _
abbrev oDiv : OD := oI CDiv fun i j => .int (i / j)
theorem os_div {K : PySem.W.Frag} : OpS K (rI CDiv fun i j => V.int (i / j)) oDiv := os_I fun _ _ _ => .int _
abbrev oPow : OD := oI CPow fun i j => .int (i ^ j.toNat)
theorem os_pow {K : PySem.W.Frag} : OpS K (rI CPow fun i j => V.int (i ^ j.toNat)) oPow := os_I fun _ _ _ => .int _
abbrev oShl : OD := oI CPow fun i j => .int (i * 2 ^ j.toNat)
theorem os_shl {K : PySem.W.Frag} : OpS K (rI CPow fun i j => V.int (i * 2 ^ j.toNat)) oShl := os_I fun _ _ _ => .int _
abbrev oShr : OD := oI (fun _ j => 0 ≤ j) fun i j => .int (i / 2 ^ j.toNat)
theorem os_shr {K : PySem.W.Frag} : OpS K (rI (fun _ j => 0 ≤ j) fun i j => V.int (i / 2 ^ j.toNat)) oShr := os_I fun _ _ _ => .int _
abbrev oAnd : OD := oI0 fun i j => .int (Builtin.bitAnd i j)
theorem os_and {K : PySem.W.Frag} : OpS K (rI0 fun i j => V.int (Builtin.bitAnd i j)) oAnd := os_I0 fun _ _ _ => .int _
abbrev oOr : OD := oI0 fun i j => .int (Builtin.bitOr i j)
theorem os_or {K : PySem.W.Frag} : OpS K (rI0 fun i j => V.int (Builtin.bitOr i j)) oOr := os_I0 fun _ _ _ => .int _
abbrev oXor : OD := oI0 fun i j => .int (Builtin.bitXor i j)
theorem os_xor {K : PySem.W.Frag} : OpS K (rI0 fun i j => V.int (Builtin.bitXor i j)) oXor := os_I0 fun _ _ _ => .int _
def oNeg : UD := fun x μ q => match x with
  | .dat (.int i) => q (.dat (.int (-i))) μ
  | _ => False
theorem us_neg {K : PySem.W.Frag} : UnS K (rU fun i => V.int (-i)) oNeg := by
  intro s0 N0 s μ x ex q Q R xt rx fx h l
  unfold oNeg at h
  split at h
  · exact ⟨_, vr_i rx, ans R xt l h (.int _)⟩
  · exact h.elim
def oInv : UD := fun x μ q => match x with
  | .dat (.int i) => q (.dat (.int (Builtin.bitNot i))) μ
  | _ => False
theorem us_inv {K : PySem.W.Frag} : UnS K (rU fun i => V.int (Builtin.bitNot i)) oInv := by
  intro s0 N0 s μ x ex q Q R xt rx fx h l
  unfold oInv at h
  split at h
  · exact ⟨_, vr_i rx, ans R xt l h (.int _)⟩
  · exact h.elim
/-! ### * -/
def oMul : OD := fun x y μ q => match x, y with
  | .dat (.int i), .dat (.int j) => CMul i j ∧ q (.dat (.int (i * j))) μ
  | .dat (.tuple a), .dat (.int k) => (a ≠ [] ∧ 2 ≤ k ∧ k ≤ 1000 ∧ a.length ≤ 1000) ∧ q (.dat (.tuple (List.replicate k.toNat a).flatten)) μ
  | x, .dat (.int k) => match lstOf μ x with
    | some a => (-1000 ≤ k ∧ k ≤ 1000 ∧ a.length ≤ 1000) ∧ q (.new (List.replicate k.toNat a).flatten) μ
    | none => False
  | _, _ => False
abbrev rMulA (K : PySem.W.Frag) : R2 := fun x y H Q => rI CMul (fun i j => V.int (i * j)) x y H Q ∨ (rRepT K x y H Q ∨ rRep x y H Q)
theorem opA_mul : OpR X (binaryOp .Mult) (rMulA X.K) := op_mul.or (op_repT.or op_rep)
theorem DRs.rep {K : PySem.W.Frag} {F : Hp} {vs : List V} {ds : List PyData} (h : DRs K F vs ds) : ∀ k : Nat, DRs K F (List.replicate k vs).flatten (List.replicate k ds).flatten
  | 0 => .nil
  | k + 1 => by
    rw [List.replicate_succ, List.replicate_succ, List.flatten_cons, List.flatten_cons]
    exact h.append (h.rep k)
theorem os_mul {K : PySem.W.Frag} : OpS K (rMulA K) oMul := by
  intro s0 N0 s μ x y ex ey q Q R xt rx fx ry fy h l
  unfold oMul at h
  split at h
  · exact .inl ⟨_, _, vr_i rx, vr_i ry, h.1, ans R xt l h.2 (.int _)⟩
  · rename_i a k
    obtain ⟨p, vs, rfl, hp, hv⟩ := tup_ok R rx (e := .dat (.tuple a)) rfl
    obtain ⟨⟨h1, h2, h3, h4⟩, h⟩ := h
    exact .inr (.inl ⟨_, _, vs, rfl, vr_i ry, hp, fun e => h1 (by subst e; cases hv; rfl), h2, h3, by rw [hv.length]; exact h4, fun p3 hp3 => ans_tup R xt l h (hv.rep _) hp3⟩)
  · rename_i k _ _
    split at h
    · rename_i a ha
      obtain ⟨p, vs, rfl, hp, hv⟩ := lst_ok R rx ha
      obtain ⟨⟨h1, h2, h4⟩, h⟩ := h
      refine .inr (.inr ⟨_, _, vs, rfl, vr_i ry, hp, by omega, by omega, Nat.le_trans ?_ (show 1000 * 1000 ≤ sizeLine by decide), fun p3 hp3 => ans_new R xt l h (hv.rep _) hp3⟩)
      rw [hv.length]
      have : k.toNat ≤ 1000 := by omega
      exact Nat.mul_le_mul h4 this
    · exact h.elim
  · exact h.elim

/-! ### comparisons -/
def scalD : PyData → PyData → Bool
  | .list _, _ => false
  | .tuple _, _ => false
  | .dict _, _ => false
  | _, .list _ => false
  | _, .tuple _ => false
  | _, .dict _ => false
  | _, _ => true
def oEq : OD := fun x y μ q => match datOf μ x, datOf μ y with
  | some d, some e => (noD d = true ∧ noD e = true) ∧ min d.depth e.depth ≤ 64 ∧ q (.dat (.bool (PyData.eqv d e))) μ
  | _, _ => False
def oNe : OD := fun x y μ q => match datOf μ x, datOf μ y with
  | some d, some e => (noD d = true ∧ noD e = true) ∧ min d.depth e.depth ≤ 64 ∧ q (.dat (.bool (!PyData.eqv d e))) μ
  | _, _ => False
abbrev rEqR (K : PySem.W.Frag) : R2 := fun x y H Q => ∃ d e, Dp K H x d ∧ Dp K H y e ∧ d.canLay0 = true ∧ e.canLay0 = true ∧ min d.depth e.depth ≤ 64 ∧ Q (.bl (PyData.eqv d e)) H
abbrev rNeR (K : PySem.W.Frag) : R2 := fun x y H Q => ∃ d e, Dp K H x d ∧ Dp K H y e ∧ d.canLay0 = true ∧ e.canLay0 = true ∧ min d.depth e.depth ≤ 64 ∧ Q (.bl (!PyData.eqv d e)) H
theorem opA_eq (hu : X.A.units + 64 < cLine) : OpR X (compareOp .Eq) (rEqR X.K) := by
  intro pins s σ H x y v u Q I rx ry h
  obtain ⟨d, e, hd, he, sd, se, hm, q⟩ := h
  obtain ⟨as, r1⟩ := Dp.reads I d x v hd rx
  obtain ⟨bs, r2⟩ := Dp.reads I e y u he ry
  exact SeqAt.compareEq_reads r1 r2 sd se (by omega) ⟨.bl _, H, I, rfl, q⟩
theorem opA_ne (hu : X.A.units + 64 < cLine) : OpR X (compareOp .NotEq) (rNeR X.K) := by
  intro pins s σ H x y v u Q I rx ry h
  obtain ⟨d, e, hd, he, sd, se, hm, q⟩ := h
  obtain ⟨as, r1⟩ := Dp.reads I d x v hd rx
  obtain ⟨bs, r2⟩ := Dp.reads I e y u he ry
  exact SeqAt.compareNe_reads r1 r2 sd se (by omega) ⟨.bl _, H, I, rfl, q⟩
theorem os_eq {K : PySem.W.Frag} : OpS K (rEqR K) oEq := by
  intro s0 N0 s μ x y ex ey q Q R xt rx fx ry fy h l
  unfold oEq at h
  split at h
  · rename_i d e hd he
    obtain ⟨⟨n1, n2⟩, h⟩ := h
    obtain ⟨a1, a2⟩ := dat_ok R rx hd n1
    obtain ⟨b1, b2⟩ := dat_ok R ry he n2
    exact ⟨d, e, a1, b1, a2, b2, h.1, ans R xt l h.2 (.bl _)⟩
  · exact h.elim
theorem os_ne {K : PySem.W.Frag} : OpS K (rNeR K) oNe := by
  intro s0 N0 s μ x y ex ey q Q R xt rx fx ry fy h l
  unfold oNe at h
  split at h
  · rename_i d e hd he
    obtain ⟨⟨n1, n2⟩, h⟩ := h
    obtain ⟨a1, a2⟩ := dat_ok R rx hd n1
    obtain ⟨b1, b2⟩ := dat_ok R ry he n2
    exact ⟨d, e, a1, b1, a2, b2, h.1, ans R xt l h.2 (.bl _)⟩
  · exact h.elim
abbrev oLt : OD := oI0 fun i j => .bool (decide (i < j))
theorem os_lt {K : PySem.W.Frag} : OpS K (rI0 fun i j => V.bl (decide (i < j))) oLt := os_I0 fun _ _ _ => .bl _
abbrev oLe : OD := oI0 fun i j => .bool (decide (i ≤ j))
theorem os_le {K : PySem.W.Frag} : OpS K (rI0 fun i j => V.bl (decide (i ≤ j))) oLe := os_I0 fun _ _ _ => .bl _
abbrev oGt : OD := oI0 fun i j => .bool (decide (j < i))
theorem os_gt {K : PySem.W.Frag} : OpS K (rI0 fun i j => V.bl (decide (j < i))) oGt := os_I0 fun _ _ _ => .bl _
abbrev oGe : OD := oI0 fun i j => .bool (decide (j ≤ i))
theorem os_ge {K : PySem.W.Frag} : OpS K (rI0 fun i j => V.bl (decide (j ≤ i))) oGe := os_I0 fun _ _ _ => .bl _
/-- is None -/
def isNon : EV → Bool
  | .dat .none => true
  | _ => false
def isRaw : EV → Bool
  | .raw _ => true
  | _ => false
def oIsN : OD := fun x y μ q => isRaw x = false ∧ isNon y = true ∧ q (.dat (.bool (isNon x))) μ
def oNotN : OD := fun x y μ q => isRaw x = false ∧ isNon y = true ∧ q (.dat (.bool (!isNon x))) μ
theorem non_iff {K : PySem.W.Frag} {s : Wd} {μ : Mu} {v : V} {e : EV} (r : VR K s μ.length v e) (h : isRaw e = false) : decide (v = .non) = isNon e := by
  cases e with
  | dat d =>
    have r' : DR K s.F v d := r
    cases r' <;> rfl
  | loc n => obtain ⟨_, rfl⟩ := r; rfl
  | new xs => obtain ⟨p, vs, rfl, _⟩ := r; rfl
  | raw u => cases h
  | exc x => obtain ⟨a, _, rfl, _⟩ := r; rfl
  | ro x => obtain ⟨a, vs, rfl, _⟩ := r; rfl
  | newd x => obtain ⟨a, vs, rfl, _⟩ := r; rfl
  | newk x => obtain ⟨a, vs, rfl, _⟩ := r; rfl
theorem isNon_ok {K : PySem.W.Frag} {s : Wd} {μ : Mu} {v : V} {e : EV} (r : VR K s μ.length v e) (h : isNon e = true) : v = .non := by
  unfold isNon at h
  split at h
  · exact vr_n r
  · cases h
theorem os_isN {K : PySem.W.Frag} : OpS K (fun x y H Q => y = .non ∧ Q (.bl (decide (x = .non))) H) oIsN := by
  intro s0 N0 s μ x y ex ey q Q R xt rx fx ry fy h l
  obtain ⟨h1, h2, h3⟩ := h
  refine ⟨isNon_ok ry h2, ?_⟩
  rw [non_iff rx h1]
  exact ans R xt l h3 (.bl _)
theorem os_notN {K : PySem.W.Frag} : OpS K (fun x y H Q => y = .non ∧ Q (.bl (!decide (x = .non))) H) oNotN := by
  intro s0 N0 s μ x y ex ey q Q R xt rx fx ry fy h l
  obtain ⟨h1, h2, h3⟩ := h
  refine ⟨isNon_ok ry h2, ?_⟩
  rw [non_iff rx h1]
  exact ans R xt l h3 (.bl _)
/-- one sign within a text -/
def oInSign (neg : Bool) : OD := fun x y μ q => match x, y with
  | .dat (.str a), .dat (.str z) => ∃ c, a = ⟨#[c]⟩ ∧ q (.dat (.bool (if neg then !decide (c ∈ z.cps.toList) else decide (c ∈ z.cps.toList)))) μ
  | _, _ => False
theorem os_inSign {K : PySem.W.Frag} : OpS K (fun x y H Q => ∃ (c : Nat) (z : Str), x = .str ⟨#[c]⟩ ∧ y = .str z ∧ Q (.bl (decide (c ∈ z.cps.toList))) H) (oInSign false) := by
  intro s0 N0 s μ x y ex ey q Q R xt rx fx ry fy h l
  unfold oInSign at h
  split at h
  · obtain ⟨c, rfl, h⟩ := h
    exact ⟨c, _, vr_s rx, vr_s ry, ans R xt l h (.bl _)⟩
  · exact h.elim
theorem os_notInSign {K : PySem.W.Frag} : OpS K (fun x y H Q => ∃ (c : Nat) (z : Str), x = .str ⟨#[c]⟩ ∧ y = .str z ∧ Q (.bl (!decide (c ∈ z.cps.toList))) H) (oInSign true) := by
  intro s0 N0 s μ x y ex ey q Q R xt rx fx ry fy h l
  unfold oInSign at h
  split at h
  · obtain ⟨c, rfl, h⟩ := h
    exact ⟨c, _, vr_s rx, vr_s ry, ans R xt l h (.bl _)⟩
  · exact h.elim

/-! ### subscripts, slices -/
def oIx : OD := fun x y μ q => match y with
  | .dat (.int i) => match x with
    | .dat (.str z) => z.length ≤ 100000 ∧ ∃ c, atI z.cps.toList i = some c ∧ q (.dat (.str ⟨#[c]⟩)) μ
    | x => match seqOf μ x with
      | some ds => ∃ d, atI ds i = some d ∧ q (.dat d) μ
      | none => False
  | _ => False
theorem atI_len {α β : Type} {xs : List α} {ys : List β} (h : xs.length = ys.length) {i : Int} {y : β} (e : atI ys i = some y) : ∃ j, ixN xs.length i = some j ∧ ys[j]? = some y := by
  unfold atI at e
  rw [h]
  cases q : ixN ys.length i with
  | none => rw [q] at e; cases e
  | some j => rw [q] at e; exact ⟨j, rfl, e⟩
theorem DRs.atI {K : PySem.W.Frag} {F : Hp} {vs : List V} {ds : List PyData} {i : Int} {d : PyData} (h : DRs K F vs ds) (e : L2.atI ds i = some d) : ∃ v, L2.atI vs i = some v ∧ DR K F v d := by
  obtain ⟨j, h1, h2⟩ := atI_len h.length e
  obtain ⟨v, h3, h4⟩ := h.get h2
  refine ⟨v, ?_, h4⟩
  unfold L2.atI
  rw [h1]
  exact h3
theorem strOk_at {z : Str} {c : Nat} (h : PyData.strOk z = true) (hc : c ∈ z.cps.toList) : PyData.strOk ⟨#[c]⟩ = true := by
  unfold PyData.strOk at *
  rw [Array.all_eq_true_iff_forall_mem] at h
  have := h c (by simpa using hc)
  simpa using this
theorem atI_mem {α : Type} {xs : List α} {i : Int} {c : α} (h : L2.atI xs i = some c) : c ∈ xs := by
  unfold L2.atI at h
  cases q : ixN xs.length i with
  | none => rw [q] at h; cases h
  | some j => rw [q] at h; exact List.mem_of_getElem? h
theorem os_ix {K : PySem.W.Frag} : OpS K (rIx K) oIx := by
  intro s0 N0 s μ x y ex ey q Q R xt rx fx ry fy h l
  unfold oIx at h
  split at h
  · split at h
    · obtain ⟨hz, c, hc, h⟩ := h
      have r1 : DR K s.F x _ := rx
      cases r1 with
      | str _ h1 => exact .inr (.inr ⟨_, _, c, rfl, vr_i ry, line_of hz, hc, ans R xt l h (.str _ (strOk_at h1 (atI_mem hc)))⟩)
    · split at h
      · rename_i ds hds
        obtain ⟨d, hd, h⟩ := h
        obtain ⟨a, vs, rfl, hs, hv⟩ := seq_ok R rx hds
        obtain ⟨v, h1, h2⟩ := hv.atI hd
        rcases hs with hs | hs
        · exact .inl ⟨_, vs, _, v, rfl, vr_i ry, hs, h1, ans R xt l h h2⟩
        · exact .inr (.inl ⟨_, vs, _, v, rfl, vr_i ry, hs, h1, ans R xt l h h2⟩)
      · exact h.elim
  · exact h.elim
def cutD (ds : List PyData) (lo hi : Option Int) : List PyData := (ds.drop (HT.sIx ds.length 0 lo)).take (HT.sIx ds.length ds.length hi - HT.sIx ds.length 0 lo)
theorem DRs.cut {K : PySem.W.Frag} {F : Hp} {vs : List V} {ds : List PyData} (h : DRs K F vs ds) (lo hi : Option Int) : DRs K F (cutV vs lo hi) (cutD ds lo hi) := by
  unfold cutV cutD
  rw [h.length]
  exact (h.drop _).take _
abbrev rSlAny (K : PySem.W.Frag) : V → Option Int → Option Int → Hp → VK → Prop := fun x lo hi H Q => rSlL K x lo hi H Q ∨ (rSlA K x lo hi H Q ∨ rSlS x lo hi H Q)
theorem slA : SlR X (rSlAny X.K) := sl_list.or (sl_tupA.or sl_str)
def oSl : SD := fun x lo hi μ q => match x with
  | .dat (.str z) => z.length ≤ 100000 ∧ q (.dat (.str (cutS z lo hi))) μ
  | .dat (.tuple ds) => q (.dat (.tuple (cutD ds lo hi))) μ
  | .ro ds => q (.new (cutD ds lo hi)) μ
  | x => match lstOf μ x with
    | some ds => q (.new (cutD ds lo hi)) μ
    | none => False
theorem cutD_whole {ds : List PyData} {lo hi : Option Int} (h1 : HT.sIx ds.length 0 lo = 0) (h2 : HT.sIx ds.length ds.length hi = ds.length) : cutD ds lo hi = ds := by
  unfold cutD
  rw [h1, h2]
  simp
theorem strOk_cut {z : Str} {lo hi : Option Int} (h : PyData.strOk z = true) : PyData.strOk (cutS z lo hi) = true := by
  unfold PyData.strOk cutS at *
  rw [Array.all_eq_true_iff_forall_mem] at *
  intro c hc
  refine h c ?_
  have h1 : c ∈ (z.cps.toList.drop (HT.sIx z.length 0 lo)).take (HT.sIx z.length z.length hi - HT.sIx z.length 0 lo) := by simpa using hc
  exact Array.mem_toList_iff.mp (List.mem_of_mem_drop (List.mem_of_mem_take h1))
theorem os_sl {K : PySem.W.Frag} : SlS K (rSlAny K) oSl := by
  intro s0 N0 s μ x ex lo hi q Q R xt rx fx h l
  unfold oSl at h
  split at h
  · have r1 : DR K s.F x _ := rx
    cases r1 with
    | str _ h1 => exact .inr (.inr ⟨_, rfl, line_of h.1, ans R xt l h.2 (.str _ (strOk_cut h1))⟩)
  · rename_i ds
    obtain ⟨p, vs, rfl, hp, hv⟩ := tup_ok R rx (e := .dat (.tuple ds)) rfl
    refine .inr (.inl ⟨p, vs, rfl, hp, fun e => ?_, fun _ p3 hp3 => ans_tup R xt l h (hv.cut lo hi) hp3⟩)
    rw [hv.length] at e
    rw [cutD_whole e.1 e.2] at h
    exact ans R xt l h rx
  · obtain ⟨p, vs, rfl, hp, hv⟩ := rx
    exact .inl ⟨p, vs, rfl, R.sub.seq hp, fun p3 hp3 => ans_new R xt l h (hv.cut lo hi) hp3⟩
  · split at h
    · rename_i ds hds
      obtain ⟨p, vs, rfl, hp, hv⟩ := lst_ok R rx hds
      exact .inl ⟨p, vs, rfl, SqL.of hp, fun p3 hp3 => ans_new R xt l h (hv.cut lo hi) hp3⟩
    · exact h.elim

/-! ### built-ins -/
/-- len -/
def oLen : CD := fun es μ q => match es with
  | [.dat (.str z)] => z.length ≤ 100000 ∧ q (.dat (.int z.length)) μ
  | [e] => match seqOf μ e with
    | some ds => q (.dat (.int ds.length)) μ
    | none => False
  | _ => False
theorem cs_len {K : PySem.W.Frag} : CallS K (fun xs H Q => ∃ x n, xs = [x] ∧ LenV K x H n ∧ Q (.int n) H) oLen := by
  intro s0 N0 s μ xs es q Q R xt r h l
  unfold oLen at h
  split at h
  · cases r with
    | cons rx fx rr =>
      cases rr
      exact ⟨_, _, rfl, by rw [vr_s rx]; exact ⟨line_of h.1, rfl⟩, ans R xt l h.2 (.int _)⟩
  · cases r with
    | cons rx fx rr =>
      cases rr
      split at h
      · rename_i ds hds
        obtain ⟨a, vs, rfl, hs, hv⟩ := seq_ok R rx hds
        refine ⟨_, ds.length, rfl, ?_, ans R xt l h (.int _)⟩
        rcases hs with hs | hs
        · exact .inl ⟨vs, hs, hv.length.symm⟩
        · exact .inr ⟨vs, hs, hv.length.symm⟩
      · exact h.elim
  · exact h.elim
/-- list(x), tuple(x) of a list or a tuple -/
def oList : CD := fun es μ q => match es with
  | [e] => match seqOf μ e with
    | some ds => q (.new ds) μ
    | none => False
  | _ => False
theorem cs_list {K : PySem.W.Frag} : CallS K (fun xs H Q => ∃ p ys, xs = [.ref p] ∧ (SqL K H p ys ∨ SqT K H p ys) ∧ ∀ l, H l = none → Q (.ref l) (upd H l (.lst ys))) oList := by
  intro s0 N0 s μ xs es q Q R xt r h l
  unfold oList at h
  split at h
  · cases r with
    | cons rx fx rr =>
      cases rr
      split at h
      · rename_i ds hds
        obtain ⟨a, vs, rfl, hs, hv⟩ := seq_ok R rx hds
        exact ⟨a, vs, rfl, hs, fun p hp => ans_new R xt l h hv hp⟩
      · exact h.elim
  · exact h.elim
def oTuple : CD := fun es μ q => match es with
  | [e] => match seqOf μ e with
    | some ds => q (.dat (.tuple ds)) μ
    | none => False
  | _ => False
theorem cs_tuple {K : PySem.W.Frag} : CallS K (fun xs H Q => ∃ p ys, xs = [.ref p] ∧ ((SqL K H p ys ∧ ∀ l, H l = none → Q (.ref l) (upd H l (.tup ys))) ∨ (SqT K H p ys ∧ Q (.ref p) H))) oTuple := by
  intro s0 N0 s μ xs es q Q R xt r h l
  unfold oTuple at h
  split at h
  · rename_i e
    cases r with
    | cons rx fx rr =>
      cases rr
      unfold seqOf at h
      cases ht : tupOf e with
      | some ds =>
        rw [ht] at h
        obtain ⟨a, vs, rfl, hs, hv⟩ := tup_ok R rx ht
        have : e = .dat (.tuple ds) := by
          unfold tupOf at ht
          split at ht
          · cases ht; rfl
          · cases ht
        subst this
        exact ⟨a, vs, rfl, .inr ⟨hs, ans R xt l h rx⟩⟩
      | none =>
        rw [ht] at h
        cases hr : roOf e with
        | some ds =>
          rw [hr] at h
          cases e with
          | ro ys =>
            cases hr
            obtain ⟨a, vs, rfl, hs, hv⟩ := rx
            exact ⟨a, vs, rfl, .inl ⟨R.sub.seq hs, fun p hp => ans_tup R xt l h hv hp⟩⟩
          | _ => cases hr
        | none =>
        rw [hr] at h
        cases hl : lstOf μ e with
        | none => rw [hl] at h; exact h.elim
        | some ds =>
          rw [hl] at h
          obtain ⟨a, vs, rfl, hs, hv⟩ := lst_ok R rx hl
          exact ⟨a, vs, rfl, .inl ⟨SqL.of hs, fun p hp => ans_tup R xt l h hv hp⟩⟩
  · exact h.elim
/-- max, min of two -/
def oMax2 : CD := fun es μ q => match es with
  | [.dat (.int i), .dat (.int j)] => q (.dat (.int (if j > i then j else i))) μ
  | _ => False
def oMin2 : CD := fun es μ q => match es with
  | [.dat (.int i), .dat (.int j)] => q (.dat (.int (if j < i then j else i))) μ
  | _ => False
theorem cs_max2 {K : PySem.W.Frag} : CallS K (fun xs H Q => ∃ i j, xs = [.int i, .int j] ∧ Q (.int (if j > i then j else i)) H) oMax2 := by
  intro s0 N0 s μ xs es q Q R xt r h l
  unfold oMax2 at h
  split at h
  · cases r with
    | cons rx fx rr =>
      cases rr with
      | cons ry fy rr =>
        cases rr
        exact ⟨_, _, by rw [vr_i rx, vr_i ry], ans R xt l h (.int _)⟩
  · exact h.elim
theorem cs_min2 {K : PySem.W.Frag} : CallS K (fun xs H Q => ∃ i j, xs = [.int i, .int j] ∧ Q (.int (if j < i then j else i)) H) oMin2 := by
  intro s0 N0 s μ xs es q Q R xt r h l
  unfold oMin2 at h
  split at h
  · cases r with
    | cons rx fx rr =>
      cases rr with
      | cons ry fy rr =>
        cases rr
        exact ⟨_, _, by rw [vr_i rx, vr_i ry], ans R xt l h (.int _)⟩
  · exact h.elim
/-- all, any of a list of truths -/
def boolsOf : List PyData → Option (List Bool)
  | [] => some []
  | .bool b :: r => (boolsOf r).map (b :: ·)
  | _ :: _ => none
theorem bools_map (bs : List Bool) : boolsOf (bs.map .bool) = some bs := by
  induction bs with
  | nil => rfl
  | cons b r ih => show (boolsOf (r.map .bool)).map _ = _; rw [ih]; rfl
theorem bools_ok {K : PySem.W.Frag} {F : Hp} : ∀ {vs : List V} {ds : List PyData} {bs : List Bool}, DRs K F vs ds → boolsOf ds = some bs → vs = bs.map V.bl
  | _, _, _, .nil, h => by cases h; rfl
  | _, _, _, .cons (ds := ds) r rs, h => by
    cases r with
    | bl b =>
      unfold boolsOf at h
      cases q : boolsOf ds with
      | none => rw [q] at h; cases h
      | some cs =>
        rw [q] at h
        cases h
        rw [bools_ok rs q]
        rfl
    | _ => cases h
def oAll (f : List Bool → Bool) : CD := fun es μ q => match es with
  | [e] => match lstOf μ e with
    | some ds => match boolsOf ds with
      | some bs => q (.dat (.bool (f bs))) μ
      | none => False
    | none => False
  | _ => False
theorem cs_all {K : PySem.W.Frag} : CallS K (rAll K) (oAll fun bs => bs.all id) := by
  intro s0 N0 s μ xs es q Q R xt r h l
  unfold oAll at h
  split at h
  · cases r with
    | cons rx fx rr =>
      cases rr
      split at h
      · rename_i ds hds
        split at h
        · rename_i bs hbs
          obtain ⟨a, vs, rfl, hs, hv⟩ := lst_ok R rx hds
          obtain rfl := bools_ok hv hbs
          exact ⟨a, bs, rfl, SqL.of hs, ans R xt l h (.bl _)⟩
        · exact h.elim
      · exact h.elim
  · exact h.elim
theorem cs_any {K : PySem.W.Frag} : CallS K (rAny K) (oAll fun bs => bs.any id) := by
  intro s0 N0 s μ xs es q Q R xt r h l
  unfold oAll at h
  split at h
  · cases r with
    | cons rx fx rr =>
      cases rr
      split at h
      · rename_i ds hds
        split at h
        · rename_i bs hbs
          obtain ⟨a, vs, rfl, hs, hv⟩ := lst_ok R rx hds
          obtain rfl := bools_ok hv hbs
          exact ⟨a, bs, rfl, SqL.of hs, ans R xt l h (.bl _)⟩
        · exact h.elim
      · exact h.elim
  · exact h.elim
/-- sum of ints -/
def intsOf : List PyData → Option (List Int)
  | [] => some []
  | .int b :: r => (intsOf r).map (b :: ·)
  | _ :: _ => none
theorem ints_map (bs : List Int) : intsOf (bs.map .int) = some bs := by
  induction bs with
  | nil => rfl
  | cons b r ih => show (intsOf (r.map .int)).map _ = _; rw [ih]; rfl
theorem ints_ok {K : PySem.W.Frag} {F : Hp} : ∀ {vs : List V} {ds : List PyData} {bs : List Int}, DRs K F vs ds → intsOf ds = some bs → vs = bs.map V.int
  | _, _, _, .nil, h => by cases h; rfl
  | _, _, _, .cons (ds := ds) r rs, h => by
    cases r with
    | int b =>
      unfold intsOf at h
      cases q : intsOf ds with
      | none => rw [q] at h; cases h
      | some cs =>
        rw [q] at h
        cases h
        rw [ints_ok rs q]
        rfl
    | _ => cases h
def oSum : CD := fun es μ q => match es with
  | [e] => match lstOf μ e with
    | some ds => match intsOf ds with
      | some bs => q (.dat (.int bs.sum)) μ
      | none => False
    | none => False
  | _ => False
theorem cs_sum {K : PySem.W.Frag} : CallS K (rSum K) oSum := by
  intro s0 N0 s μ xs es q Q R xt r h l
  unfold oSum at h
  split at h
  · cases r with
    | cons rx fx rr =>
      cases rr
      split at h
      · rename_i ds hds
        split at h
        · rename_i bs hbs
          obtain ⟨a, vs, rfl, hs, hv⟩ := lst_ok R rx hds
          obtain rfl := ints_ok hv hbs
          exact ⟨a, bs, rfl, SqL.of hs, ans R xt l h (.int _)⟩
        · exact h.elim
      · exact h.elim
  · exact h.elim
/-- isinstance with a built-in class -/
def tyOf : PyData → String
  | .none => "NoneType"
  | .bool _ => "bool"
  | .int _ => "int"
  | .str _ => "str"
  | .list _ => "list"
  | .tuple _ => "tuple"
  | .dict _ => "dict"
def tyE (μ : Mu) : EV → String
  | .dat d => tyOf d
  | .new _ => "list"
  | .newd _ => "dict"
  | .newk _ => "dict"
  | .loc n => match μ[n]? with
    | some (.lst _) => "list"
    | some (.frz _) => "list"
    | some (.dct _) => "dict"
    | some (.dck _) => "dict"
    | _ => ""
  | _ => ""
def isT (a b : String) : Bool := a == b || (a == "bool" && b == "int")
def oIsi : CD := fun es μ q => match es with
  | [e, .raw (.ty b)] => (tyE μ e ∈ ["NoneType", "bool", "int", "str", "list", "tuple", "dict"] ∧ b ∈ ["bool", "int", "str", "list", "tuple", "dict"]) ∧ q (.dat (.bool (isT (tyE μ e) b))) μ
  | _ => False
/-- a value's class; a locked dict too -/
def TyY (K : PySem.W.Frag) (H : Hp) (x : V) (t : Value) : Prop := TyX K H x t ∨ ∃ (a : Addr) (o : Obj) (kvs : List (List Key × V)), x = .ref a ∧ H a = some (.frz o (.dT kvs)) ∧ t = .type "dict"
def rIsiY (K : PySem.W.Frag) : List V → Hp → VK → Prop := fun xs H Q => ∃ (x c : V) (t u : Value) (b : Bool), xs = [x, c] ∧ ClsV c u ∧ TyY K H x t ∧ PySem.W.kitOne K t u = some b ∧ Q (.bl b) H
theorem call_isiY {X : Cx} : CallR X (.builtin "isinstance") (rIsiY X.K) := by
  intro pins s σ H xs us Q I r h
  obtain ⟨x, c, t, u, b, rfl, k, ty, e, q⟩ := h
  rcases ty with ty | ⟨a, ob, kvs, rfl, ea, rfl⟩
  · exact call_isi pins s σ H _ us Q I r ⟨x, c, t, u, b, rfl, k, ty, e, q⟩
  · obtain ⟨u1, u2, rfl, r1, r2⟩ := vals2 r
    have e2 := k.eq r2
    subst e2
    cases (show u1 = Value.ref a from r1)
    obtain ⟨_, _, _, xs, _, o, es, ep, h1, h2, _⟩ := (show ObjOk X.prog X.w H s.heap a (.frz ob (.dT kvs)) from I.hok a _ ea)
    exact PySem.W.kia_one PySem.W.kitx_dict I.kIn (show ∃ o, _ from ⟨o, h1, h2.1⟩) e (fun z => nomatch z) fun tk => ⟨.bl b, H, I.tok tk, rfl, q⟩
theorem ty_ok {K : PySem.W.Frag} {s : Wd} {μ : Mu} {v : V} {e : EV} (R : Rep K s μ) (r : VR K s μ.length v e) (h : tyE μ e ∈ ["NoneType", "bool", "int", "str", "list", "tuple", "dict"]) : TyY K s.H v (.type (tyE μ e)) := by
  cases e with
  | dat d =>
    have r' : DR K s.F v d := r
    cases r' with
    | non => exact .inl (.base .non)
    | bl b => exact .inl (.base (.bl b))
    | int i => exact .inl (.base (.int i))
    | str x _ => exact .inl (.base (.str x))
    | lst h1 _ => exact .inl (.base (.lst (R.sub _ _ h1)))
    | tup h1 _ => exact .inl (.base (.tup (R.sub _ _ h1)))
    | dcT h1 _ _ _ => exact .inr ⟨_, _, _, rfl, R.sub _ _ h1, rfl⟩
    | dcK h1 _ _ _ _ => exact .inl (.fDict (R.sub _ _ h1))
  | new xs => obtain ⟨p, vs, rfl, a2, _⟩ := r; exact .inl (.base (.lst a2))
  | loc n =>
    obtain ⟨hn, rfl⟩ := r
    unfold tyE at h ⊢
    simp only at h ⊢
    cases hc : μ[n]? with
    | none => rw [hc] at h; simp at h
    | some c =>
      rw [hc] at h
      have C := R.cell n c hc
      cases c with
      | lst xs => obtain ⟨_, vs, a2, _⟩ := C; exact .inl (.base (.lst a2))
      | frz xs => obtain ⟨vs, a2, _⟩ := C; exact .inl (.base (.lst (R.sub _ _ a2)))
      | dct kvs =>
        obtain ⟨_, ks, a2, _⟩ := C
        exact .inl (.base (.dT a2))
      | dck kvs =>
        obtain ⟨_, ks, a2, _⟩ := C
        exact .inl (.base (.dK a2))
      | abs _ => simp at h
      | dead => simp at h
  | raw u => simp [tyE] at h
  | exc x => simp [tyE] at h
  | ro x => simp [tyE] at h
  | newd x => obtain ⟨p, vs, rfl, a2, _⟩ := r; exact .inl (.base (.dT a2))
  | newk x => obtain ⟨p, vs, rfl, a2, _⟩ := r; exact .inl (.base (.dK a2))
theorem kit_all : ∀ a ∈ ["NoneType", "bool", "int", "str", "list", "tuple", "dict"], ∀ b ∈ ["bool", "int", "str", "list", "tuple", "dict"], kitB a b = some (isT a b) := by decide +kernel
theorem cs_isi {K : PySem.W.Frag} : CallS K (rIsiY K) oIsi := by
  intro s0 N0 s μ xs es q Q R xt r h l
  unfold oIsi at h
  split at h
  · rename_i e b
    cases r with
    | cons rx fx rr =>
      cases rr with
      | cons ry fy rr =>
        cases rr
        have ry' : _ = V.ty b := ry
        subst ry'
        exact ⟨_, _, _, _, _, rfl, .ty b, ty_ok R rx h.1.1, kit_ty (kit_all _ h.1.1 _ h.1.2), ans R xt l h.2 (.bl _)⟩
  · exact h.elim

/-! ### what is walked -/
/-- a list, a tuple, or a text -/
def iSeq (t : TDE) : TDI := fun η μ r E => t η μ (fun e μ1 => match e with
  | .loc n => match μ1[n]? with
    | some (.lst xs) => r (xs.map .dat) (fun μ => μ[n]? = some (.lst xs) ∨ μ[n]? = some (.frz xs)) μ1
    | some (.frz xs) => r (xs.map .dat) (fun _ => True) μ1
    | _ => False
  | .dat (.tuple xs) => r (xs.map .dat) (fun _ => True) μ1
  | .dat (.list xs) => r (xs.map .dat) (fun _ => True) μ1
  | .new xs => r (xs.map .dat) (fun _ => True) μ1
  | .dat (.str z) => r (z.cps.toList.map fun c => .dat (.str ⟨#[c]⟩)) (fun _ => True) μ1
  | .ro xs => r (xs.map .dat) (fun _ => True) μ1
  | _ => False) E
theorem walkL {K : PySem.W.Frag} {s0 : Wd} {N0 : Nat} {a : Addr} {xs : List PyData} {G : Mu → Prop} (hd : ∀ s μ, Ext s0 N0 s μ.length → Rep K s μ → G μ → ∃ vs, SqL K s.H a vs ∧ DRs K s.F vs xs) : WalkS K (Itl K a) s0 N0 (xs.map .dat) G := by
  intro n s μ x R g
  obtain ⟨vs, h1, h2⟩ := hd s μ x R g
  have hl := h2.length
  refine ⟨fun hn => ?_, ⟨vs, h1, by simp [hl]⟩, fun v H' hn hy => ?_⟩
  · have hn' : n < vs.length := by simpa [hl] using hn
    exact ⟨vs, vs[n], h1, by simp [hn']⟩
  · obtain ⟨e1, e2⟩ := hy
    obtain ⟨d, h3, h4⟩ := h2.getV (e2 vs h1)
    exact ⟨s, .dat d, e1.symm, by rw [List.getElem?_map, h3]; rfl, rfl, Ext.refl _ _, R, h4⟩
theorem walkT {K : PySem.W.Frag} {s0 : Wd} {N0 : Nat} {a : Addr} {vs : List V} {xs : List PyData} {G : Mu → Prop} (hd : ∀ s μ, Ext s0 N0 s μ.length → Rep K s μ → G μ → SqT K s.H a vs ∧ DRs K s.F vs xs) : WalkS K (Itt K a) s0 N0 (xs.map .dat) G := by
  intro n s μ x R g
  obtain ⟨h1, h2⟩ := hd s μ x R g
  have hl := h2.length
  refine ⟨fun hn => ?_, ⟨vs, h1, by simp [hl]⟩, fun v H' hn hy => ?_⟩
  · have hn' : n < vs.length := by simpa [hl] using hn
    exact ⟨vs, vs[n], h1, by simp [hn']⟩
  · obtain ⟨e1, e2⟩ := hy
    obtain ⟨d, h3, h4⟩ := h2.getV (e2 vs h1)
    exact ⟨s, .dat d, e1.symm, by rw [List.getElem?_map, h3]; rfl, rfl, Ext.refl _ _, R, h4⟩
theorem walkZ {K : PySem.W.Frag} {s0 : Wd} {N0 : Nat} {z : Str} {F : Hp} {v0 : V} (r0 : DR K F v0 (.str z)) {G : Mu → Prop} : WalkS K (Its z) s0 N0 (z.cps.toList.map fun c => .dat (.str ⟨#[c]⟩)) G := by
  have hz : PyData.strOk z = true := by cases r0; assumption
  intro n s μ x R g
  refine ⟨fun hn => (by simpa using hn : n < z.cps.size), ?_, fun v H' hn hy => ?_⟩
  · show z.cps.size ≤ _
    simp
  · obtain ⟨e1, c, hc, rfl⟩ := hy
    have hc' : z.cps.toList[n]? = some c := by simpa using hc
    refine ⟨s, .dat (.str ⟨#[c]⟩), e1.symm, by rw [List.getElem?_map, hc']; rfl, rfl, Ext.refl _ _, R, .str _ (strOk_at hz (List.mem_of_getElem? hc'))⟩
/-- the reading of what is walked: a list, a tuple, a text, as it comes -/
def iAny (K : PySem.W.Frag) (tl : TE) : TI := fun σ H R => tl σ H fun x H1 => (∃ a xs, x = .ref a ∧ SqL K H1 a xs ∧ R (Itl K a) H1) ∨ (∃ a xs, x = .ref a ∧ SqT K H1 a xs ∧ R (Itt K a) H1) ∨ ∃ z, x = .str z ∧ R (Its z) H1
theorem pi_any {X : Cx} {tg le : Expr} {tl : TE} (hp : PE X le tl) : PI X tg le (iAny X.K tl) := by
  refine ⟨fun pins s0 σ H R I hw => thn (hp.run pins s0 σ H _ I hw) fun v s1 hv => ?_⟩
  obtain ⟨x, H1, I1, r1, ⟨a, xs, rfl, hq, q⟩ | ⟨a, xs, rfl, hq, q⟩ | ⟨z, rfl, q⟩⟩ := hv
  · obtain rfl : v = Value.ref a := r1
    obtain ⟨its, rv, p, hz⟩ := I1.list hq
    exact wpAny_pyIter_list p.isList (pi_one (J := Itl X.K a) (tk := s1.toks) I1 _ (turn_list a _) ⟨_, Heap.get?_push_size _ rfl, rfl, rfl⟩ q)
  · obtain rfl : v = Value.ref a := r1
    obtain ⟨its, rv, p, hz⟩ := I1.tuple hq
    exact wpAny_pyIter_tuple (show s1.heap.IsTuple a its.toArray from p) (pi_one (J := Itt X.K a) (tk := s1.toks) I1 _ (turn_tuple a _) ⟨_, Heap.get?_push_size _ rfl, rfl, rfl⟩ q)
  · obtain ⟨t, rfl⟩ := r1
    cases hall : z.cps.all (· < 128) with
    | false => exact wpAny_pyIter_wide hall (pi_one (J := Its z) (tk := s1.toks) I1 _ (turn_str _ z t "str_iterator" (.inr rfl)) ⟨_, Heap.get?_push_size _ rfl, rfl, rfl⟩ q)
    | true => exact wpAny_pyIter_ascii hall (pi_one (J := Its z) (tk := s1.toks) I1 _ (turn_str _ z t "str_ascii_iterator" (.inl rfl)) ⟨_, Heap.get?_push_size _ rfl, rfl, rfl⟩ q)
theorem di_seq {X : Cx} {W : WX} {tg e : Expr} {te : TDE} (h : DE X W e te) : DI X W tg e (iSeq te) := by
  obtain ⟨t, p, g⟩ := h.ex
  refine ⟨_, pi_any p, fun s σ η μ R r E S hq l lx => g s σ η μ _ _ E S hq (fun ev μ1 v s1 hk x1 R1 rv fv => ?_) lx⟩
  cases ev with
  | dat d =>
    have rd : DR X.K s1.F v d := rv
    cases rd with
    | lst h1 h2 => exact .inl ⟨_, _, rfl, SqL.of (R1.sub _ _ h1), l _ _ _ μ1 s1 hk x1 R1 (walkL fun s2 μ2 x R2 _ => ⟨_, SqL.of (R2.sub _ _ (x.f _ _ h1)), h2.mono x.f⟩)⟩
    | tup h1 h2 => exact .inr (.inl ⟨_, _, rfl, SqT.of (R1.sub _ _ h1), l _ _ _ μ1 s1 hk x1 R1 (walkT fun s2 μ2 x R2 _ => ⟨SqT.of (R2.sub _ _ (x.f _ _ h1)), h2.mono x.f⟩)⟩)
    | str z hz => exact .inr (.inr ⟨z, rfl, l _ _ _ μ1 s1 hk x1 R1 (walkZ (F := s1.F) (.str z hz))⟩)
    | _ => exact hk.elim
  | new xs =>
    obtain ⟨p, vs, rfl, a1, a2, a3, a4⟩ := rv
    refine .inl ⟨p, vs, rfl, SqL.of a1, l _ _ (fun _ => True) μ1 s1 hk x1 R1 (walkL fun s2 μ2 x R2 _ => ⟨_, SqL.of (x.keep _ _ a1 a3), a4.mono x.f⟩)⟩
  | loc n =>
    obtain ⟨hn, rfl⟩ := rv
    cases hc : μ1[n]? with
    | none => simp only [hc] at hk
    | some c =>
      simp only [hc] at hk
      have C := R1.cell n c hc
      cases c with
      | lst xs =>
        obtain ⟨_, vs, a1, a2⟩ := C
        refine .inl ⟨_, vs, rfl, SqL.of a1, l _ _ _ μ1 s1 hk x1 R1 (walkL fun s2 μ2 x R2 g => ?_)⟩
        rw [← x.l n hn]
        rcases g with g | g
        · obtain ⟨_, ws, b1, b2⟩ := R2.cell n _ g
          exact ⟨ws, SqL.of b1, b2⟩
        · obtain ⟨ws, b1, b2⟩ := R2.cell n _ g
          exact ⟨ws, SqL.of (R2.sub _ _ b1), b2⟩
      | frz xs =>
        obtain ⟨vs, a1, a2⟩ := C
        exact .inl ⟨_, vs, rfl, SqL.of (R1.sub _ _ a1), l _ _ _ μ1 s1 hk x1 R1 (walkL fun s2 μ2 x R2 _ => ⟨_, SqL.of (R2.sub _ _ (x.f _ _ a1)), a2.mono x.f⟩)⟩
      | dct _ => exact hk.elim
      | dck _ => exact hk.elim
      | abs _ => exact hk.elim
      | dead => exact hk.elim
  | raw u => exact hk.elim
  | exc x => exact hk.elim
  | newd x => exact hk.elim
  | newk x => exact hk.elim
  | ro xs =>
    obtain ⟨a, vs, rfl, h1, h2⟩ := rv
    exact .inl ⟨a, vs, rfl, R1.sub.seq h1, l _ _ _ μ1 s1 hk x1 R1 (walkL fun s2 μ2 x R2 _ => ⟨_, R2.sub.seq (x.f.seq h1), h2.mono x.f⟩)⟩
end
end DL

set_option Elab.async false
set_option linter.all false
set_option maxRecDepth 100000
set_option maxHeartbeats 4000000
namespace DL
open PySem L2 PyProof.Rows

/-! ### range -/
def rngItems (lo : Int) (n : Nat) : List EV := (List.range n).map fun k => .dat (.int (lo + (k : Nat)))
theorem walkR {K : PySem.W.Frag} {s0 : Wd} {N0 : Nat} {lo : Int} {n : Nat} {G : Mu → Prop} : WalkS K (Itr lo n) s0 N0 (rngItems lo n) G := by
  intro m s μ x R g
  refine ⟨fun hn => (by simpa [rngItems] using hn : m < n), ?_, fun v H' hn hy => ?_⟩
  · show n ≤ _
    simp [rngItems]
  · obtain ⟨e1, rfl⟩ := hy
    have hn' : m < n := by simpa [rngItems] using hn
    refine ⟨s, .dat (.int (lo + (m : Nat))), e1.symm, by simp [rngItems, hn'], rfl, Ext.refl _ _, R, .int _⟩
def iRange1 (t : TDA) : TDI := fun η μ r E => t η μ (fun es μ1 => match es with
  | [.dat (.int j)] => (-1000000 ≤ j ∧ j ≤ 1000000) ∧ r (rngItems 0 j.toNat) (fun _ => True) μ1
  | _ => False) E
def iRange2 (t : TDA) : TDI := fun η μ r E => t η μ (fun es μ1 => match es with
  | [.dat (.int i), .dat (.int j)] => (-1000000 ≤ i ∧ i ≤ 1000000 ∧ -1000000 ≤ j ∧ j ≤ 1000000) ∧ r (rngItems i (j - i).toNat) (fun _ => True) μ1
  | _ => False) E
section
variable {X : Cx} {W : WX} {tg a b : Expr} {t : TDA} {p pos : Pos}
theorem di_range1 (hg : Gl X "range") (hm : X.mg "range" = none) (ha : DA X W [a] t) (hs : starEach [a] X.env = [(false, eval a X.env)] := by rfl) : DI X W tg (.Call (.Name "range" p) [a] [] pos) (iRange1 t) := by
  obtain ⟨t1, p1, g1⟩ := ha.ex
  refine ⟨_, pi_range1 hg hm p1 hs, fun s σ η μ R r E S hq l lx => g1 s σ η μ _ _ E S hq (fun es μ1 vs s1 hk x1 R1 rv => ?_) lx⟩
  split at hk
  · cases rv with
    | cons rx fx rr =>
      cases rr
      obtain ⟨⟨h1, h2⟩, hk⟩ := hk
      exact ⟨_, by rw [vr_i rx], by omega, by omega, l _ _ _ μ1 s1 hk x1 R1 walkR⟩
  · exact hk.elim
theorem di_range2 (hg : Gl X "range") (hm : X.mg "range" = none) (ha : DA X W [a, b] t) (hs : starEach [a, b] X.env = [(false, eval a X.env), (false, eval b X.env)] := by rfl) (hs2 : starEach [b] X.env = [(false, eval b X.env)] := by rfl) : DI X W tg (.Call (.Name "range" p) [a, b] [] pos) (iRange2 t) := by
  obtain ⟨t1, p1, g1⟩ := ha.ex
  refine ⟨_, pi_range2 hg hm p1 hs hs2, fun s σ η μ R r E S hq l lx => g1 s σ η μ _ _ E S hq (fun es μ1 vs s1 hk x1 R1 rv => ?_) lx⟩
  split at hk
  · cases rv with
    | cons rx fx rr =>
      cases rr with
      | cons ry fy rr =>
        cases rr
        obtain ⟨⟨h1, h2, h3, h4⟩, hk⟩ := hk
        exact ⟨_, _, by rw [vr_i rx, vr_i ry], ⟨by omega, by omega, by omega, by omega⟩, l _ _ _ μ1 s1 hk x1 R1 walkR⟩
  · exact hk.elim
end

/-! ### methods of built-in types -/
abbrev MD := EV → List EV → Mu → PQ → Prop
def MtS (K : PySem.W.Frag) (r : V → List V → Hp → VK → Prop) (o : MD) : Prop := ∀ (s0 : Wd) (N0 : Nat) (s : Wd) (μ : Mu) (x : V) (xs : List V) (ex : EV) (es : List EV) (q : PQ) (Q : VK), Rep K s μ → Ext s0 N0 s μ.length → VR K s μ.length x ex → Frsh s0.H x ex → VRs K s μ.length s0.H xs es →
  o ex es μ q → LE K s0 N0 q Q → r x xs s.H Q
/-- the receiver's type -/
def RcS (K : PySem.W.Frag) (T : String) (ty : EV → Mu → Prop) : Prop := ∀ (s : Wd) (μ : Mu) (x : V) (ex : EV), Rep K s μ → VR K s μ.length x ex → ty ex μ → tyV K T x s.H
def isStrE : EV → Mu → Prop := fun e _ => match e with
  | .dat (.str _) => True
  | _ => False
def isLstE : EV → Mu → Prop := fun e μ => (lstOf μ e).isSome = true
def isDctE : EV → Mu → Prop := fun e μ => match e with
  | .loc n => match μ[n]? with
    | some (.dct _) => True
    | some (.dck _) => True
    | _ => False
  | _ => False
theorem rc_str {K : PySem.W.Frag} : RcS K "str" isStrE := by
  intro s μ x ex R r h
  unfold isStrE at h
  split at h
  · rw [vr_s r]
    exact rfl
  · exact h.elim
theorem rc_lst {K : PySem.W.Frag} : RcS K "list" isLstE := by
  intro s μ x ex R r h
  unfold isLstE at h
  obtain ⟨ds, hds⟩ := Option.isSome_iff_exists.mp h
  obtain ⟨a, vs, rfl, h1, h2⟩ := lst_ok R r hds
  exact .inl ⟨rfl, vs, SqL.of h1⟩
theorem rc_dct {K : PySem.W.Frag} : RcS K "dict" isDctE := by
  intro s μ x ex R r h
  unfold isDctE at h
  split at h
  · rename_i n
    obtain ⟨hn, rfl⟩ := r
    split at h
    · rename_i kvs hc
      obtain ⟨_, ks, a2, _⟩ := R.cell n _ hc
      exact .inr (.inr (.inl ⟨rfl, .inr ⟨_, a2⟩⟩))
    · rename_i kvs hc
      obtain ⟨_, ks, a2, _⟩ := R.cell n _ hc
      exact .inr (.inr (.inl ⟨rfl, .inl ⟨_, a2⟩⟩))
    · exact h.elim
  · exact h.elim
def dBM (ty : EV → Mu → Prop) (o : MD) (to : TDE) (t : TDA) : TDE := fun η μ q E => to η μ (fun x μ1 => ty x μ1 ∧ t η μ1 (fun es μ2 => o x es μ2 q) E) E
def dBM0 (ty : EV → Mu → Prop) (o : MD) (to : TDE) : TDE := fun η μ q E => to η μ (fun x μ1 => ty x μ1 ∧ o x [] μ1 q) E
section
variable {X : Cx} {W : WX} {eo e : Expr} {es : List Expr} {to : TDE} {t : TDA} {name : Str} {apos cpos : Pos} {T id : String} {r : V → List V → Hp → VK → Prop} {ty : EV → Mu → Prop} {o : MD}
theorem de_bm (pa : PlainAttrs T) (slot : Slot T name id) (hty : typeOf (.builtin id) = pure (.type "method_descriptor")) (hm : MtR X id r) (rc : RcS X.K T ty) (ms : MtS X.K r o) (ho : DE X W eo to) (ha : DA X W (e :: es) t)
    (hbase : attributeBase eo name X.env (eval eo X.env) = eval eo X.env := by rfl)
    (hfew : ((backTo cpos (starEach (e :: es) X.env)).all (fun x => !x.1) && (backToKw cpos (keywordEach [] X.env)).all (fun x => x.1.isSome)
      && decide ((e :: es).length + ([] : List Keyword).length + (if ([] : List Keyword).isEmpty then 0 else 1) < 30)) = true := by rfl)
    (hline : (apos.endLine == cpos.line) = true := by rfl) (hs : starEach (e :: es) X.env = (false, eval e X.env) :: starEach es X.env := by rfl) (hplain : (backTo cpos (starEach es X.env)).any (·.1) = false := by rfl) :
    DE X W (.Call (.Attribute eo name apos) (e :: es) [] cpos) (dBM ty o to t) := by
  obtain ⟨t1, p1, g1⟩ := ho.ex
  obtain ⟨t2, p2, g2⟩ := ha.ex
  refine de_pe (pe_bm pa slot hty hm p1 p2 hbase hfew hline hs hplain) fun s σ η μ Q q E S hq l lx => g1 s σ η μ _ _ E S hq (fun ex μ1 x s1 hk1 x1 R1 r1 f1 => ?_) lx
  refine ⟨rc s1 μ1 x ex R1 r1 hk1.1, g2 s1 σ η μ1 _ _ E (S.go x1 R1) hk1.2 (fun es' μ2 vs s2 hk2 x2 R2 r2 => ?_) (lx.go x1 R1)⟩
  have h1 := fun n (hn : n < μ1.length) => R1.here hn
  exact ms s _ s2 μ2 x vs ex es' q Q R2 (x1.trans x2 h1) (r1.ext x2) f1 (r2.back x1 h1) hk2 l
theorem de_bm0 (pa : PlainAttrs T) (slot : Slot T name id) (hty : typeOf (.builtin id) = pure (.type "method_descriptor")) (hm : MtR X id r) (rc : RcS X.K T ty) (ms : MtS X.K r o) (ho : DE X W eo to)
    (hbase : attributeBase eo name X.env (eval eo X.env) = eval eo X.env := by rfl) (hline : (apos.endLine == cpos.line) = true := by rfl) : DE X W (.Call (.Attribute eo name apos) [] [] cpos) (dBM0 ty o to) := by
  obtain ⟨t1, p1, g1⟩ := ho.ex
  exact de_pe (pe_bm0 pa slot hty hm p1 hbase hline) fun s σ η μ Q q E S hq l lx => g1 s σ η μ _ _ E S hq (fun ex μ1 x s1 hk1 x1 R1 r1 f1 => ⟨rc s1 μ1 x ex R1 r1 hk1.1, ms s _ s1 μ1 x [] ex [] q Q R1 x1 r1 f1 .nil hk1.2 l⟩) lx
end
/-! join -/
def strsOf : List PyData → Option (List Str)
  | [] => some []
  | .str b :: r => (strsOf r).map (b :: ·)
  | _ :: _ => none
theorem strs_map (bs : List Str) : strsOf (bs.map .str) = some bs := by
  induction bs with
  | nil => rfl
  | cons b r ih => show (strsOf (r.map .str)).map _ = _; rw [ih]; rfl
theorem strs_ok {K : PySem.W.Frag} {F : Hp} : ∀ {vs : List V} {ds : List PyData} {bs : List Str}, DRs K F vs ds → strsOf ds = some bs → vs = bs.map V.str ∧ ∀ b ∈ bs, PyData.strOk b = true
  | _, _, _, .nil, h => by cases h; exact ⟨rfl, fun _ h => nomatch h⟩
  | _, _, _, .cons (ds := ds) r rs, h => by
    cases r with
    | str b hb =>
      unfold strsOf at h
      cases q : strsOf ds with
      | none => rw [q] at h; cases h
      | some cs =>
        rw [q] at h
        cases h
        obtain ⟨e, h2⟩ := strs_ok rs q
        rw [e]
        exact ⟨rfl, fun c hc => (List.mem_cons.mp hc).elim (fun e => by rw [e]; exact hb) (h2 c)⟩
    | _ => cases h
theorem strOk_join {a : Str} (ha : PyData.strOk a = true) : ∀ {ys : List Str}, (∀ b ∈ ys, PyData.strOk b = true) → PyData.strOk (Str.join a ys) = true
  | [], _ => by show PyData.strOk Str.empty = true; decide +kernel
  | [x], h => h x (by simp)
  | x :: y :: r, h => by
    show PyData.strOk (x ++ a ++ Str.join a (y :: r)) = true
    exact strOk_app (strOk_app (h x (by simp)) ha) (strOk_join ha fun b hb => h b (List.mem_cons_of_mem _ hb))
def oJoin : MD := fun x es μ q => match x, es with
  | .dat (.str a), [e] => match seqOf μ e with
    | some ds => match strsOf ds with
      | some ys => (ys.map (·.length)).sum + ys.length * a.length ≤ 100000 ∧ q (.dat (.str (Str.join a ys))) μ
      | none => False
    | none => False
  | _, _ => False
abbrev rJoin (K : PySem.W.Frag) : V → List V → Hp → VK → Prop := fun x xs H Q => ∃ a p, ∃ ys : List Str, x = .str a ∧ xs = [.ref p] ∧ (SqL K H p (ys.map V.str) ∨ SqT K H p (ys.map V.str)) ∧
    (ys.map (·.length)).sum + ys.length * a.length ≤ 16777216 ∧ Q (.str (Txt.join a ys)) H
theorem ms_join {K : PySem.W.Frag} : MtS K (rJoin K) oJoin := by
  intro s0 N0 s μ x xs ex es q Q R xt rx fx r h l
  unfold oJoin at h
  split at h
  · cases r with
    | cons ry fy rr =>
      cases rr
      split at h
      · rename_i ds hds
        split at h
        · rename_i ys hys
          obtain ⟨a, vs, rfl, hs, hv⟩ := seq_ok R ry hds
          obtain ⟨rfl, hok⟩ := strs_ok hv hys
          have rx' : DR K s.F x _ := rx
          cases rx' with
          | str _ hz =>
            refine ⟨_, _, ys, rfl, rfl, hs, by omega, ?_⟩
            rw [TL.join_eq]
            exact ans R xt l h.2 (.str _ (strOk_join hz hok))
        · exact h.elim
      · exact h.elim
  · exact h.elim
/-! ### lists that change -/
theorem mut_ok {K : PySem.W.Frag} {s0 s : Wd} {N0 n : Nat} {μ : Mu} {xs ys : List PyData} {ws : List V} (R : Rep K s μ) (x : Ext s0 N0 s μ.length) (hn : μ[n]? = some (.lst xs)) (hd : DRs K s.F ws ys) :
    Rep K { s with H := upd s.H (s.L n) (.lst ws) } (μ.set n (.lst ys)) ∧ Ext s0 N0 { s with H := upd s.H (s.L n) (.lst ws) } (μ.set n (.lst ys)).length := by
  obtain ⟨hf, vs, hp, hv⟩ := R.cell n _ hn
  have hlt := (List.getElem?_eq_some_iff.mp hn).1
  refine ⟨⟨fun a o q => ?_, fun m c q => ?_, fun i j hi hj => R.inj i j (by simpa using hi) (by simpa using hj)⟩, ⟨x.f, x.l, by rw [List.length_set]; exact x.le, fun a o q hL => ?_, x.fnew, fun i h1 h2 => x.lnew i h1 (by simpa using h2)⟩⟩
  · have q' : s.F a = some o := q
    show upd s.H (s.L n) (.lst ws) a = some o
    rw [upd_ne (ne_of_none q' hf)]
    exact R.sub a o q'
  · by_cases hm : n = m
    · subst hm
      rw [List.getElem?_set_self hlt] at q
      cases q
      exact ⟨hf, ws, upd_same, hd⟩
    · rw [List.getElem?_set_ne hm] at q
      have ne : s.L m ≠ s.L n := fun z => hm (R.inj m n (List.getElem?_eq_some_iff.mp q).1 hlt z).symm
      have C := R.cell m c q
      cases c with
      | lst xs => obtain ⟨h1, vs, h2, h3⟩ := C; exact ⟨h1, vs, (upd_ne ne).trans h2, h3⟩
      | frz xs => exact C
      | dct kvs =>
        obtain ⟨h1, ks, h2, h3, h4⟩ := C
        exact ⟨h1, ks, (upd_ne ne).trans h2, h3, h4⟩
      | dck kvs =>
        obtain ⟨h1, ks, h2, h3, h4⟩ := C
        exact ⟨h1, ks, (upd_ne ne).trans h2, h3, h4⟩
      | abs P => obtain ⟨xs, hP, h1, vs, h2, h3⟩ := C; exact ⟨xs, hP, h1, vs, (upd_ne ne).trans h2, h3⟩
      | dead =>
        show upd s.H (s.L n) (.lst ws) (s.L m) ≠ none
        rw [upd_ne ne]
        exact C
  · have q' := x.keep a o q hL
    show upd s.H (s.L n) (.lst ws) a = some o
    have ne : a ≠ s.L n := fun z => by
      by_cases h : n < N0
      · exact hL n h ((x.l n h).symm.trans z.symm)
      · have := x.lnew n (Nat.le_of_not_lt h) hlt
        rw [← z, q] at this
        cases this
    rw [upd_ne ne]
    exact q'
def withL (μ : Mu) (e : EV) (k : Nat → List PyData → Prop) : Prop := match e with
  | .loc n => match μ[n]? with
    | some (.lst xs) => k n xs
    | _ => False
  | _ => False
theorem withL_ex {μ : Mu} {e : EV} {k : Nat → List PyData → Prop} (h : withL μ e k) : ∃ n xs, e = .loc n ∧ μ[n]? = some (.lst xs) ∧ k n xs := by
  unfold withL at h
  split at h
  · split at h
    · exact ⟨_, _, rfl, by assumption, h⟩
    · exact h.elim
  · exact h.elim
def oAppend : MD := fun x es μ q => withL μ x fun n xs => match es with
  | [.dat d] => xs.length < 100000 ∧ q (.dat .none) (μ.set n (.lst (xs ++ [d])))
  | _ => False
theorem line_lt {n : Nat} (h : n < 100000) : n < sizeLine := Nat.lt_of_lt_of_le h (by decide)
theorem ms_append {K : PySem.W.Frag} : MtS K rAppend oAppend := by
  intro s0 N0 s μ x xs ex es q Q R xt rx fx r h l
  obtain ⟨n, ys, rfl, hn, h⟩ := withL_ex h
  obtain ⟨hlt, rfl⟩ := rx
  split at h
  · cases r with
    | cons ry fy rr =>
      cases rr
      obtain ⟨hf, vs, hp, hv⟩ := R.cell n _ hn
      obtain ⟨a1, a2⟩ := mut_ok R xt hn (hv.append (.cons ry .nil))
      exact ⟨_, vs, _, rfl, rfl, hp, line_lt (by rw [hv.length]; exact h.1), l (.dat .none) _ .non _ h.2 a2 a1 .non trivial⟩
  · exact h.elim
/-- xs[i] = v -/
def oSetL : SetD := fun x y z μ q => withL μ x fun n xs => match y, z with
  | .dat (.int k), .dat d => ∃ j, ixN xs.length k = some j ∧ q (μ.set n (.lst (xs.set j d)))
  | _, _ => False
theorem ss_list {K : PySem.W.Frag} : SetS K rSetL oSetL := by
  intro s0 N0 s μ x y z ex ey ez q Q R xt rx ry rz h l
  obtain ⟨n, ys, rfl, hn, h⟩ := withL_ex h
  obtain ⟨hlt, rfl⟩ := rx
  split at h
  · obtain ⟨j, hj, h⟩ := h
    obtain ⟨hf, vs, hp, hv⟩ := R.cell n _ hn
    obtain ⟨a1, a2⟩ := mut_ok R xt hn (hv.set rz j)
    exact ⟨_, vs, _, j, rfl, vr_i ry, hp, by rw [hv.length]; exact hj, l _ _ h a2 a1⟩
  · exact h.elim
end DL

set_option Elab.async false
set_option linter.all false
set_option maxRecDepth 100000
set_option maxHeartbeats 4000000
namespace DL
open PySem L2 PyProof.Rows
/-! ### words for whole programs -/
/-- a new list, a new dict becomes still, all else is as it is -/
def stlK (q : PQ) : PQ := fun e μ1 => match e with
  | .new xs => q (.dat (.list xs)) μ1
  | .newd kvs => q (.dat (.dict (kvT kvs))) μ1
  | .newk kvs => kvs ≠ [] ∧ q (.dat (.dict (kvK kvs))) μ1
  | e => q e μ1
def dStl (t : TDE) : TDE := fun η μ q E => t η μ (stlK q) E
/-- what is told may be locked for good -/
def tLk (t : TE) : TE := fun σ H Q => t σ H fun v H1 => Q v H1 ∨ ∃ d u, H1 d = some u ∧ Mut (some u) ∧ ∀ od, Q v (upd H1 d (.frz od u))
theorem pe_lk {X : Cx} {e : Expr} {t : TE} (h : PE X e t) : PE X e (tLk t) := by
  refine ⟨fun pins s σ H Q I hw => ?_⟩
  refine thn (h.run pins s σ _ _ I hw) fun v s1 ⟨x, H1, I2, r, q⟩ => ?_
  rcases q with q | ⟨d, u, hd, mu, q⟩
  · exact ⟨x, H1, I2, r, q⟩
  · obtain ⟨od, I3⟩ := I2.lock hd mu
    exact ⟨x, _, I3, r, q od⟩
theorem still_O {K : PySem.W.Frag} {s0 s : Wd} {N0 : Nat} {μ : Mu} {p : Addr} {o : HO} (R : Rep K s μ) (x : Ext s0 N0 s μ.length) (hf : s.F p = none) (hl : ∀ m, m < μ.length → s.L m ≠ p) (h0 : s0.H p = none) :
    Rep K { s with H := upd s.H p o, F := upd s.F p o } μ ∧ Ext s0 N0 { s with H := upd s.H p o, F := upd s.F p o } μ.length ∧ Same s.F (upd s.F p o) := by
  have e : Same s.F (upd s.F p o) := fun y o' q => by rw [upd_ne (ne_of_none q hf)]; exact q
  have R1 := R.poke (o := o) hf hl
  refine ⟨⟨fun a u q => ?_, fun n c q => cell_still (R1.cell n c q) (hl n (List.getElem?_eq_some_iff.mp q).1) hf, R.inj⟩, ⟨fun a u q => e a u (x.f a u q), x.l, x.le, fun a u q hn => ?_, fun a h1 h2 h3 h4 => ?_, x.lnew⟩, e⟩
  · have q' : upd s.F p o a = some u := q
    show upd s.H p o a = some u
    by_cases ha : a = p
    · subst ha
      rw [upd_same] at q' ⊢
      exact q'
    · rw [upd_ne ha] at q' ⊢
      exact R.sub a u q'
  · show upd s.H p o a = some u
    rw [upd_ne (ne_of_none q h0)]
    exact x.keep a u q hn
  · show upd s.F p o a = none
    rw [upd_ne (fun z => h3 (by rw [z]; exact h0))]
    exact x.fnew a h1 h2 h3 h4
section
variable {X : Cx} {W : WX} {e : Expr} {te : TDE} {pos : Pos}
theorem sem_stl {K : PySem.W.Frag} {t : TE} {td : TDE} (g : SemE K W t td) : SemE K W (tLk t) (dStl td) := fun s σ η μ Q q E S hq l lx => g s σ η μ _ _ E S hq (fun e μ' v s' hk x R r f => by
  cases e with
  | new xs =>
    obtain ⟨p, vs, rfl, h1, h2, h3, h4⟩ := r
    obtain ⟨a1, a2, a3⟩ := still_new R x h1 h2 h3 h4 (f p rfl)
    exact .inl (l _ _ _ { s' with F := upd s'.F p (.lst vs) } hk a2 a1 a3 trivial)
  | newd kvs =>
    obtain ⟨p, ks, rfl, h1, h2, h3, h4, h5⟩ := r
    refine .inr ⟨p, _, h1, trivial, fun od => ?_⟩
    obtain ⟨a1, a2, a3⟩ := still_O (o := .frz od (.dT ks)) R x h2 h3 (f p rfl)
    exact l _ _ _ _ hk a2 a1 (.dcT upd_same h4 (h5.mono a3) rfl) trivial
  | newk kvs =>
    obtain ⟨p, ks, rfl, h1, h2, h3, h4, h5⟩ := r
    refine .inr ⟨p, _, h1, trivial, fun od => ?_⟩
    obtain ⟨a1, a2, a3⟩ := still_O (o := .frz od (.dK ks)) R x h2 h3 (f p rfl)
    exact l _ _ _ _ hk.2 a2 a1 (.dcK upd_same h4 (h5.mono a3) rfl hk.1) trivial
  | dat d => exact .inl (l _ _ _ _ hk x R r f)
  | loc d => exact .inl (l _ _ _ _ hk x R r f)
  | raw d => exact .inl (l _ _ _ _ hk x R r f)
  | exc d => exact .inl (l _ _ _ _ hk x R r f)
  | ro d => exact .inl (l _ _ _ _ hk x R r f)) lx
theorem de_stl (h : DE X W e te) : DE X W e (dStl te) := by
  obtain ⟨t, hp, g⟩ := h.ex
  exact de_pe (pe_lk hp) (sem_stl g)
/-- a slot -/
theorem dv (i : Nat) {x : Str} (hN : X.N[i]? = some x := by rfl) (hv : Vis X.env.scope x := by first | exact Or.inl rfl | exact Or.inr (Or.inl rfl) | exact Or.inr (Or.inr rfl)) (hd : (x == ("__debug__" : Str)) = false := by decide)
    (hcd : (x == ("__classdict__" : Str)) = false := by decide) : DE X W (.Name x pos) (dVar i) := de_var (pv i hN hv hd hcd)
/-- a module's constants -/
theorem de_gint {x : Str} {n : Int} (hm : ∃ t, X.mg x = some (.int n t)) (hg : Gl X x := by rfl) (hd : (x == ("__debug__" : Str)) = false := by decide) : DE X W (.Name x pos) (dC (.int n)) := by
  obtain ⟨t, hm⟩ := hm
  exact de_c (pe_glob (v := .int n) hg hm ⟨t, rfl⟩ hd) fun _ _ => .int n
theorem de_gstr {x z : Str} (hm : ∃ t, X.mg x = some (.str z t)) (hz : PyData.strOk z = true := by decide +kernel) (hg : Gl X x := by rfl) (hd : (x == ("__debug__" : Str)) = false := by decide) : DE X W (.Name x pos) (dC (.str z)) := by
  obtain ⟨t, hm⟩ := hm
  exact de_c (pe_glob (v := .str z) hg hm ⟨t, rfl⟩ hd) fun _ _ => .str z hz
/-- a built-in class as a value -/
theorem de_ty {x : Str} {T : String} (hm : X.mg x = none) (hv : bootBuiltins x = some (.type T)) (hg : Gl X x := by rfl) (hn : x ≠ "__name__" := by decide) (hd : (x == ("__debug__" : Str)) = false := by decide) : DE X W (.Name x pos) (dRaw (.ty T)) :=
  de_raw (pe_bltn hg hm hv rfl hn hd)
end
theorem bt_str : bootBuiltins "str" = some (.type "str") := by decide +kernel
theorem bt_int : bootBuiltins "int" = some (.type "int") := by decide +kernel
theorem bt_bool : bootBuiltins "bool" = some (.type "bool") := by decide +kernel
theorem bt_list : bootBuiltins "list" = some (.type "list") := by decide +kernel
theorem bt_tuple : bootBuiltins "tuple" = some (.type "tuple") := by decide +kernel
theorem bt_dict : bootBuiltins "dict" = some (.type "dict") := by decide +kernel
theorem bt_set : bootBuiltins "set" = some (.type "set") := by decide +kernel
theorem bb_len : bootBuiltins "len" = some (.builtin "len") := by decide +kernel
theorem bb_max : bootBuiltins "max" = some (.builtin "max") := by decide +kernel
theorem bb_min : bootBuiltins "min" = some (.builtin "min") := by decide +kernel
theorem bb_all : bootBuiltins "all" = some (.builtin "all") := by decide +kernel
theorem bb_any : bootBuiltins "any" = some (.builtin "any") := by decide +kernel
theorem bb_sum : bootBuiltins "sum" = some (.builtin "sum") := by decide +kernel
theorem bb_abs : bootBuiltins "abs" = some (.builtin "abs") := by decide +kernel
theorem bb_sorted : bootBuiltins "sorted" = some (.builtin "sorted") := by decide +kernel
theorem bb_isinstance : bootBuiltins "isinstance" = some (.builtin "isinstance") := by decide +kernel
theorem bb_divmod : bootBuiltins "divmod" = some (.builtin "divmod") := by decide +kernel

section
variable {P : Program} {w : World} {K : PySem.W.Frag} {mg : Str → Option Value} {base : Heap}
/-- a def by its body, with its contract -/
theorem def_ok {x qual : Str} {st : Stmt} {f : Addr} {fd : FuncData} {N ps : List Str} {k : Nat} {td : TDS} (sp : SpD) (F : Fun K x qual st f fd) (S : FnScope N ps (defScope st)) (hm : mg x = some (.ref f)) (hb : Binds K fd ps [])
    (body : ∀ (cdv : Value) (A : Around) (outer : List Env) (s : Shared) (H : Hp) (E : XK), Room k (A.deeper (envOfC qual (defScope st) s.heap.objs.size f cdv)) →
      Takes (cxOf (L2.CX P w) P w K mg base N qual (defScope st) f cdv A outer s H E) (fun cls d _ H => E cls d H) →
      PassesOwn (model P w) (A.deeper (envOfC qual (defScope st) s.heap.objs.size f cdv)) (envOfC qual (defScope st) s.heap.objs.size f cdv) (cxOf (L2.CX P w) P w K mg base N qual (defScope st) f cdv A outer s H E).xe →
      DSs (cxOf (L2.CX P w) P w K mg base N qual (defScope st) f cdv A outer s H E) (fun cls d _ H => E cls d H) (defBody st) td)
    (h : ∀ (es : List EV) (μ : Mu) (q : PQ) (x : XQ), es.length = ps.length → sp es μ q x → td { nx := fun _ μ' => exitQ μ.length q (.dat .none) μ', rt := exitQ μ.length q } (fun y μ' => x y (μ'.take μ.length)) (startD N es) μ) :
    DefAt P w K mg base x (k + 1) ps [] [] sp :=
  ⟨⟨f, fd, fd_of F S (fun cdv A outer s H E hr => body cdv A outer s H E hr (takes_of rfl rfl rfl rfl) (passes_of rfl)) h, hm, F.kp, hb⟩, .nil⟩
end
theorem tk0 {X : Cx} : Takes X WF := takes0

/-- the law's own contract: the script is handed in, True comes out -/
def spLawD : SpD := fun es μ q _ => ∃ ns : List Int, es = [.ro (ns.map .int)] ∧ ns.length ≤ 63 ∧ μ = [] ∧ ∀ μ', q (.dat (.bool true)) μ'
def spLaw (K : PySem.W.Frag) : Sp := fun vs H Q _ => ∃ (a : Addr) (ns : List Int), vs = [.ref a] ∧ SqL K H a (ns.map V.int) ∧ ns.length ≤ 63 ∧ ∀ H', Q (.bl true) H'
theorem drs_ints {K : PySem.W.Frag} {F : Hp} : ∀ ns : List Int, DRs K F (ns.map V.int) (ns.map .int)
  | [] => .nil
  | n :: r => .cons (.int n) (drs_ints r)
theorem law_sp {K : PySem.W.Frag} {vs : List V} {H : Hp} {Q : VK} {E : XK} (h : spLaw K vs H Q E) : spOf K 1 spLawD vs H Q E := by
  obtain ⟨a, ns, rfl, hs, hl, k⟩ := h
  refine ⟨rfl, ⟨H, fun b => if b = a then H a else none, fun _ => 0⟩, [], [.ro (ns.map .int)], fun e _ => e = .dat (.bool true), fun _ _ => False, rfl, ⟨fun b o q => ?_, fun n c q => by simp at q, fun m n hm => absurd hm (Nat.not_lt_zero _)⟩, .cons ⟨a, ns.map V.int, rfl, ?_, drs_ints ns⟩ .nil, ⟨ns, rfl, hl, rfl, fun _ => rfl⟩, fun e μ' v s' hq x R r f => ?_, fun _ _ _ _ _ z => z.elim⟩
  · have q' : (if b = a then H a else none) = some o := q
    split at q'
    · rename_i e
      rw [e]
      exact q'
    · cases q'
  · rcases hs with (h | ⟨o, h⟩) | h
    · exact .inl (.inl (show (if a = a then H a else none) = _ by rw [if_pos rfl]; exact h))
    · exact .inl (.inr ⟨o, show (if a = a then H a else none) = _ by rw [if_pos rfl]; exact h⟩)
    · exact .inr h
  · subst hq
    rw [vr_b r]
    exact k s'.H
theorem DefAt.law {P : Program} {w : World} {K : PySem.W.Frag} {mg : Str → Option Value} {base : Heap} {k : Nat} {ps : List Str} (D : DefAt P w K mg base "law" k ps [] [] spLawD) (hps : ps.length = 1) {fa : Addr} (hm : mg "law" = some (.ref fa)) :
    ∃ fd : FuncData, FnOk P w K mg base (L2.CX P w) k fa fd ps (spLaw K) := by
  obtain ⟨f, fd, G, h1, h2, h3⟩ := D.ex
  rw [hm] at h1
  cases h1
  rw [hps] at G
  exact ⟨fd, G.imp fun vs H Q E h => law_sp h⟩
end DL

set_option Elab.async false
set_option linter.all false
set_option maxRecDepth 100000
set_option maxHeartbeats 4000000
namespace DL
open PySem L2 PyProof.Rows
/-! ### words for proofs over data readings -/
section
variable {N : Nat} {q : PQ} {μ : Mu}
theorem exitQ_dat {d : PyData} : DL.exitQ N q (.dat d) μ = q (.dat d) (μ.take N) := Eq.trans rfl rfl
theorem exitQ_new {d : List PyData} : DL.exitQ N q (.new d) μ = q (.new d) (μ.take N) := Eq.trans rfl rfl
theorem exitQ_raw {d : V} : DL.exitQ N q (.raw d) μ = q (.raw d) (μ.take N) := Eq.trans rfl rfl
theorem exitQ_loc {n : Nat} : DL.exitQ N q (.loc n) μ = (if n < N then q (.loc n) (μ.take N) else match μ[n]? with
    | some (.lst xs) => q (.new xs) (μ.take N)
    | some (.frz xs) => q (.dat (.list xs)) (μ.take N)
    | some (.dct kvs) => q (.newd kvs) (μ.take N)
    | some (.dck kvs) => q (.newk kvs) (μ.take N)
    | _ => False) := rfl
end
def isIntD : PyData → Bool
  | .int _ => true
  | .bool _ => true
  | _ => false
def isBoolD : PyData → Bool
  | .bool _ => true
  | _ => false
def isStrD : PyData → Bool
  | .str _ => true
  | _ => false
def isListD : PyData → Bool
  | .list _ => true
  | _ => false
def isTupD : PyData → Bool
  | .tuple _ => true
  | _ => false
def isDictD : PyData → Bool
  | .dict _ => true
  | _ => false
section
variable {d : PyData} {q : PQ} {μ : Mu}
theorem isi_int : oIsi [.dat d, .raw (.ty "int")] μ q = q (.dat (.bool (isIntD d))) μ := by
  cases d <;> simp [oIsi, tyE, tyOf, isT, isIntD]
theorem isi_bool : oIsi [.dat d, .raw (.ty "bool")] μ q = q (.dat (.bool (isBoolD d))) μ := by
  cases d <;> simp [oIsi, tyE, tyOf, isT, isBoolD]
theorem isi_str : oIsi [.dat d, .raw (.ty "str")] μ q = q (.dat (.bool (isStrD d))) μ := by
  cases d <;> simp [oIsi, tyE, tyOf, isT, isStrD]
theorem isi_list : oIsi [.dat d, .raw (.ty "list")] μ q = q (.dat (.bool (isListD d))) μ := by
  cases d <;> simp [oIsi, tyE, tyOf, isT, isListD]
theorem isi_tuple : oIsi [.dat d, .raw (.ty "tuple")] μ q = q (.dat (.bool (isTupD d))) μ := by
  cases d <;> simp [oIsi, tyE, tyOf, isT, isTupD]
theorem isi_dict : oIsi [.dat d, .raw (.ty "dict")] μ q = q (.dat (.bool (isDictD d))) μ := by
  cases d <;> simp [oIsi, tyE, tyOf, isT, isDictD]
end
section
variable {q : PQ} {μ : Mu} {z z' : Str} {xs ys : List PyData} {n : Nat} {i j : Int} {x y : EV}
theorem seq_tup : seqOf μ (.dat (.tuple xs)) = some xs := Eq.trans rfl rfl
theorem seq_lst : seqOf μ (.dat (.list xs)) = some xs := Eq.trans rfl rfl
theorem seq_new : seqOf μ (.new xs) = some xs := Eq.trans rfl rfl
theorem seq_ro : seqOf μ (.ro xs) = some xs := Eq.trans rfl rfl
theorem seq_loc : seqOf μ (.loc n) = lstOf μ (.loc n) := Eq.trans rfl rfl
theorem lst_lst : lstOf μ (.dat (.list xs)) = some xs := Eq.trans rfl rfl
theorem lst_new : lstOf μ (.new xs) = some xs := Eq.trans rfl rfl
theorem lst_loc (h : μ[n]? = some (.lst xs)) : lstOf μ (.loc n) = some xs := by simp [lstOf, h]
theorem dat_dat {d : PyData} : datOf μ (.dat d) = some d := Eq.trans rfl rfl
theorem dat_new : datOf μ (.new xs) = some (.list xs) := Eq.trans rfl rfl
theorem dat_loc : datOf μ (.loc n) = (lstOf μ (.loc n)).map .list := Eq.trans rfl rfl
theorem len_str : oLen [.dat (.str z)] μ q = (z.length ≤ 100000 ∧ q (.dat (.int z.length)) μ) := Eq.trans rfl rfl
theorem len_tup : oLen [.dat (.tuple xs)] μ q = q (.dat (.int xs.length)) μ := Eq.trans rfl rfl
theorem len_lst : oLen [.dat (.list xs)] μ q = q (.dat (.int xs.length)) μ := Eq.trans rfl rfl
theorem len_new : oLen [.new xs] μ q = q (.dat (.int xs.length)) μ := Eq.trans rfl rfl
theorem len_ro : oLen [.ro xs] μ q = q (.dat (.int xs.length)) μ := Eq.trans rfl rfl
theorem len_loc (h : μ[n]? = some (.lst xs)) : oLen [.loc n] μ q = q (.dat (.int xs.length)) μ := by simp [oLen, seqOf, tupOf, roOf, lstOf, h]
theorem ix_s : oIx (.dat (.str z)) (.dat (.int i)) μ q = (z.length ≤ 100000 ∧ ∃ c, atI z.cps.toList i = some c ∧ q (.dat (.str ⟨#[c]⟩)) μ) := Eq.trans rfl rfl
theorem ix_tupD : oIx (.dat (.tuple xs)) (.dat (.int i)) μ q = (∃ d, atI xs i = some d ∧ q (.dat d) μ) := Eq.trans rfl rfl
theorem ix_lstD : oIx (.dat (.list xs)) (.dat (.int i)) μ q = (∃ d, atI xs i = some d ∧ q (.dat d) μ) := Eq.trans rfl rfl
theorem ix_new : oIx (.new xs) (.dat (.int i)) μ q = (∃ d, atI xs i = some d ∧ q (.dat d) μ) := Eq.trans rfl rfl
theorem ix_ro : oIx (.ro xs) (.dat (.int i)) μ q = (∃ d, atI xs i = some d ∧ q (.dat d) μ) := Eq.trans rfl rfl
theorem ix_loc (h : μ[n]? = some (.lst xs)) : oIx (.loc n) (.dat (.int i)) μ q = (∃ d, atI xs i = some d ∧ q (.dat d) μ) := by simp [oIx, seqOf, tupOf, roOf, lstOf, h]
theorem at_nn {α : Type} {as : List α} {k : Int} (h : 0 ≤ k) : atI as k = as[k.toNat]? := by
  unfold atI ixN
  rw [if_pos h]
  split
  · rfl
  · rename_i hk
    rw [List.getElem?_eq_none (by omega)]
    rfl
theorem ixN_nn {m : Nat} {k : Int} (h : 0 ≤ k) (h2 : k < m) : ixN m k = some k.toNat := by
  unfold ixN
  rw [if_pos h, if_pos h2]
theorem setL_loc {k : Int} {d : PyData} {q : Mu → Prop} (h : μ[n]? = some (.lst xs)) : oSetL (.loc n) (.dat (.int k)) (.dat d) μ q = (∃ j, ixN xs.length k = some j ∧ q (μ.set n (.lst (xs.set j d)))) := by simp [oSetL, withL, h]
theorem app_loc {d : PyData} (h : μ[n]? = some (.lst xs)) : oAppend (.loc n) [.dat d] μ q = (xs.length < 100000 ∧ q (.dat .none) (μ.set n (.lst (xs ++ [d])))) := by simp [oAppend, withL, h]
theorem add_int : oAdd (.dat (.int i)) (.dat (.int j)) μ q = q (.dat (.int (i + j))) μ := Eq.trans rfl rfl
theorem add_strD : oAdd (.dat (.str z)) (.dat (.str z')) μ q = (z.length + z'.length ≤ 100000 ∧ q (.dat (.str (z ++ z'))) μ) := Eq.trans rfl rfl
theorem add_tup : oAdd (.dat (.tuple xs)) (.dat (.tuple ys)) μ q = (xs.length + ys.length ≤ 100000 ∧ q (.dat (.tuple (xs ++ ys))) μ) := Eq.trans rfl rfl
theorem add_lst (hx : lstOf μ x = some xs) (hy : lstOf μ y = some ys) : oAdd x y μ q = (xs.length + ys.length ≤ 100000 ∧ q (.new (xs ++ ys)) μ) := by
  unfold oAdd
  split
  · cases hx
  · cases hx
  · cases hx
  · rw [hx, hy]
theorem add_ll : oAdd (.dat (.list xs)) (.dat (.list ys)) μ q = (xs.length + ys.length ≤ 100000 ∧ q (.new (xs ++ ys)) μ) := add_lst rfl rfl
theorem add_ln : oAdd (.dat (.list xs)) (.new ys) μ q = (xs.length + ys.length ≤ 100000 ∧ q (.new (xs ++ ys)) μ) := add_lst rfl rfl
theorem add_nl : oAdd (.new xs) (.dat (.list ys)) μ q = (xs.length + ys.length ≤ 100000 ∧ q (.new (xs ++ ys)) μ) := add_lst rfl rfl
theorem add_nn : oAdd (.new xs) (.new ys) μ q = (xs.length + ys.length ≤ 100000 ∧ q (.new (xs ++ ys)) μ) := add_lst rfl rfl
theorem mul_int : oMul (.dat (.int i)) (.dat (.int j)) μ q = (CMul i j ∧ q (.dat (.int (i * j))) μ) := Eq.trans rfl rfl
theorem sl_s {lo hi : Option Int} : oSl (.dat (.str z)) lo hi μ q = (z.length ≤ 100000 ∧ q (.dat (.str (cutS z lo hi))) μ) := Eq.trans rfl rfl
theorem sl_tupD {lo hi : Option Int} : oSl (.dat (.tuple xs)) lo hi μ q = q (.dat (.tuple (cutD xs lo hi))) μ := Eq.trans rfl rfl
theorem sl_lstD {lo hi : Option Int} : oSl (.dat (.list xs)) lo hi μ q = q (.new (cutD xs lo hi)) μ := Eq.trans rfl rfl
theorem sl_new {lo hi : Option Int} : oSl (.new xs) lo hi μ q = q (.new (cutD xs lo hi)) μ := Eq.trans rfl rfl
theorem sl_ro {lo hi : Option Int} : oSl (.ro xs) lo hi μ q = q (.new (cutD xs lo hi)) μ := Eq.trans rfl rfl
theorem stl_dat {d : PyData} : stlK q (.dat d) μ = q (.dat d) μ := Eq.trans rfl rfl
theorem stl_new : stlK q (.new xs) μ = q (.dat (.list xs)) μ := Eq.trans rfl rfl
theorem stl_loc : stlK q (.loc n) μ = q (.loc n) μ := Eq.trans rfl rfl
theorem stl_raw {v : V} : stlK q (.raw v) μ = q (.raw v) μ := Eq.trans rfl rfl
theorem stl_ro : stlK q (.ro xs) μ = q (.ro xs) μ := Eq.trans rfl rfl
theorem stl_exc {y : Exn} : stlK q (.exc y) μ = q (.exc y) μ := Eq.trans rfl rfl
theorem cel_dat {d : PyData} : cellK q (.dat d) μ = q (.dat d) μ := Eq.trans rfl rfl
theorem cel_new : cellK q (.new xs) μ = q (.loc μ.length) (μ ++ [.lst xs]) := Eq.trans rfl rfl
theorem cel_loc : cellK q (.loc n) μ = q (.loc n) μ := Eq.trans rfl rfl
theorem cel_raw {v : V} : cellK q (.raw v) μ = q (.raw v) μ := Eq.trans rfl rfl
theorem cel_ro : cellK q (.ro xs) μ = q (.ro xs) μ := Eq.trans rfl rfl
theorem nN_dat {d : PyData} : noNew (.dat d) = true := Eq.trans rfl rfl
theorem nN_loc : noNew (.loc n) = true := Eq.trans rfl rfl
theorem nN_raw {v : V} : noNew (.raw v) = true := Eq.trans rfl rfl
theorem nN_ro : noNew (.ro xs) = true := Eq.trans rfl rfl
theorem nN_exc {y : Exn} : noNew (.exc y) = true := Eq.trans rfl rfl
theorem aO_nil : allOld [] = true := Eq.trans rfl rfl
theorem aO_cons {e : EV} {es : List EV} : allOld (e :: es) = (noNew e && allOld es) := Eq.trans rfl rfl
theorem wB_b {b : Bool} {k : Bool → Prop} : withB (.dat (.bool b)) k = k b := Eq.trans rfl rfl
theorem oI_ii {C : Int → Int → Prop} {g : Int → Int → PyData} : oI C g (.dat (.int i)) (.dat (.int j)) μ q = (C i j ∧ q (.dat (g i j)) μ) := Eq.trans rfl rfl
theorem oI0_ii {g : Int → Int → PyData} : oI0 g (.dat (.int i)) (.dat (.int j)) μ q = q (.dat (g i j)) μ := Eq.trans rfl rfl
theorem neg_i : oNeg (.dat (.int i)) μ q = q (.dat (.int (-i))) μ := Eq.trans rfl rfl
theorem inv_i : oInv (.dat (.int i)) μ q = q (.dat (.int (Builtin.bitNot i))) μ := Eq.trans rfl rfl
theorem eq_dd {d e : PyData} : oEq (.dat d) (.dat e) μ q = ((noD d = true ∧ noD e = true) ∧ min d.depth e.depth ≤ 64 ∧ q (.dat (.bool (PyData.eqv d e))) μ) := Eq.trans rfl rfl
theorem ne_dd {d e : PyData} : oNe (.dat d) (.dat e) μ q = ((noD d = true ∧ noD e = true) ∧ min d.depth e.depth ≤ 64 ∧ q (.dat (.bool (!PyData.eqv d e))) μ) := Eq.trans rfl rfl
theorem eq_nd {d : PyData} : oEq (.new xs) (.dat d) μ q = ((noD (.list xs) = true ∧ noD d = true) ∧ min (PyData.list xs).depth d.depth ≤ 64 ∧ q (.dat (.bool (PyData.eqv (.list xs) d))) μ) := Eq.trans rfl rfl
theorem ne_nd {d : PyData} : oNe (.new xs) (.dat d) μ q = ((noD (.list xs) = true ∧ noD d = true) ∧ min (PyData.list xs).depth d.depth ≤ 64 ∧ q (.dat (.bool (!PyData.eqv (.list xs) d))) μ) := Eq.trans rfl rfl
theorem eq_dn {d : PyData} : oEq (.dat d) (.new xs) μ q = ((noD d = true ∧ noD (.list xs) = true) ∧ min d.depth (PyData.list xs).depth ≤ 64 ∧ q (.dat (.bool (PyData.eqv d (.list xs)))) μ) := Eq.trans rfl rfl
theorem ne_dn {d : PyData} : oNe (.dat d) (.new xs) μ q = ((noD d = true ∧ noD (.list xs) = true) ∧ min d.depth (PyData.list xs).depth ≤ 64 ∧ q (.dat (.bool (!PyData.eqv d (.list xs)))) μ) := Eq.trans rfl rfl
theorem eq_nn : oEq (.new xs) (.new ys) μ q = ((noD (.list xs) = true ∧ noD (.list ys) = true) ∧ min (PyData.list xs).depth (PyData.list ys).depth ≤ 64 ∧ q (.dat (.bool (PyData.eqv (.list xs) (.list ys)))) μ) := Eq.trans rfl rfl
theorem ne_nn : oNe (.new xs) (.new ys) μ q = ((noD (.list xs) = true ∧ noD (.list ys) = true) ∧ min (PyData.list xs).depth (PyData.list ys).depth ≤ 64 ∧ q (.dat (.bool (!PyData.eqv (.list xs) (.list ys)))) μ) := Eq.trans rfl rfl
theorem sign_ss {neg : Bool} : oInSign neg (.dat (.str z)) (.dat (.str z')) μ q = (∃ c, z = ⟨#[c]⟩ ∧ q (.dat (.bool (if neg then !decide (c ∈ z'.cps.toList) else decide (c ∈ z'.cps.toList)))) μ) := Eq.trans rfl rfl
theorem list_e : oList [x] μ q = (match seqOf μ x with
    | some ds => q (.new ds) μ
    | none => False) := rfl
theorem tuple_e : oTuple [x] μ q = (match seqOf μ x with
    | some ds => q (.dat (.tuple ds)) μ
    | none => False) := rfl
theorem max_ii : oMax2 [.dat (.int i), .dat (.int j)] μ q = q (.dat (.int (if j > i then j else i))) μ := Eq.trans rfl rfl
theorem min_ii : oMin2 [.dat (.int i), .dat (.int j)] μ q = q (.dat (.int (if j < i then j else i))) μ := Eq.trans rfl rfl
theorem tD_dat {d : PyData} : toDat μ (.dat d) = some (d, μ) := Eq.trans rfl rfl
theorem tD_new : toDat μ (.new xs) = some (.list xs, μ) := Eq.trans rfl rfl
theorem wD_dat {d : PyData} {k : PyData → Mu → Prop} : withDat μ (.dat d) k = k d μ := Eq.trans rfl rfl
theorem wD_new {k : PyData → Mu → Prop} : withDat μ (.new xs) k = k (.list xs) μ := Eq.trans rfl rfl
end
theorem eqv_int {i j : Int} : PyData.eqv (.int i) (.int j) = decide (i = j) := by
  rw [PyData.eqv]
  exact Bool.beq_eq_decide_eq i j
theorem eqv_bool {i j : Bool} : PyData.eqv (.bool i) (.bool j) = (i == j) := by rw [PyData.eqv]
theorem eqv_str {i j : Str} : PyData.eqv (.str i) (.str j) = decide (i = j) := by
  rw [PyData.eqv]
  exact Bool.beq_eq_decide_eq i j
theorem dep_int {i : Int} : (PyData.int i).depth = 0 := by rw [PyData.depth]
theorem dep_bool {i : Bool} : (PyData.bool i).depth = 0 := by rw [PyData.depth]
theorem dep_str {i : Str} : (PyData.str i).depth = 0 := by rw [PyData.depth]
theorem dep_none : PyData.none.depth = 0 := by rw [PyData.depth]
theorem min0l {n : Nat} : min 0 n ≤ 64 := by omega
theorem min0r {n : Nat} : min n 0 ≤ 64 := by omega

/-! ### statements, one by one -/
section
variable {t u v : TDS} {te : TDE} {ta : TDA} {tc : TDT} {g : TDG} {ti : TDI} {d : DEnds} {E : XQ} {η : DEnv} {μ : Mu} {i j : Nat} {o : OD}
theorem q_next (h : v d E η μ) : sSeq sNext v d E η μ := h
theorem q_asg (h : te η μ (fun e μ1 => g e η μ1 fun η' μ' => v d E η' μ') E) : sSeq (sAsg te g) v d E η μ := h
theorem q_set (h : te η μ (fun e μ1 => noNew e = true ∧ v d E (η.set i (some e)) μ1) E) : sSeq (sAsg te (gNm i)) v d E η μ := h
theorem q_par (h : ta η μ (fun es μ1 => match es with
  | [e1, e2] => noNew e1 = true ∧ noNew e2 = true ∧ v d E ((η.set i (some e1)).set j (some e2)) μ1
  | _ => False) E) : sSeq (sPar i j ta) v d E η μ := h
theorem q_drop (h : te η μ (fun _ μ1 => v d E η μ1) E) : sSeq (sDrop te) v d E η μ := h
theorem q_ret (h : te η μ d.rt E) : sSeq (sRet te) v d E η μ := h
theorem q_retN (h : d.rt (.dat .none) μ) : sSeq sRetN v d E η μ := h
theorem q_if (h : tc η μ (fun b μ1 => if b = true then t { d with nx := v d E } E η μ1 else u { d with nx := v d E } E η μ1) E) : sSeq (sIf tc t u) v d E η μ := h
/-- .. an if without else -/
theorem q_when (h : tc η μ (fun b μ1 => if b = true then t { d with nx := v d E } E η μ1 else v d E η μ1) E) : sSeq (sIf tc t sNext) v d E η μ := h
theorem q_ifB (b : Bool) (h : ∀ K : Bool → Mu → Prop, K b μ → tc η μ K E) (h1 : b = true → t { d with nx := v d E } E η μ) (h2 : b = false → u { d with nx := v d E } E η μ) : sSeq (sIf tc t u) v d E η μ :=
  h _ (by cases b with
    | true => exact h1 rfl
    | false => exact h2 rfl)
theorem s_ifB (b : Bool) (h : ∀ K : Bool → Mu → Prop, K b μ → tc η μ K E) (h1 : b = true → t d E η μ) (h2 : b = false → u d E η μ) : sIf tc t u d E η μ :=
  h _ (by cases b with
    | true => exact h1 rfl
    | false => exact h2 rfl)
theorem s_next (h : d.nx η μ) : sNext d E η μ := h
theorem s_asg (h : te η μ (fun e μ1 => g e η μ1 d.nx) E) : sAsg te g d E η μ := h
theorem s_set (h : te η μ (fun e μ1 => noNew e = true ∧ d.nx (η.set i (some e)) μ1) E) : sAsg te (gNm i) d E η μ := h
theorem s_drop (h : te η μ (fun _ μ1 => d.nx η μ1) E) : sDrop te d E η μ := h
theorem s_ret (h : te η μ d.rt E) : sRet te d E η μ := h
theorem s_retN (h : d.rt (.dat .none) μ) : sRetN d E η μ := h
theorem s_if (h : tc η μ (fun b μ1 => if b = true then t d E η μ1 else u d E η μ1) E) : sIf tc t u d E η μ := h
theorem s_when (h : tc η μ (fun b μ1 => if b = true then t d E η μ1 else d.nx η μ1) E) : sIf tc t sNext d E η μ := h
theorem s_whenB (b : Bool) (h : ∀ K : Bool → Mu → Prop, K b μ → tc η μ K E) (h1 : b = true → t d E η μ) (h2 : b = false → d.nx η μ) : sIf tc t sNext d E η μ := s_ifB b h h1 h2
theorem q_whenB (b : Bool) (h : ∀ K : Bool → Mu → Prop, K b μ → tc η μ K E) (h1 : b = true → t { d with nx := v d E } E η μ) (h2 : b = false → v d E η μ) : sSeq (sIf tc t sNext) v d E η μ := q_ifB b h h1 h2
/-- what a for asks of its items -/
def ForG (g : TDG) (tb : TDS) (d : DEnds) (E : XQ) (η : DEnv) (items : List EV) (G : Mu → Prop) (μ1 : Mu) : Prop := ∃ Inv : Nat → DEnv → Mu → Prop, Inv 0 η μ1 ∧ (∀ i η μ, Inv i η μ → G μ) ∧
  (∀ (i : Nat) (e : EV) η μ, items[i]? = some e → Inv i η μ → g e η μ fun η2 μ2 => tb { nx := fun η' μ' => Inv (i + 1) (clean μ1.length η') (μ'.take μ1.length), ct := fun η' μ' => Inv (i + 1) (clean μ1.length η') (μ'.take μ1.length), bk := d.nx, rt := d.rt } E η2 μ2) ∧
  ∀ η μ, Inv items.length η μ → d.nx η μ
theorem s_for (h : ti η μ (ForG g t d E η) E) : sFor ti g t d E η μ := h
theorem q_for (h : ti η μ (ForG g t { d with nx := v d E } E η) E) : sSeq (sFor ti g t) v d E η μ := h
theorem q_while (Inv : Nat → DEnv → Mu → Prop) (m : Nat) (h0 : Inv m η μ) (hs : ∀ m η' μ', Inv m η' μ' → tc η' μ' (fun b μ1 => if b = true then t { nx := fun η2 μ2 => ∃ m', m' < m ∧ Inv m' (clean μ.length η2) (μ2.take μ.length), ct := fun η2 μ2 => ∃ m', m' < m ∧ Inv m' (clean μ.length η2) (μ2.take μ.length), bk := v d E, rt := d.rt } E η' μ1 else v d E η' μ1) E) :
    sSeq (sWhile tc t) v d E η μ := ⟨Inv, ⟨m, h0⟩, hs⟩
end
/-- what a comprehension asks of its items -/
def LcG (g : TDG) (tt : TDT) (te : TDE) (vs : List Nat) (η : DEnv) (q : PQ) (items : List EV) (G : Mu → Prop) (μ1 : Mu) : Prop := items.length ≤ 100000 ∧ ∃ Inv : Nat → List PyData → Mu → Prop, Inv 0 [] μ1 ∧ (∀ i acc μ, Inv i acc μ → G μ ∧ acc.length ≤ i) ∧
  (∀ (i : Nat) (e : EV) acc μ, items[i]? = some e → Inv i acc μ → g e (wipeD η vs) μ fun η2 μ2 => tt η2 μ2 (fun b μ3 => if b = true then te η2 μ3 (fun ev μ4 => withDat μ4 ev fun d μ5 => Inv (i + 1) (acc ++ [d]) (μ5.take μ1.length)) EF else Inv (i + 1) acc (μ3.take μ1.length)) EF) ∧
  ∀ acc μ, Inv items.length acc μ → q (.new acc) μ
theorem lc_eq {ti : TDI} {g : TDG} {tt : TDT} {te : TDE} {vs : List Nat} {η : DEnv} {μ : Mu} {q : PQ} {E : XQ} : dLc ti g tt te vs η μ q E = ti η μ (LcG g tt te vs η q) E := Eq.trans rfl rfl
/-- over items told by a list, every one kept, the store as it was -/
theorem lc_map {α : Type} {as : List α} {h : α → EV} {G : Mu → Prop} {g : TDG} {te : TDE} {vs : List Nat} {η : DEnv} {q : PQ} {μ1 : Mu} (f : α → PyData) (hz : as.length ≤ 100000) (hG : G μ1)
    (hs : ∀ (a : α) (K : PyData → Mu → Prop), a ∈ as → K (f a) μ1 → g (h a) (wipeD η vs) μ1 fun η2 μ2 => te η2 μ2 (fun ev μ4 => withDat μ4 ev fun d μ5 => K d (μ5.take μ1.length)) EF)
    (hq : q (.new (as.map f)) μ1) : LcG g tYesD te vs η q (as.map h) G μ1 := by
  refine ⟨by rw [List.length_map]; exact hz, fun i acc μ => μ = μ1 ∧ acc = (as.take i).map f, ⟨rfl, rfl⟩, ?_, ?_, ?_⟩
  · rintro i acc μ ⟨rfl, rfl⟩
    refine ⟨hG, ?_⟩
    rw [List.length_map, List.length_take]
    omega
  · rintro i e acc μ hi ⟨rfl, rfl⟩
    obtain ⟨a, ha, rfl⟩ : ∃ a, as[i]? = some a ∧ e = h a := by
      rw [List.getElem?_map] at hi
      cases q : as[i]? with
      | none => rw [q] at hi; cases hi
      | some a => rw [q] at hi; exact ⟨a, rfl, (Option.some.inj hi).symm⟩
    refine hs a (fun d μ' => μ' = μ ∧ (as.take i).map f ++ [d] = (as.take (i + 1)).map f) (List.mem_of_getElem? ha) ⟨rfl, ?_⟩
    rw [List.take_add_one, ha, List.map_append]
    rfl
  · rintro acc μ ⟨rfl, rfl⟩
    rw [List.length_map, List.take_length]
    exact hq
/-- .. with a test -/
theorem lc_filter {α : Type} {as : List α} {h : α → EV} {G : Mu → Prop} {g : TDG} {tt : TDT} {te : TDE} {vs : List Nat} {η : DEnv} {q : PQ} {μ1 : Mu} (p : α → Bool) (f : α → PyData) (hz : as.length ≤ 100000) (hG : G μ1)
    (hs : ∀ (a : α) (K : PyData → Mu → Prop) (K' : Mu → Prop), a ∈ as → (p a = true → K (f a) μ1) → (p a = false → K' μ1) → g (h a) (wipeD η vs) μ1 fun η2 μ2 => tt η2 μ2 (fun b μ3 => if b = true then te η2 μ3 (fun ev μ4 => withDat μ4 ev fun d μ5 => K d (μ5.take μ1.length)) EF else K' (μ3.take μ1.length)) EF)
    (hq : q (.new ((as.filter p).map f)) μ1) : LcG g tt te vs η q (as.map h) G μ1 := by
  refine ⟨by rw [List.length_map]; exact hz, fun i acc μ => μ = μ1 ∧ acc = ((as.take i).filter p).map f, ⟨rfl, rfl⟩, ?_, ?_, ?_⟩
  · rintro i acc μ ⟨rfl, rfl⟩
    refine ⟨hG, ?_⟩
    have := List.length_filter_le p (as.take i)
    rw [List.length_map]
    rw [List.length_take] at this
    omega
  · rintro i e acc μ hi ⟨rfl, rfl⟩
    obtain ⟨a, ha, rfl⟩ : ∃ a, as[i]? = some a ∧ e = h a := by
      rw [List.getElem?_map] at hi
      cases q : as[i]? with
      | none => rw [q] at hi; cases hi
      | some a => rw [q] at hi; exact ⟨a, rfl, (Option.some.inj hi).symm⟩
    refine hs a (fun d μ' => μ' = μ ∧ ((as.take i).filter p).map f ++ [d] = ((as.take (i + 1)).filter p).map f) (fun μ' => μ' = μ ∧ ((as.take i).filter p).map f = ((as.take (i + 1)).filter p).map f) (List.mem_of_getElem? ha) (fun hp => ⟨rfl, ?_⟩) (fun hp => ⟨rfl, ?_⟩)
    · rw [List.take_add_one, ha, List.filter_append, List.map_append]
      simp [hp]
    · rw [List.take_add_one, ha, List.filter_append, List.map_append]
      simp [hp]
  · rintro acc μ ⟨rfl, rfl⟩
    rw [List.length_map, List.take_length]
    exact hq
/-- over items, by an invariant of the store and what was made -/
theorem lc_inv {α : Type} {as : List α} {h : α → EV} {G : Mu → Prop} {g : TDG} {tt : TDT} {te : TDE} {vs : List Nat} {η : DEnv} {q : PQ} {μ1 : Mu} (Inv : Nat → List PyData → Mu → Prop) (hz : as.length ≤ 100000) (h0 : Inv 0 [] μ1) (hG : ∀ i acc μ, Inv i acc μ → G μ ∧ acc.length ≤ i)
    (hs : ∀ (i : Nat) (a : α) acc μ, as[i]? = some a → Inv i acc μ → g (h a) (wipeD η vs) μ fun η2 μ2 => tt η2 μ2 (fun b μ3 => if b = true then te η2 μ3 (fun ev μ4 => withDat μ4 ev fun d μ5 => Inv (i + 1) (acc ++ [d]) (μ5.take μ1.length)) EF else Inv (i + 1) acc (μ3.take μ1.length)) EF)
    (hd : ∀ acc μ, Inv as.length acc μ → q (.new acc) μ) : LcG g tt te vs η q (as.map h) G μ1 := by
  refine ⟨by rw [List.length_map]; exact hz, Inv, h0, hG, fun i e acc μ hi iv => ?_, fun acc μ iv => hd acc μ (by rw [List.length_map] at iv; exact iv)⟩
  obtain ⟨a, ha, rfl⟩ : ∃ a, as[i]? = some a ∧ e = h a := by
    rw [List.getElem?_map] at hi
    cases q : as[i]? with
    | none => rw [q] at hi; cases hi
    | some a => rw [q] at hi; exact ⟨a, rfl, (Option.some.inj hi).symm⟩
  exact hs i a acc μ ha iv
theorem for_inv {α : Type} {as : List α} {h : α → EV} {G : Mu → Prop} {g : TDG} {tb : TDS} {d : DEnds} {E : XQ} {η : DEnv} {μ1 : Mu} (Inv : Nat → DEnv → Mu → Prop) (h0 : Inv 0 η μ1) (hG : ∀ i η μ, Inv i η μ → G μ)
    (hs : ∀ (i : Nat) (a : α) η μ, as[i]? = some a → Inv i η μ → g (h a) η μ fun η2 μ2 => tb { nx := fun η' μ' => Inv (i + 1) (clean μ1.length η') (μ'.take μ1.length), ct := fun η' μ' => Inv (i + 1) (clean μ1.length η') (μ'.take μ1.length), bk := d.nx, rt := d.rt } E η2 μ2)
    (hd : ∀ η μ, Inv as.length η μ → d.nx η μ) : ForG g tb d E η (as.map h) G μ1 := by
  refine ⟨Inv, h0, hG, fun i e η μ hi iv => ?_, fun η μ iv => hd η μ (by rw [List.length_map] at iv; exact iv)⟩
  obtain ⟨a, ha, rfl⟩ : ∃ a, as[i]? = some a ∧ e = h a := by
    rw [List.getElem?_map] at hi
    cases q : as[i]? with
    | none => rw [q] at hi; cases hi
    | some a => rw [q] at hi; exact ⟨a, rfl, (Option.some.inj hi).symm⟩
  exact hs i a η μ ha iv
theorem map_get {α β : Type} {as : List α} {h : α → β} {i : Nat} {e : β} (x : (as.map h)[i]? = some e) : ∃ a, as[i]? = some a ∧ e = h a := by
  rw [List.getElem?_map] at x
  cases q : as[i]? with
  | none => rw [q] at x; cases x
  | some a => rw [q] at x; exact ⟨a, rfl, (Option.some.inj x).symm⟩
theorem take_map {α β : Type} {as : List α} {i : Nat} {a : α} (f : α → β) (x : as[i]? = some a) : (as.take (i + 1)).map f = (as.take i).map f ++ [f a] := by
  rw [List.take_add_one, x, List.map_append]
  rfl
theorem take_fmap {α β : Type} {as : List α} {i : Nat} {a : α} (f : α → Option β) (x : as[i]? = some a) : (as.take (i + 1)).filterMap f = (as.take i).filterMap f ++ (f a).toList := by
  rw [List.take_add_one, x, List.filterMap_append]
  cases hf : f a <;> simp [hf]
theorem take_filter {α : Type} {as : List α} {i : Nat} {a : α} (f : α → Bool) (x : as[i]? = some a) : (as.take (i + 1)).filter f = (as.take i).filter f ++ (if f a then [a] else []) := by
  rw [List.take_add_one, x, List.filter_append]
  cases hf : f a <;> simp [hf]
theorem get_lt {α : Type} {as : List α} {i : Nat} {a : α} (x : as[i]? = some a) : i < as.length := (List.getElem?_eq_some_iff.mp x).1
theorem take_all {α : Type} (as : List α) : as.take as.length = as := List.take_length
theorem flen {α β : Type} (as : List α) (i : Nat) (f : α → Option β) : ((as.take i).filterMap f).length ≤ i := by
  refine Nat.le_trans (List.length_filterMap_le _ _) ?_
  rw [List.length_take]
  omega
theorem mlen {α β : Type} (as : List α) (i : Nat) (f : α → β) : ((as.take i).map f).length ≤ i := by
  rw [List.length_map, List.length_take]
  omega
theorem rng_get {lo : Int} {n i : Nat} {e : EV} (x : (rngItems lo n)[i]? = some e) : i < n ∧ e = .dat (.int (lo + (i : Nat))) := by
  obtain ⟨a, h1, h2⟩ := map_get x
  have := get_lt h1
  rw [List.length_range] at this
  rw [List.getElem?_range this] at h1
  cases h1
  exact ⟨this, h2⟩
theorem rng_len {lo : Int} {n : Nat} : (rngItems lo n).length = n := by simp [rngItems]
/-! ### the law's drawing -/
/-- a drawing state at n -/
def StAt (μ : Mu) (n : Nat) : Prop := ∃ a b : Int, μ[n]? = some (.lst [.int a, .int b]) ∧ 0 ≤ a ∧ a < 2147483648
/-- drawn from -/
def Stp (μ : Mu) (n : Nat) (μ' : Mu) : Prop := ∃ a b : Int, μ' = μ.set n (.lst [.int a, .int b]) ∧ 0 ≤ a ∧ a < 2147483648
theorem StAt.lt {μ : Mu} {n : Nat} (h : StAt μ n) : n < μ.length := let ⟨_, _, e, _⟩ := h; get_lt e
theorem Stp.len {μ μ' : Mu} {n : Nat} (h : Stp μ n μ') : μ'.length = μ.length := by
  obtain ⟨a, b, rfl, _⟩ := h
  exact List.length_set
theorem Stp.at {μ μ' : Mu} {n : Nat} (h : Stp μ n μ') (s : StAt μ n) : StAt μ' n := by
  have hl := s.lt
  obtain ⟨a, b, rfl, h1, h2⟩ := h
  exact ⟨a, b, by rw [List.getElem?_set_self hl], h1, h2⟩
theorem Stp.ne {μ μ' : Mu} {n m : Nat} (h : Stp μ n μ') (ne : n ≠ m) : μ'[m]? = μ[m]? := by
  obtain ⟨a, b, rfl, h1, h2⟩ := h
  exact List.getElem?_set_ne ne
theorem Stp.refl {μ : Mu} {n : Nat} (s : StAt μ n) : Stp μ n μ := by
  obtain ⟨a, b, e, h1, h2⟩ := s
  refine ⟨a, b, ?_, h1, h2⟩
  obtain ⟨h3, h4⟩ := List.getElem?_eq_some_iff.mp e
  rw [← h4, List.set_getElem_self]
theorem Stp.trans {μ μ1 μ2 : Mu} {n : Nat} (h : Stp μ n μ1) (h' : Stp μ1 n μ2) : Stp μ n μ2 := by
  obtain ⟨a, b, rfl, h1, h2⟩ := h
  obtain ⟨a', b', rfl, h3, h4⟩ := h'
  exact ⟨a', b', List.set_set .., h3, h4⟩
theorem Stp.take {μ μ' : Mu} {n : Nat} (h : Stp μ n μ') : μ'.take μ.length = μ' := by
  rw [← h.len]
  exact List.take_length
theorem pick {α : Type} {xs : List α} {r : Int} (h0 : 0 ≤ r) (h1 : r < xs.length) : ∃ d, xs[r.toNat]? = some d ∧ d ∈ xs := by
  have h : r.toNat < xs.length := by omega
  exact ⟨xs[r.toNat], List.getElem?_eq_getElem h, List.getElem_mem h⟩
def sp_cell : SpD := fun es μ q _ => ∃ (ns : List Int) (k : Int), es = [.ro (ns.map .int), .dat (.int k)] ∧ 0 ≤ k ∧ k ≤ 1000 ∧ ns.length ≤ 63 ∧ ∀ r : Int, q (.dat (.int r)) μ
def sp_state : SpD := fun es μ q _ => ∃ c k : Int, es = [.dat (.int c), .dat (.int k)] ∧ 0 ≤ k ∧ k ≤ 1000 ∧ ∀ a b : Int, 0 ≤ a → a < 2147483648 → q (.new [.int a, .int b]) μ
def sp_next : SpD := fun es μ q _ => ∃ (n : Nat) (k : Int), es = [.loc n, .dat (.int k)] ∧ StAt μ n ∧ 0 < k ∧ k < 1073741824 ∧ ∀ (r : Int) (μ' : Mu), 0 ≤ r → r < k → Stp μ n μ' → q (.dat (.int r)) μ'
end DL

set_option Elab.async false
set_option linter.all false
set_option maxRecDepth 100000
set_option maxHeartbeats 4000000
namespace DL
open PySem L2 PyProof.Rows
/-! ### words for proofs over data readings -/
/-- an old reading -/
def oldK (q : PQ) : PQ := fun e μ => match e with
  | .new _ => False
  | .newd _ => False
  | .newk _ => False
  | e => q e μ
theorem old_dat {q : PQ} {d : PyData} {μ : Mu} : oldK q (.dat d) μ = q (.dat d) μ := Eq.trans rfl rfl
theorem old_loc {q : PQ} {d : Nat} {μ : Mu} : oldK q (.loc d) μ = q (.loc d) μ := Eq.trans rfl rfl
theorem old_raw {q : PQ} {d : V} {μ : Mu} : oldK q (.raw d) μ = q (.raw d) μ := Eq.trans rfl rfl
theorem old_exc {q : PQ} {d : Exn} {μ : Mu} : oldK q (.exc d) μ = q (.exc d) μ := Eq.trans rfl rfl
theorem old_ro {q : PQ} {d : List PyData} {μ : Mu} : oldK q (.ro d) μ = q (.ro d) μ := Eq.trans rfl rfl
theorem dVar_0 {v : EV} {η : DEnv} {μ : Mu} {q : PQ} {E : XQ} : dVar 0 (some v :: η) μ q E = oldK q v μ := by
  cases v <;> rfl
theorem dVar_1 {a0 : Option EV} {v : EV} {η : DEnv} {μ : Mu} {q : PQ} {E : XQ} : dVar 1 (a0 :: some v :: η) μ q E = oldK q v μ := by
  cases v <;> rfl
theorem dVar_2 {a0 a1 : Option EV} {v : EV} {η : DEnv} {μ : Mu} {q : PQ} {E : XQ} : dVar 2 (a0 :: a1 :: some v :: η) μ q E = oldK q v μ := by
  cases v <;> rfl
theorem dVar_3 {a0 a1 a2 : Option EV} {v : EV} {η : DEnv} {μ : Mu} {q : PQ} {E : XQ} : dVar 3 (a0 :: a1 :: a2 :: some v :: η) μ q E = oldK q v μ := by
  cases v <;> rfl
theorem dVar_4 {a0 a1 a2 a3 : Option EV} {v : EV} {η : DEnv} {μ : Mu} {q : PQ} {E : XQ} : dVar 4 (a0 :: a1 :: a2 :: a3 :: some v :: η) μ q E = oldK q v μ := by
  cases v <;> rfl
theorem dVar_5 {a0 a1 a2 a3 a4 : Option EV} {v : EV} {η : DEnv} {μ : Mu} {q : PQ} {E : XQ} : dVar 5 (a0 :: a1 :: a2 :: a3 :: a4 :: some v :: η) μ q E = oldK q v μ := by
  cases v <;> rfl
theorem dVar_6 {a0 a1 a2 a3 a4 a5 : Option EV} {v : EV} {η : DEnv} {μ : Mu} {q : PQ} {E : XQ} : dVar 6 (a0 :: a1 :: a2 :: a3 :: a4 :: a5 :: some v :: η) μ q E = oldK q v μ := by
  cases v <;> rfl
theorem dVar_7 {a0 a1 a2 a3 a4 a5 a6 : Option EV} {v : EV} {η : DEnv} {μ : Mu} {q : PQ} {E : XQ} : dVar 7 (a0 :: a1 :: a2 :: a3 :: a4 :: a5 :: a6 :: some v :: η) μ q E = oldK q v μ := by
  cases v <;> rfl
theorem dVar_8 {a0 a1 a2 a3 a4 a5 a6 a7 : Option EV} {v : EV} {η : DEnv} {μ : Mu} {q : PQ} {E : XQ} : dVar 8 (a0 :: a1 :: a2 :: a3 :: a4 :: a5 :: a6 :: a7 :: some v :: η) μ q E = oldK q v μ := by
  cases v <;> rfl
theorem dVar_9 {a0 a1 a2 a3 a4 a5 a6 a7 a8 : Option EV} {v : EV} {η : DEnv} {μ : Mu} {q : PQ} {E : XQ} : dVar 9 (a0 :: a1 :: a2 :: a3 :: a4 :: a5 :: a6 :: a7 :: a8 :: some v :: η) μ q E = oldK q v μ := by
  cases v <;> rfl
theorem dVar_10 {a0 a1 a2 a3 a4 a5 a6 a7 a8 a9 : Option EV} {v : EV} {η : DEnv} {μ : Mu} {q : PQ} {E : XQ} : dVar 10 (a0 :: a1 :: a2 :: a3 :: a4 :: a5 :: a6 :: a7 :: a8 :: a9 :: some v :: η) μ q E = oldK q v μ := by
  cases v <;> rfl
theorem dVar_11 {a0 a1 a2 a3 a4 a5 a6 a7 a8 a9 a10 : Option EV} {v : EV} {η : DEnv} {μ : Mu} {q : PQ} {E : XQ} : dVar 11 (a0 :: a1 :: a2 :: a3 :: a4 :: a5 :: a6 :: a7 :: a8 :: a9 :: a10 :: some v :: η) μ q E = oldK q v μ := by
  cases v <;> rfl
theorem dVar_12 {a0 a1 a2 a3 a4 a5 a6 a7 a8 a9 a10 a11 : Option EV} {v : EV} {η : DEnv} {μ : Mu} {q : PQ} {E : XQ} : dVar 12 (a0 :: a1 :: a2 :: a3 :: a4 :: a5 :: a6 :: a7 :: a8 :: a9 :: a10 :: a11 :: some v :: η) μ q E = oldK q v μ := by
  cases v <;> rfl
theorem dVar_13 {a0 a1 a2 a3 a4 a5 a6 a7 a8 a9 a10 a11 a12 : Option EV} {v : EV} {η : DEnv} {μ : Mu} {q : PQ} {E : XQ} : dVar 13 (a0 :: a1 :: a2 :: a3 :: a4 :: a5 :: a6 :: a7 :: a8 :: a9 :: a10 :: a11 :: a12 :: some v :: η) μ q E = oldK q v μ := by
  cases v <;> rfl
theorem dVar_14 {a0 a1 a2 a3 a4 a5 a6 a7 a8 a9 a10 a11 a12 a13 : Option EV} {v : EV} {η : DEnv} {μ : Mu} {q : PQ} {E : XQ} : dVar 14 (a0 :: a1 :: a2 :: a3 :: a4 :: a5 :: a6 :: a7 :: a8 :: a9 :: a10 :: a11 :: a12 :: a13 :: some v :: η) μ q E = oldK q v μ := by
  cases v <;> rfl
theorem dVar_15 {a0 a1 a2 a3 a4 a5 a6 a7 a8 a9 a10 a11 a12 a13 a14 : Option EV} {v : EV} {η : DEnv} {μ : Mu} {q : PQ} {E : XQ} : dVar 15 (a0 :: a1 :: a2 :: a3 :: a4 :: a5 :: a6 :: a7 :: a8 :: a9 :: a10 :: a11 :: a12 :: a13 :: a14 :: some v :: η) μ q E = oldK q v μ := by
  cases v <;> rfl
theorem dVar_16 {a0 a1 a2 a3 a4 a5 a6 a7 a8 a9 a10 a11 a12 a13 a14 a15 : Option EV} {v : EV} {η : DEnv} {μ : Mu} {q : PQ} {E : XQ} : dVar 16 (a0 :: a1 :: a2 :: a3 :: a4 :: a5 :: a6 :: a7 :: a8 :: a9 :: a10 :: a11 :: a12 :: a13 :: a14 :: a15 :: some v :: η) μ q E = oldK q v μ := by
  cases v <;> rfl
theorem dVar_17 {a0 a1 a2 a3 a4 a5 a6 a7 a8 a9 a10 a11 a12 a13 a14 a15 a16 : Option EV} {v : EV} {η : DEnv} {μ : Mu} {q : PQ} {E : XQ} : dVar 17 (a0 :: a1 :: a2 :: a3 :: a4 :: a5 :: a6 :: a7 :: a8 :: a9 :: a10 :: a11 :: a12 :: a13 :: a14 :: a15 :: a16 :: some v :: η) μ q E = oldK q v μ := by
  cases v <;> rfl
theorem dVar_18 {a0 a1 a2 a3 a4 a5 a6 a7 a8 a9 a10 a11 a12 a13 a14 a15 a16 a17 : Option EV} {v : EV} {η : DEnv} {μ : Mu} {q : PQ} {E : XQ} : dVar 18 (a0 :: a1 :: a2 :: a3 :: a4 :: a5 :: a6 :: a7 :: a8 :: a9 :: a10 :: a11 :: a12 :: a13 :: a14 :: a15 :: a16 :: a17 :: some v :: η) μ q E = oldK q v μ := by
  cases v <;> rfl
theorem dVar_19 {a0 a1 a2 a3 a4 a5 a6 a7 a8 a9 a10 a11 a12 a13 a14 a15 a16 a17 a18 : Option EV} {v : EV} {η : DEnv} {μ : Mu} {q : PQ} {E : XQ} : dVar 19 (a0 :: a1 :: a2 :: a3 :: a4 :: a5 :: a6 :: a7 :: a8 :: a9 :: a10 :: a11 :: a12 :: a13 :: a14 :: a15 :: a16 :: a17 :: a18 :: some v :: η) μ q E = oldK q v μ := by
  cases v <;> rfl
theorem dVar_20 {a0 a1 a2 a3 a4 a5 a6 a7 a8 a9 a10 a11 a12 a13 a14 a15 a16 a17 a18 a19 : Option EV} {v : EV} {η : DEnv} {μ : Mu} {q : PQ} {E : XQ} : dVar 20 (a0 :: a1 :: a2 :: a3 :: a4 :: a5 :: a6 :: a7 :: a8 :: a9 :: a10 :: a11 :: a12 :: a13 :: a14 :: a15 :: a16 :: a17 :: a18 :: a19 :: some v :: η) μ q E = oldK q v μ := by
  cases v <;> rfl
theorem dVar_21 {a0 a1 a2 a3 a4 a5 a6 a7 a8 a9 a10 a11 a12 a13 a14 a15 a16 a17 a18 a19 a20 : Option EV} {v : EV} {η : DEnv} {μ : Mu} {q : PQ} {E : XQ} : dVar 21 (a0 :: a1 :: a2 :: a3 :: a4 :: a5 :: a6 :: a7 :: a8 :: a9 :: a10 :: a11 :: a12 :: a13 :: a14 :: a15 :: a16 :: a17 :: a18 :: a19 :: a20 :: some v :: η) μ q E = oldK q v μ := by
  cases v <;> rfl
theorem dVar_22 {a0 a1 a2 a3 a4 a5 a6 a7 a8 a9 a10 a11 a12 a13 a14 a15 a16 a17 a18 a19 a20 a21 : Option EV} {v : EV} {η : DEnv} {μ : Mu} {q : PQ} {E : XQ} : dVar 22 (a0 :: a1 :: a2 :: a3 :: a4 :: a5 :: a6 :: a7 :: a8 :: a9 :: a10 :: a11 :: a12 :: a13 :: a14 :: a15 :: a16 :: a17 :: a18 :: a19 :: a20 :: a21 :: some v :: η) μ q E = oldK q v μ := by
  cases v <;> rfl
theorem dVar_23 {a0 a1 a2 a3 a4 a5 a6 a7 a8 a9 a10 a11 a12 a13 a14 a15 a16 a17 a18 a19 a20 a21 a22 : Option EV} {v : EV} {η : DEnv} {μ : Mu} {q : PQ} {E : XQ} : dVar 23 (a0 :: a1 :: a2 :: a3 :: a4 :: a5 :: a6 :: a7 :: a8 :: a9 :: a10 :: a11 :: a12 :: a13 :: a14 :: a15 :: a16 :: a17 :: a18 :: a19 :: a20 :: a21 :: a22 :: some v :: η) μ q E = oldK q v μ := by
  cases v <;> rfl
theorem dVar_24 {a0 a1 a2 a3 a4 a5 a6 a7 a8 a9 a10 a11 a12 a13 a14 a15 a16 a17 a18 a19 a20 a21 a22 a23 : Option EV} {v : EV} {η : DEnv} {μ : Mu} {q : PQ} {E : XQ} : dVar 24 (a0 :: a1 :: a2 :: a3 :: a4 :: a5 :: a6 :: a7 :: a8 :: a9 :: a10 :: a11 :: a12 :: a13 :: a14 :: a15 :: a16 :: a17 :: a18 :: a19 :: a20 :: a21 :: a22 :: a23 :: some v :: η) μ q E = oldK q v μ := by
  cases v <;> rfl
theorem dVar_25 {a0 a1 a2 a3 a4 a5 a6 a7 a8 a9 a10 a11 a12 a13 a14 a15 a16 a17 a18 a19 a20 a21 a22 a23 a24 : Option EV} {v : EV} {η : DEnv} {μ : Mu} {q : PQ} {E : XQ} : dVar 25 (a0 :: a1 :: a2 :: a3 :: a4 :: a5 :: a6 :: a7 :: a8 :: a9 :: a10 :: a11 :: a12 :: a13 :: a14 :: a15 :: a16 :: a17 :: a18 :: a19 :: a20 :: a21 :: a22 :: a23 :: a24 :: some v :: η) μ q E = oldK q v μ := by
  cases v <;> rfl
theorem dVar_26 {a0 a1 a2 a3 a4 a5 a6 a7 a8 a9 a10 a11 a12 a13 a14 a15 a16 a17 a18 a19 a20 a21 a22 a23 a24 a25 : Option EV} {v : EV} {η : DEnv} {μ : Mu} {q : PQ} {E : XQ} : dVar 26 (a0 :: a1 :: a2 :: a3 :: a4 :: a5 :: a6 :: a7 :: a8 :: a9 :: a10 :: a11 :: a12 :: a13 :: a14 :: a15 :: a16 :: a17 :: a18 :: a19 :: a20 :: a21 :: a22 :: a23 :: a24 :: a25 :: some v :: η) μ q E = oldK q v μ := by
  cases v <;> rfl
theorem dVar_27 {a0 a1 a2 a3 a4 a5 a6 a7 a8 a9 a10 a11 a12 a13 a14 a15 a16 a17 a18 a19 a20 a21 a22 a23 a24 a25 a26 : Option EV} {v : EV} {η : DEnv} {μ : Mu} {q : PQ} {E : XQ} : dVar 27 (a0 :: a1 :: a2 :: a3 :: a4 :: a5 :: a6 :: a7 :: a8 :: a9 :: a10 :: a11 :: a12 :: a13 :: a14 :: a15 :: a16 :: a17 :: a18 :: a19 :: a20 :: a21 :: a22 :: a23 :: a24 :: a25 :: a26 :: some v :: η) μ q E = oldK q v μ := by
  cases v <;> rfl
theorem dVar_28 {a0 a1 a2 a3 a4 a5 a6 a7 a8 a9 a10 a11 a12 a13 a14 a15 a16 a17 a18 a19 a20 a21 a22 a23 a24 a25 a26 a27 : Option EV} {v : EV} {η : DEnv} {μ : Mu} {q : PQ} {E : XQ} : dVar 28 (a0 :: a1 :: a2 :: a3 :: a4 :: a5 :: a6 :: a7 :: a8 :: a9 :: a10 :: a11 :: a12 :: a13 :: a14 :: a15 :: a16 :: a17 :: a18 :: a19 :: a20 :: a21 :: a22 :: a23 :: a24 :: a25 :: a26 :: a27 :: some v :: η) μ q E = oldK q v μ := by
  cases v <;> rfl
theorem dVar_29 {a0 a1 a2 a3 a4 a5 a6 a7 a8 a9 a10 a11 a12 a13 a14 a15 a16 a17 a18 a19 a20 a21 a22 a23 a24 a25 a26 a27 a28 : Option EV} {v : EV} {η : DEnv} {μ : Mu} {q : PQ} {E : XQ} : dVar 29 (a0 :: a1 :: a2 :: a3 :: a4 :: a5 :: a6 :: a7 :: a8 :: a9 :: a10 :: a11 :: a12 :: a13 :: a14 :: a15 :: a16 :: a17 :: a18 :: a19 :: a20 :: a21 :: a22 :: a23 :: a24 :: a25 :: a26 :: a27 :: a28 :: some v :: η) μ q E = oldK q v μ := by
  cases v <;> rfl
theorem dVar_30 {a0 a1 a2 a3 a4 a5 a6 a7 a8 a9 a10 a11 a12 a13 a14 a15 a16 a17 a18 a19 a20 a21 a22 a23 a24 a25 a26 a27 a28 a29 : Option EV} {v : EV} {η : DEnv} {μ : Mu} {q : PQ} {E : XQ} : dVar 30 (a0 :: a1 :: a2 :: a3 :: a4 :: a5 :: a6 :: a7 :: a8 :: a9 :: a10 :: a11 :: a12 :: a13 :: a14 :: a15 :: a16 :: a17 :: a18 :: a19 :: a20 :: a21 :: a22 :: a23 :: a24 :: a25 :: a26 :: a27 :: a28 :: a29 :: some v :: η) μ q E = oldK q v μ := by
  cases v <;> rfl
theorem dVar_31 {a0 a1 a2 a3 a4 a5 a6 a7 a8 a9 a10 a11 a12 a13 a14 a15 a16 a17 a18 a19 a20 a21 a22 a23 a24 a25 a26 a27 a28 a29 a30 : Option EV} {v : EV} {η : DEnv} {μ : Mu} {q : PQ} {E : XQ} : dVar 31 (a0 :: a1 :: a2 :: a3 :: a4 :: a5 :: a6 :: a7 :: a8 :: a9 :: a10 :: a11 :: a12 :: a13 :: a14 :: a15 :: a16 :: a17 :: a18 :: a19 :: a20 :: a21 :: a22 :: a23 :: a24 :: a25 :: a26 :: a27 :: a28 :: a29 :: a30 :: some v :: η) μ q E = oldK q v μ := by
  cases v <;> rfl
theorem dVar_32 {a0 a1 a2 a3 a4 a5 a6 a7 a8 a9 a10 a11 a12 a13 a14 a15 a16 a17 a18 a19 a20 a21 a22 a23 a24 a25 a26 a27 a28 a29 a30 a31 : Option EV} {v : EV} {η : DEnv} {μ : Mu} {q : PQ} {E : XQ} : dVar 32 (a0 :: a1 :: a2 :: a3 :: a4 :: a5 :: a6 :: a7 :: a8 :: a9 :: a10 :: a11 :: a12 :: a13 :: a14 :: a15 :: a16 :: a17 :: a18 :: a19 :: a20 :: a21 :: a22 :: a23 :: a24 :: a25 :: a26 :: a27 :: a28 :: a29 :: a30 :: a31 :: some v :: η) μ q E = oldK q v μ := by
  cases v <;> rfl
theorem dVar_33 {a0 a1 a2 a3 a4 a5 a6 a7 a8 a9 a10 a11 a12 a13 a14 a15 a16 a17 a18 a19 a20 a21 a22 a23 a24 a25 a26 a27 a28 a29 a30 a31 a32 : Option EV} {v : EV} {η : DEnv} {μ : Mu} {q : PQ} {E : XQ} : dVar 33 (a0 :: a1 :: a2 :: a3 :: a4 :: a5 :: a6 :: a7 :: a8 :: a9 :: a10 :: a11 :: a12 :: a13 :: a14 :: a15 :: a16 :: a17 :: a18 :: a19 :: a20 :: a21 :: a22 :: a23 :: a24 :: a25 :: a26 :: a27 :: a28 :: a29 :: a30 :: a31 :: a32 :: some v :: η) μ q E = oldK q v μ := by
  cases v <;> rfl
theorem dVar_34 {a0 a1 a2 a3 a4 a5 a6 a7 a8 a9 a10 a11 a12 a13 a14 a15 a16 a17 a18 a19 a20 a21 a22 a23 a24 a25 a26 a27 a28 a29 a30 a31 a32 a33 : Option EV} {v : EV} {η : DEnv} {μ : Mu} {q : PQ} {E : XQ} : dVar 34 (a0 :: a1 :: a2 :: a3 :: a4 :: a5 :: a6 :: a7 :: a8 :: a9 :: a10 :: a11 :: a12 :: a13 :: a14 :: a15 :: a16 :: a17 :: a18 :: a19 :: a20 :: a21 :: a22 :: a23 :: a24 :: a25 :: a26 :: a27 :: a28 :: a29 :: a30 :: a31 :: a32 :: a33 :: some v :: η) μ q E = oldK q v μ := by
  cases v <;> rfl
theorem dVar_35 {a0 a1 a2 a3 a4 a5 a6 a7 a8 a9 a10 a11 a12 a13 a14 a15 a16 a17 a18 a19 a20 a21 a22 a23 a24 a25 a26 a27 a28 a29 a30 a31 a32 a33 a34 : Option EV} {v : EV} {η : DEnv} {μ : Mu} {q : PQ} {E : XQ} : dVar 35 (a0 :: a1 :: a2 :: a3 :: a4 :: a5 :: a6 :: a7 :: a8 :: a9 :: a10 :: a11 :: a12 :: a13 :: a14 :: a15 :: a16 :: a17 :: a18 :: a19 :: a20 :: a21 :: a22 :: a23 :: a24 :: a25 :: a26 :: a27 :: a28 :: a29 :: a30 :: a31 :: a32 :: a33 :: a34 :: some v :: η) μ q E = oldK q v μ := by
  cases v <;> rfl
theorem wDs_nil {k : List PyData → Prop} : withDats [] k = k [] := by simp [withDats, datsOf]
theorem wDs_cons {d : PyData} {es : List EV} {k : List PyData → Prop} : withDats (.dat d :: es) k = withDats es fun ds => k (d :: ds) := by
  have h : datsOf (.dat d :: es) = (datsOf es).map (d :: ·) := Eq.trans rfl rfl
  unfold withDats
  rw [h]
  cases datsOf es <;> rfl
theorem x_dC {d : PyData} {η : DEnv} {μ : Mu} {q : PQ} {E : XQ} : dC d η μ q E = q (.dat d) μ := Eq.trans rfl rfl
theorem x_dRaw {v : V} {η : DEnv} {μ : Mu} {q : PQ} {E : XQ} : dRaw v η μ q E = q (.raw v) μ := Eq.trans rfl rfl
theorem x_dFrz {t : TDE} {η : DEnv} {μ : Mu} {q : PQ} {E : XQ} : dFrz t η μ q E = t η μ (fun e μ1 => withDat μ1 e fun d μ2 => q (.dat d) μ2) E := Eq.trans rfl rfl
theorem x_dCell {t : TDE} {η : DEnv} {μ : Mu} {q : PQ} {E : XQ} : dCell t η μ q E = t η μ (cellK q) E := Eq.trans rfl rfl
theorem x_dStl {t : TDE} {η : DEnv} {μ : Mu} {q : PQ} {E : XQ} : dStl t η μ q E = t η μ (stlK q) E := Eq.trans rfl rfl
theorem x_aNil  {η : DEnv} {μ : Mu} {q : List EV → Mu → Prop} {E : XQ} : aNil η μ q E = q [] μ := Eq.trans rfl rfl
theorem x_aCons {t : TDE} {u : TDA} {η : DEnv} {μ : Mu} {q : List EV → Mu → Prop} {E : XQ} : aCons t u η μ q E = t η μ (fun e μ1 => u η μ1 (fun es μ2 => q (e :: es) μ2) E) E := Eq.trans rfl rfl
theorem x_dLst {t : TDA} {η : DEnv} {μ : Mu} {q : PQ} {E : XQ} : dLst t η μ q E = t η μ (fun es μ1 => withDats es fun ds => ds.length ≤ 100000 ∧ q (.new ds) μ1) E := Eq.trans rfl rfl
theorem x_dTup {t : TDA} {η : DEnv} {μ : Mu} {q : PQ} {E : XQ} : dTup t η μ q E = t η μ (fun es μ1 => withDats es fun ds => ds.length ≤ 100000 ∧ q (.dat (.tuple ds)) μ1) E := Eq.trans rfl rfl
theorem x_tVal {t : TDE} {η : DEnv} {μ : Mu} {q : Bool → Mu → Prop} {E : XQ} : tVal t η μ q E = t η μ (fun e μ1 => withB e fun b => q b μ1) E := Eq.trans rfl rfl
theorem x_tAndD {t u : TDT} {η : DEnv} {μ : Mu} {q : Bool → Mu → Prop} {E : XQ} : tAndD t u η μ q E = t η μ (fun b μ1 => if b = true then u η μ1 q E else q false μ1) E := Eq.trans rfl rfl
theorem x_tOrD {t u : TDT} {η : DEnv} {μ : Mu} {q : Bool → Mu → Prop} {E : XQ} : tOrD t u η μ q E = t η μ (fun b μ1 => if b = true then q true μ1 else u η μ1 q E) E := Eq.trans rfl rfl
theorem x_tNotD {t : TDT} {η : DEnv} {μ : Mu} {q : Bool → Mu → Prop} {E : XQ} : tNotD t η μ q E = t η μ (fun b μ1 => q (!b) μ1) E := Eq.trans rfl rfl
theorem x_tYesD  {η : DEnv} {μ : Mu} {q : Bool → Mu → Prop} {E : XQ} : tYesD η μ q E = q true μ := Eq.trans rfl rfl
theorem x_dAndV {t u : TDE} {η : DEnv} {μ : Mu} {q : PQ} {E : XQ} : dAndV t u η μ q E = t η μ (fun e μ1 => withB e fun b => if b = true then u η μ1 q E else q (.dat (.bool false)) μ1) E := Eq.trans rfl rfl
theorem x_dOrV {t u : TDE} {η : DEnv} {μ : Mu} {q : PQ} {E : XQ} : dOrV t u η μ q E = t η μ (fun e μ1 => withB e fun b => if b = true then q (.dat (.bool true)) μ1 else u η μ1 q E) E := Eq.trans rfl rfl
theorem x_dNotV {t : TDE} {η : DEnv} {μ : Mu} {q : PQ} {E : XQ} : dNotV t η μ q E = t η μ (fun e μ1 => withB e fun b => q (.dat (.bool (!b))) μ1) E := Eq.trans rfl rfl
theorem x_dIfE {t : TDT} {ta tb : TDE} {η : DEnv} {μ : Mu} {q : PQ} {E : XQ} : dIfE t ta tb η μ q E = t η μ (fun b μ1 => if b = true then ta η μ1 q E else tb η μ1 q E) E := Eq.trans rfl rfl
theorem x_dOp {o : OD} {ta tb : TDE} {η : DEnv} {μ : Mu} {q : PQ} {E : XQ} : dOp o ta tb η μ q E = ta η μ (fun x μ1 => tb η μ1 (fun y μ2 => o x y μ2 q) E) E := Eq.trans rfl rfl
theorem x_dUn {o : UD} {ta : TDE} {η : DEnv} {μ : Mu} {q : PQ} {E : XQ} : dUn o ta η μ q E = ta η μ (fun x μ1 => o x μ1 q) E := Eq.trans rfl rfl
theorem x_dCB {o : CD} {t : TDA} {η : DEnv} {μ : Mu} {q : PQ} {E : XQ} : dCB o t η μ q E = t η μ (fun es μ1 => o es μ1 q) E := Eq.trans rfl rfl
theorem x_dChain {o o' : OD} {ta tb tc : TDE} {η : DEnv} {μ : Mu} {q : PQ} {E : XQ} : dChain o o' ta tb tc η μ q E = ta η μ (fun x μ1 => tb η μ1 (fun y μ2 => noNew x = true ∧ noNew y = true ∧ o x y μ2 fun z μ3 => withB z fun k => if k = true then tc η μ3 (fun w μ4 => o' y w μ4 q) E else q (.dat (.bool false)) μ3) E) E := Eq.trans rfl rfl
def intK (k : Int → Prop) (e : EV) : Prop := match e with
  | .dat (.int i) => k i
  | _ => False
theorem intK_i {k : Int → Prop} {i : Int} : intK k (.dat (.int i)) = k i := Eq.trans rfl rfl
theorem x_oNo  {η : DEnv} {μ : Mu} {q : Option Int → Mu → Prop} {E : XQ} : oNo η μ q E = q none μ := Eq.trans rfl rfl
theorem x_oSome {t : TDE} {η : DEnv} {μ : Mu} {q : Option Int → Mu → Prop} {E : XQ} : oSome t η μ q E = t η μ (fun e μ1 => intK (fun i => q (some i) μ1) e) E := Eq.trans rfl rfl
theorem x_dSl {o : SD} {te : TDE} {tl th : TDO} {η : DEnv} {μ : Mu} {q : PQ} {E : XQ} : dSl o te tl th η μ q E = te η μ (fun x μ1 => tl η μ1 (fun l μ2 => th η μ2 (fun h μ3 => o x l h μ3 q) E) E) E := Eq.trans rfl rfl
theorem x_gNm {i : Nat} {e : EV} {η : DEnv} {μ : Mu} {q : DEnv → Mu → Prop} : gNm i e η μ q = (noNew e = true ∧ q (η.set i (some e)) μ) := Eq.trans rfl rfl
theorem x_gNl0  {η : DEnv} {μ : Mu} {q : DEnv → Mu → Prop} : gNl [] η μ q = q η μ := by
  simp [gNl]
theorem x_gCn {t : TDG} {u : TDGs} {d : PyData} {r : List PyData} {η : DEnv} {μ : Mu} {q : DEnv → Mu → Prop} : gCn t u (d :: r) η μ q = t (.dat d) η μ (fun η' μ' => u r η' μ' q) := Eq.trans rfl rfl
theorem x_gTp {n : Nat} {t : TDGs} {ds : List PyData} {η : DEnv} {μ : Mu} {q : DEnv → Mu → Prop} : gTp n t (.dat (.tuple ds)) η μ q = (ds.length = n ∧ t ds η μ q) := Eq.trans rfl rfl
theorem x_gSb {to ti : TDE} {o : SetD} {e : EV} {η : DEnv} {μ : Mu} {q : DEnv → Mu → Prop} : gSb to ti o e η μ q = to η μ (fun x μ1 => ti η μ1 (fun y μ2 => o x y e μ2 fun μ3 => q η μ3) fun _ _ => False) fun _ _ => False := Eq.trans rfl rfl
theorem x_dCall {n : Nat} {sp : SpD} {des : List EV} {t : TDA} {η : DEnv} {μ : Mu} {q : PQ} {E : XQ} : dCall n sp des t η μ q E = t η μ (fun es μ1 => allOld es = true ∧ (es ++ des).length = n ∧ sp (es ++ des) μ1 q E) E := Eq.trans rfl rfl
abbrev RI := List EV → (Mu → Prop) → Mu → Prop
def seqK (r : RI) (e : EV) (μ1 : Mu) : Prop := match e with
  | .loc n => match μ1[n]? with
    | some (.lst xs) => r (xs.map .dat) (fun μ => μ[n]? = some (.lst xs) ∨ μ[n]? = some (.frz xs)) μ1
    | some (.frz xs) => r (xs.map .dat) (fun _ => True) μ1
    | _ => False
  | .dat (.tuple xs) => r (xs.map .dat) (fun _ => True) μ1
  | .dat (.list xs) => r (xs.map .dat) (fun _ => True) μ1
  | .new xs => r (xs.map .dat) (fun _ => True) μ1
  | .dat (.str z) => r (z.cps.toList.map fun c => .dat (.str ⟨#[c]⟩)) (fun _ => True) μ1
  | .ro xs => r (xs.map .dat) (fun _ => True) μ1
  | _ => False
theorem seqK_loc {r : RI} {n : Nat} {xs : List PyData} {μ : Mu} (h : μ[n]? = some (.lst xs)) : seqK r (.loc n) μ = r (xs.map .dat) (fun μ => μ[n]? = some (.lst xs) ∨ μ[n]? = some (.frz xs)) μ := by simp [seqK, h]
theorem seqK_tup {r : RI} {xs : List PyData} {μ : Mu} : seqK r (.dat (.tuple xs)) μ = r (xs.map .dat) (fun _ => True) μ := Eq.trans rfl rfl
theorem seqK_lst {r : RI} {xs : List PyData} {μ : Mu} : seqK r (.dat (.list xs)) μ = r (xs.map .dat) (fun _ => True) μ := Eq.trans rfl rfl
theorem seqK_new {r : RI} {xs : List PyData} {μ : Mu} : seqK r (.new xs) μ = r (xs.map .dat) (fun _ => True) μ := Eq.trans rfl rfl
theorem seqK_ro {r : RI} {xs : List PyData} {μ : Mu} : seqK r (.ro xs) μ = r (xs.map .dat) (fun _ => True) μ := Eq.trans rfl rfl
theorem seqK_str {r : RI} {z : Str} {μ : Mu} : seqK r (.dat (.str z)) μ = r (z.cps.toList.map fun c => .dat (.str ⟨#[c]⟩)) (fun _ => True) μ := Eq.trans rfl rfl
def rng1K (r : RI) (es : List EV) (μ1 : Mu) : Prop := match es with
  | [.dat (.int j)] => (-1000000 ≤ j ∧ j ≤ 1000000) ∧ r (rngItems 0 j.toNat) (fun _ => True) μ1
  | _ => False
def rng2K (r : RI) (es : List EV) (μ1 : Mu) : Prop := match es with
  | [.dat (.int i), .dat (.int j)] => (-1000000 ≤ i ∧ i ≤ 1000000 ∧ -1000000 ≤ j ∧ j ≤ 1000000) ∧ r (rngItems i (j - i).toNat) (fun _ => True) μ1
  | _ => False
theorem rng1_i {r : RI} {j : Int} {μ : Mu} : rng1K r [.dat (.int j)] μ = ((-1000000 ≤ j ∧ j ≤ 1000000) ∧ r (rngItems 0 j.toNat) (fun _ => True) μ) := Eq.trans rfl rfl
theorem rng2_i {r : RI} {i j : Int} {μ : Mu} : rng2K r [.dat (.int i), .dat (.int j)] μ = ((-1000000 ≤ i ∧ i ≤ 1000000 ∧ -1000000 ≤ j ∧ j ≤ 1000000) ∧ r (rngItems i (j - i).toNat) (fun _ => True) μ) := Eq.trans rfl rfl
theorem x_iSeq {t : TDE} {η : DEnv} {μ : Mu} {r : RI} {E : XQ} : iSeq t η μ r E = t η μ (fun e μ1 => seqK r e μ1) E := Eq.trans rfl rfl
theorem x_iRange1 {t : TDA} {η : DEnv} {μ : Mu} {r : RI} {E : XQ} : iRange1 t η μ r E = t η μ (fun es μ1 => rng1K r es μ1) E := Eq.trans rfl rfl
theorem x_iRange2 {t : TDA} {η : DEnv} {μ : Mu} {r : RI} {E : XQ} : iRange2 t η μ r E = t η μ (fun es μ1 => rng2K r es μ1) E := Eq.trans rfl rfl
theorem x_dBM {ty : EV → Mu → Prop} {o : MD} {to : TDE} {t : TDA} {η : DEnv} {μ : Mu} {q : PQ} {E : XQ} : dBM ty o to t η μ q E = to η μ (fun x μ1 => ty x μ1 ∧ t η μ1 (fun es μ2 => o x es μ2 q) E) E := Eq.trans rfl rfl
theorem x_dBM0 {ty : EV → Mu → Prop} {o : MD} {to : TDE} {η : DEnv} {μ : Mu} {q : PQ} {E : XQ} : dBM0 ty o to η μ q E = to η μ (fun x μ1 => ty x μ1 ∧ o x [] μ1 q) E := Eq.trans rfl rfl
theorem x_isStr {z : Str} {μ : Mu} : isStrE (.dat (.str z)) μ = True := Eq.trans rfl rfl
theorem x_isLst {n : Nat} {xs : List PyData} {μ : Mu} (h : μ[n]? = some (.lst xs)) : isLstE (.loc n) μ = True := by simp [isLstE, lstOf, h]
def boolsK (ds : List PyData) (k : List Bool → Prop) : Prop := match boolsOf ds with
  | some bs => k bs
  | none => False
theorem bools_k {bs : List Bool} {k : List Bool → Prop} : boolsK (bs.map .bool) k = k bs := by simp [boolsK, bools_map]
def intsK (ds : List PyData) (k : List Int → Prop) : Prop := match intsOf ds with
  | some bs => k bs
  | none => False
theorem ints_k {bs : List Int} {k : List Int → Prop} : intsK (bs.map .int) k = k bs := by simp [intsK, ints_map]
def strsK (ds : List PyData) (k : List Str → Prop) : Prop := match strsOf ds with
  | some bs => k bs
  | none => False
theorem strs_k {bs : List Str} {k : List Str → Prop} : strsK (bs.map .str) k = k bs := by simp [strsK, strs_map]
def lstK (μ : Mu) (e : EV) (k : List PyData → Prop) : Prop := match lstOf μ e with
  | some ds => k ds
  | none => False
def sqK (μ : Mu) (e : EV) (k : List PyData → Prop) : Prop := match seqOf μ e with
  | some ds => k ds
  | none => False
theorem lstK_lst {xs : List PyData} {k : List PyData → Prop} {μ : Mu} : lstK μ (.dat (.list xs)) k = k xs := Eq.trans rfl rfl
theorem lstK_new {xs : List PyData} {k : List PyData → Prop} {μ : Mu} : lstK μ (.new xs) k = k xs := Eq.trans rfl rfl
theorem lstK_loc {n : Nat} {xs : List PyData} {k : List PyData → Prop} {μ : Mu} (h : μ[n]? = some (.lst xs)) : lstK μ (.loc n) k = k xs := by simp [lstK, lstOf, h]
theorem sqK_lst {xs : List PyData} {k : List PyData → Prop} {μ : Mu} : sqK μ (.dat (.list xs)) k = k xs := Eq.trans rfl rfl
theorem sqK_new {xs : List PyData} {k : List PyData → Prop} {μ : Mu} : sqK μ (.new xs) k = k xs := Eq.trans rfl rfl
theorem sqK_tup {xs : List PyData} {k : List PyData → Prop} {μ : Mu} : sqK μ (.dat (.tuple xs)) k = k xs := Eq.trans rfl rfl
theorem sqK_ro {xs : List PyData} {k : List PyData → Prop} {μ : Mu} : sqK μ (.ro xs) k = k xs := Eq.trans rfl rfl
theorem sqK_loc {n : Nat} {xs : List PyData} {k : List PyData → Prop} {μ : Mu} (h : μ[n]? = some (.lst xs)) : sqK μ (.loc n) k = k xs := by simp [sqK, seqOf, tupOf, roOf, lstOf, h]
theorem x_oAll {f : List Bool → Bool} {e : EV} {μ : Mu} {q : PQ} : oAll f [e] μ q = lstK μ e fun ds => boolsK ds fun bs => q (.dat (.bool (f bs))) μ := Eq.trans rfl rfl
theorem x_oSum {e : EV} {μ : Mu} {q : PQ} : oSum [e] μ q = lstK μ e fun ds => intsK ds fun bs => q (.dat (.int bs.sum)) μ := Eq.trans rfl rfl
theorem x_oJoin {a : Str} {e : EV} {μ : Mu} {q : PQ} : oJoin (.dat (.str a)) [e] μ q = sqK μ e fun ds => strsK ds fun ys => (ys.map (·.length)).sum + ys.length * a.length ≤ 100000 ∧ q (.dat (.str (Str.join a ys))) μ := Eq.trans rfl rfl
theorem x_oList {e : EV} {μ : Mu} {q : PQ} : oList [e] μ q = sqK μ e fun ds => q (.new ds) μ := Eq.trans rfl rfl
theorem x_oTuple {e : EV} {μ : Mu} {q : PQ} : oTuple [e] μ q = sqK μ e fun ds => q (.dat (.tuple ds)) μ := Eq.trans rfl rfl
theorem x_oIsN {x y : EV} {μ : Mu} {q : PQ} : oIsN x y μ q = (isRaw x = false ∧ isNon y = true ∧ q (.dat (.bool (isNon x))) μ) := Eq.trans rfl rfl
theorem x_oNotN {x y : EV} {μ : Mu} {q : PQ} : oNotN x y μ q = (isRaw x = false ∧ isNon y = true ∧ q (.dat (.bool (!isNon x))) μ) := Eq.trans rfl rfl
theorem x_lc {ti : TDI} {g : TDG} {tt : TDT} {te : TDE} {vs : List Nat} {η : DEnv} {μ : Mu} {q : PQ} {E : XQ} : dLc ti g tt te vs η μ q E = ti η μ (LcG g tt te vs η q) E := Eq.trans rfl rfl
theorem exitQ_lt {N n : Nat} {q : PQ} {μ : Mu} (h : n < N) : DL.exitQ N q (.loc n) μ = q (.loc n) (μ.take N) := by simp [DL.exitQ, h]
theorem exitQ_lst {N n : Nat} {q : PQ} {μ : Mu} {xs : List PyData} (h : N ≤ n) (h2 : μ[n]? = some (.lst xs)) : DL.exitQ N q (.loc n) μ = q (.new xs) (μ.take N) := by
  have : ¬ n < N := by omega
  simp [DL.exitQ, this, h2]
theorem cl_nil {N : Nat} : clean N [] = [] := Eq.trans rfl rfl
theorem cl_none {N : Nat} {η : DEnv} : clean N (none :: η) = none :: clean N η := Eq.trans rfl rfl
theorem cl_dat {N : Nat} {η : DEnv} {d : PyData} : clean N (some (.dat d) :: η) = some (.dat d) :: clean N η := Eq.trans rfl rfl
theorem cl_ro {N : Nat} {η : DEnv} {d : List PyData} : clean N (some (.ro d) :: η) = some (.ro d) :: clean N η := Eq.trans rfl rfl
theorem cl_raw {N : Nat} {η : DEnv} {d : V} : clean N (some (.raw d) :: η) = some (.raw d) :: clean N η := Eq.trans rfl rfl
theorem cl_odat {N : Nat} {η : DEnv} {o : Option PyData} : clean N (o.map EV.dat :: η) = o.map EV.dat :: clean N η := by
  cases o <;> rfl
theorem cl_loc {N n : Nat} {η : DEnv} (h : n < N) : clean N (some (.loc n) :: η) = some (.loc n) :: clean N η := by simp [clean, h]
theorem cl_locg {N n : Nat} {η : DEnv} (h : N ≤ n) : clean N (some (.loc n) :: η) = none :: clean N η := by
  have : ¬ n < N := by omega
  simp [clean, this]
theorem od_some {d : PyData} : (some d).map EV.dat = some (.dat d) := Eq.trans rfl rfl
/-- a law's call throws nothing -/
theorem cx_no {P : Program} {w : World} {o : List Env} {H : Hp} {s s' : Shared} {e : Value} (x : L2.CX P w o H s (fun _ _ _ => False) e s') : False := by
  obtain ⟨_, _, _, _, _, _, _, _, _, _, _, _, z⟩ := x
  exact z
end DL

set_option Elab.async false
set_option linter.all false
set_option maxRecDepth 100000
set_option maxHeartbeats 4000000
namespace DL
open PySem PySem.Spec PyProof.Rows L2
/-! ### exceptions: raised, caught, kept -/
section
variable {X : Cx} {pins : List (Addr × Obj)} {σ : L2.St} {H : Hp} {sI s' : Shared} {B : Heap}
/-- back on the ground, the exception's object tracked from now on -/
theorem landedK (I : Inv X pins σ H sI) (nb : ∀ b o, sI.heap.get? b = some o → b ∉ frs X.stack → B.get? b = some o) (st : B.StaysIn s'.heap) (up : sI.heap.UpToSlots s'.heap) (os : s'.os = sI.os) (ag : AllBare s'.gens)
    {a : Addr} {oe : Obj} {vs : Array Value} {cls : Value} {d : Option Addr} (hB : B.get? a = none) (na : H a = none) (nfr : a ∉ frs X.stack) (he : s'.heap.get? a = some oe) (hz : Zc cls d oe) (hd : oe.data = .fields vs) :
    Inv X pins σ (upd H a (excO a cls d)) s' := by
  have ha : sI.heap.get? a = none := by
    cases q : sI.heap.get? a with
    | none => rfl
    | some o => rw [nb a o q nfr] at hB; cases hB
  have nf : ∀ b ∈ frs X.stack, ∀ o, sI.heap.get? b = some o → ∃ sl, s'.heap.get? b = some { o with slots := sl } := fun b hb o e => by
    obtain ⟨_, o', e', hd⟩ := I.stack.mem hb
    rw [e] at e'; cases e'
    exact up b o e hd
  have ne : ∀ b o, sI.heap.get? b = some o → b ≠ a := fun b o e z => by rw [z, ha] at e; cases e
  have G : HOk X.prog X.w H s'.heap := (I.inGround nb).kept st
  have same : ∀ b u, H b = some u → upd H a (excO a cls d) b = some u := fun b u q => by rw [upd_ne (ne_of_none q na)]; exact q
  have J := I.call (ch := []) (h' := s'.heap) (g' := s'.gens) (t' := s'.toks) (d' := s'.drawn) (H' := upd H a (excO a cls d))
    ⟨fun b o e _ hb _ => st b o (nb b o e hb), fun b o e _ hb _ => nf b hb o e, fun b o e n _ => by rw [upd_ne (ne b o e)]; exact n, fun b o e _ => by
      by_cases hb : b ∈ frs X.stack
      · obtain ⟨sl, q⟩ := nf b hb o e
        exact ⟨_, q⟩
      · exact ⟨o, st b o (nb b o e hb)⟩, fun b xs e => same b _ e, fun b o u e => same b _ e, fun b ps e => ⟨#[], by rw [same b _ e]; simp⟩⟩
    (fun b u e => by
      by_cases hb : b = a
      · subst hb
        rw [upd_same] at e
        cases e
        exact ⟨⟨oe, vs, he, hz, hd⟩, ⟨oe, he⟩, fun h1 h2 ⟨o, ws, q, z⟩ k => ⟨o, ws, k o q, z⟩⟩
      · rw [upd_ne hb] at e
        exact (G b u e).stay (fun c v _ q => q) (fun c q => same c _ q) fun c xs q => same c _ q) ag (fun _ z => nomatch z)
  obtain ⟨a1, a2, a3, a4, a5⟩ := s'
  have e5 : a5 = sI.os := os
  subst e5
  exact J
theorem unsuiteK {a : Addr} (I : Inv (X.suite a (X.pn ++ pins)) [] σ H sI) (ok : X.Ok) : Inv X pins σ H sI :=
  ⟨ok, I.os, I.bare, I.base, I.loc, I.cell, I.free, I.freeC, fun p hp => I.pin p (by rw [List.append_nil]; exact hp), I.hok, I.len⟩
theorem suiteK {a : Addr} (I : Inv X pins σ H sI) : Inv (X.suite a (X.pn ++ pins)) [] σ H sI :=
  ⟨I.ok.suite _ _, I.os, I.bare, I.base, I.loc, I.cell, I.free, I.freeC, fun p hp => I.pin p (by rw [List.append_nil] at hp; exact hp), I.hok, I.len⟩
end
/-- what 'except x as n' wishes, the exception kept -/
def wKeep (K : PySem.W.Frag) (c : Value) (i : Nat) (ts : Addr → Value → Option Addr → TS) (Wout : WX) (D : Ends) : WX := fun cls d σ H =>
  ∃ b, PySem.W.exmOne K cls c = some b ∧ (b = true → ∀ a, H a = none → ts a cls d { nx := fun σ' H' => D.nx (σ'.set i none) H', rt := D.rt, bk := fun σ' H' => D.bk (σ'.set i none) H', ct := fun σ' H' => D.ct (σ'.set i none) H' } (σ.set i (some (.ref a))) (upd H a (excO a cls d))) ∧
    (b = false → Wout cls d σ H)
section
variable {X : Cx} {x n : Str} {c : Value} {i : Nat} {body suite : List Stmt} {b₀ : Stmt} {np pos pos' : Pos} {tb : WX → TS} {ts : Addr → Value → Option Addr → TS} {Wout : WX}
/-- out of a try's body, nothing raised -/
theorem outTry {pins : List (Addr × Obj)} {xe : Value → Shared → Prop} {D : Ends} {f : Flow} {s : Shared} (ok : X.Ok) (h : SP (X.tr (X.pn ++ pins) xe) [] D f s) : SP X pins D f s := by
  cases f <;> (try obtain ⟨u, t, r, I, j, k⟩ := h) <;> first
    | exact ⟨u, t, r, I.ofTry ok, j, k⟩
    | (obtain ⟨t, r, I, k⟩ := h; exact ⟨t, r, I.ofTry ok, k⟩)
/-- out of an except suite: the clause's name goes -/
theorem outSuite {pins : List (Addr × Obj)} {a : Addr} {D : Ends} {f : Flow} {s : Shared} (ok : X.Ok) (hN : X.N.Nodup) (hi : X.N[i]? = some n) (hln : X.env.kindOf n = some .local)
    (h : SP (X.suite a (X.pn ++ pins)) [] { nx := fun σ' H' => D.nx (σ'.set i none) H', rt := D.rt, bk := fun σ' H' => D.bk (σ'.set i none) H', ct := fun σ' H' => D.ct (σ'.set i none) H' } f s) :
    wpAny (model X.prog X.w) X.A (do bindName X.env n .none; unbindBehindTheSuite X.env n pos') (fun _ s7 => SP X pins D f s7) X.xe s := by
  cases f with
  | ret u =>
    obtain ⟨v, t, r, I, j, k⟩ := h
    exact gone_ok (unsuiteK I ok) hN hi hln fun s7 J => ⟨v, _, r, J, j, k⟩
  | _ =>
    obtain ⟨t, r, I, k⟩ := h
    exact gone_ok (unsuiteK I ok) hN hi hln fun s7 J => ⟨_, r, J, k⟩
/-- no clause takes it: on it flies -/
theorem flyOn {pins : List (Addr × Obj)} {σ : L2.St} {H : Hp} {sI s : Shared} {B : Heap} {a : Addr} {cls : Value} {d : Option Addr} {R : Flow → Shared → Prop} (hs : X.stack = X.env :: X.outer) (hf : X.env.frame = some X.env.locals) (tk : Takes X Wout)
    (I : Inv X pins σ H sI) (nb : ∀ b o, sI.heap.get? b = some o → b ∉ frs X.stack → B.get? b = some o) (up : sI.heap.UpToSlots s.heap) (fl : HandSPX.FlyingZ B (X.env :: X.outer) a (Zc cls d) s.heap) (na : H a = none) (os : s.os = sI.os) (ag : AllBare s.gens) (w : Wout cls d σ H) :
    wpAny (model X.prog X.w) X.A (handleBy (.ref a) X.env []) R X.xe s := by
  have e : wpAny (model X.prog X.w) X.A (setFlight (.ref a) X.env.frame) (fun _ s4 => wpAny (model X.prog X.w) X.A (throw (.ref a) : Sem Flow) R X.xe s4) X.xe s := by
    rw [hf]
    exact HandSPX.setFlight_upZ fl fun h4 q up' => wpAny_throw (tk _ _ ⟨a, B, sI, pins, σ, H, cls, d, rfl, I, nb, up.trans up', .inr (.inr (by rw [hs]; exact q)), na, os, ag, w⟩)
  obtain ⟨_, _, _, oe, vs, T, _, _, he, _, hd, h1, _⟩ := id fl
  refine wpAny_handleBy_nil ?_
  unfold PySem.passOn
  refine wpAny_bind (wpAny_field he hd h1 ?_)
  rw [if_neg (by simp)]
  first | exact wpAny_bind (wpAny_pure (wpAny_bind e)) | exact wpAny_bind e
theorem ps_try_keep (hs : X.stack = X.env :: X.outer) (hf : X.env.frame = some X.env.locals) (hN : X.N.Nodup) (hi : X.N[i]? = some n) (hln : X.env.kindOf n = some .local) (hc : Names X x c) (tk : Takes X Wout)
    (body_ : ∀ (W : WX) (pn : List (Addr × Obj)) (xe : Value → Shared → Prop), Takes (X.tr pn xe) W → PassesOwn (model X.prog X.w) X.A X.env xe → PSs (X.tr pn xe) body (tb W))
    (suite_ : ∀ (a : Addr) (cls : Value) (d : Option Addr) (pn : List (Addr × Obj)), PSs (X.suite a pn) (b₀ :: suite) (ts a cls d)) :
    PS X (.Try body [.ExceptHandler (some (.Name x np)) (some n) (b₀ :: suite) pos'] [] [] pos) (fun D σ H => tb (wKeep X.K c i ts Wout D) D σ H) := by
  refine ⟨fun pins s σ H D I h => wpAny_Try_except ?_⟩
  have ok := I.ok
  have fr0 : X.A.frames = some (X.env :: X.outer) := hs ▸ ok.frames
  have p := (body_ (wKeep X.K c i ts Wout D) (X.pn ++ pins) (fun e t => wpAny (model X.prog X.w) X.A (noteFrame e X.env) (fun _ t2 => wpAny (model X.prog X.w) X.A (setFlight e none) (fun _ t3 =>
    wpAny (model X.prog X.w) X.A (handleBy e X.env [.ExceptHandler (some (.Name x np)) (some n) (b₀ :: suite) pos']) (SP X pins D) X.xe t3) X.xe t2) X.xe t) (fun u t caught => ?_) PassesOwn.looking).run [] s σ H D (I.toTry _) h
  · refine wpAny_mono p (fun f t hsp => ?_) fun _ _ z => z
    have q := outTry ok hsp
    cases f with
    | next => exact wpAny_execs_nil q
    | _ => exact q
  · obtain ⟨a, B, sI, pins', σ', H', cls, d, rfl, J0, nb, up, sky, na, os, ag, b, hb, yes, no⟩ := caught
    have J := J0.ofTry ok
    refine Sky.land Zc.steady fr0 hf (hs ▸ sky : Sky B (X.env :: X.outer) a (Zc cls d) X.env.locals t.heap) fun h3 fl3 up3 => ?_
    have J3 : Inv X pins σ' H' { t with heap := h3 } := J.landed nb fl3.1 (up.trans up3) os ag
    have S3 := suiteK (a := a) J3
    obtain ⟨oe3, vs3, he3, hz3, hd3⟩ := fl3.there
    have out : a ∉ frs X.stack := by
      rw [hs]
      intro hm
      obtain ⟨_, o', e', z⟩ := fl3.2.2.1.mem hm
      cases he3.symm.trans e'
      exact z _ hd3
    have LT : PySem.W.Looks (model X.prog X.w) h3 (typeOf (.ref a)) cls := fun A Q E s k q => wpAny_typeOf_ref (k _ _ he3) (hz3.1 ▸ q)
    have sees : ∀ {Q E : Value → Shared → Prop}, Q c { t with heap := h3 } → wpAny (model X.prog X.w) (X.A.mark (some (.ref a))) (eval (.Name x np) X.env) Q E { t with heap := h3 } := fun q =>
      match hc with
      | ⟨hg, hd, .inl hm⟩ => ld_glob (X := X.suite a (X.pn ++ pins)) S3 hg hm q hd
      | ⟨hg, hd, .inr ⟨hm, hv, ne⟩⟩ => ld_blt (X := X.suite a (X.pn ++ pins)) S3 hg hm hv q ne hd
    refine wpAny_handleBy_cons (codeAny_handlers_test (sees ((PySem.W.exm_one (M := model X.prog X.w) J3.kIn LT hb).here ?_))) (by intro z; cases z)
    cases b with
    | false => exact flyOn hs hf tk J nb (up.trans up3) fl3 na os ag (no rfl)
    | true =>
      refine codeAny_handlers_suite_as (HandSPX.lands_againZ fl3 fun h4 fl4 up4 => ?_)
      obtain ⟨oe4, vs4, he4, hz4, hd4⟩ := fl4.there
      have J4 : Inv X pins σ' (upd H' a (excO a cls d)) { t with heap := h4 } := landedK (s' := { t with heap := h4 }) J nb fl4.1 ((up.trans up3).trans up4) os ag fl3.2.1 na out he4 hz4 hd4
      refine store_ok (X := X.suite a (X.pn ++ pins)) (v := .ref a) (suiteK J4) hN hi (.inl hln) rfl (fun s5 S5 => ?_) (.inr hln)
      exact wpAny_mono ((suite_ a cls d (X.pn ++ pins)).run [] s5 _ _ _ S5 (yes rfl a na)) (fun f s6 hsp => outSuite ok hN hi hln hsp) fun _ _ z => z.elim
end
end DL

set_option Elab.async false
set_option linter.all false
set_option maxRecDepth 100000
set_option maxHeartbeats 4000000
namespace DL
open PySem PySem.Spec PyProof.Rows L2
section
variable {K : PySem.W.Frag} {s : Wd} {μ : Mu}
/-- the world that holds an exception's object too -/
def Wd.trk (s : Wd) (a : Addr) (o : HO) : Wd := { s with H := upd s.H a o, F := upd s.F a o }
theorem trk_ok {a : Addr} {o : HO} (R : Rep K s μ) (na : s.H a = none) : Rep K (s.trk a o) μ ∧ Ext s μ.length (s.trk a o) μ.length := by
  have fa : s.F a = none := by
    cases q : s.F a with
    | none => rfl
    | some u => rw [R.sub a u q] at na; cases na
  have eF : Same s.F (upd s.F a o) := fun b u q => by rw [upd_ne (ne_of_none q fa)]; exact q
  have eH : ∀ b u, s.H b = some u → upd s.H a o b = some u := fun b u q => by rw [upd_ne (ne_of_none q na)]; exact q
  refine ⟨⟨fun b u q => ?_, fun n c q => ?_, R.inj⟩, ⟨eF, fun _ _ => rfl, Nat.le_refl _, fun b u q _ => eH b u q, fun b h1 _ h3 _ => ?_, fun n h1 h2 => absurd h1 (Nat.not_le_of_lt h2)⟩⟩
  · have q' : upd s.F a o b = some u := q
    show upd s.H a o b = some u
    by_cases hb : b = a
    · subst hb
      rw [upd_same] at q' ⊢
      exact q'
    · rw [upd_ne hb] at q' ⊢
      exact R.sub b u q'
  · have C := R.cell n c q
    have hn : s.L n ≠ a := fun e => R.here (List.getElem?_eq_some_iff.mp q).1 (by rw [e]; exact na)
    cases c with
    | lst xs =>
      obtain ⟨h1, ws, h2, h3⟩ := C
      exact ⟨(upd_ne hn).trans h1, ws, eH _ _ h2, h3.mono eF⟩
    | frz xs =>
      obtain ⟨ws, h2, h3⟩ := C
      exact ⟨ws, eF _ _ h2, h3.mono eF⟩
    | dct kvs =>
      obtain ⟨h1, ks, h2, h3, h4⟩ := C
      exact ⟨(upd_ne hn).trans h1, ks, eH _ _ h2, h3, h4.mono eF⟩
    | dck kvs =>
      obtain ⟨h1, ks, h2, h3, h4⟩ := C
      exact ⟨(upd_ne hn).trans h1, ks, eH _ _ h2, h3, h4.mono eF⟩
    | abs P =>
      obtain ⟨xs, hP, h1, ws, h2, h3⟩ := C
      exact ⟨xs, hP, (upd_ne hn).trans h1, ws, eH _ _ h2, h3.mono eF⟩
    | dead =>
      show upd s.H a o (s.L n) ≠ none
      rw [upd_ne hn]
      exact C
  · show upd s.F a o b = none
    have : b ≠ a := fun e => h3 (by rw [e]; exact na)
    rw [upd_ne this]
    exact h1
end

/-- a block that raises, if it does, with the slots as they were ahead of it -/
structure DSx (X : Cx) (W : WX) (st : List Stmt) (td : TDS) : Prop where
  ex : ∃ t : TS, PSs X st t ∧ ∀ (s : Wd) (σ : L2.St) (η : DEnv) (μ : Mu) (D : Ends) (d : DEnds) (E : XQ), Sit X.K s μ σ η → td d E η μ → LS X.K s μ.length d EF D W → LX X.K s μ.length σ E W → t D σ s.H
def upS (K : PySem.W.Frag) (W : WX) (td : TDS) : TS := fun D σ H => ∃ (s : Wd) (η : DEnv) (μ : Mu) (d : DEnds) (E : XQ), s.H = H ∧ Sit K s μ σ η ∧ td d E η μ ∧ LS K s μ.length d EF D W ∧ LX K s μ.length σ E W
theorem up_dsx {X : Cx} {W : WX} {st : List Stmt} {td : TDS} (h : DSx X W st td) : PSs X st (upS X.K W td) := by
  obtain ⟨t, p, g⟩ := h.ex
  refine ⟨fun pins sh σ H D I hq => ?_⟩
  obtain ⟨s, η, μ, d, E, rfl, S, q, l, lx⟩ := hq
  exact p.run pins sh σ s.H D I (g s σ η μ D d E S q l lx)
theorem LS.none {K : PySem.W.Frag} {s : Wd} {N : Nat} {d : DEnds} {E : XQ} {D : Ends} {W W' : WX} (l : LS K s N d E D W) : LS K s N d EF D W' := ⟨l.nx, l.rt, l.bk, l.ct, fun _ _ _ _ _ _ z => z.elim⟩
def upN (K : PySem.W.Frag) (td : TDS) : TS := fun D σ H => ∃ (s : Wd) (η : DEnv) (μ : Mu) (d : DEnds), s.H = H ∧ Sit K s μ σ η ∧ td d EF η μ ∧ LS K s μ.length d EF D WF
theorem up_dss {X : Cx} {st : List Stmt} {td : TDS} (h : DSs X WF st td) : PSs X st (upN X.K td) := by
  obtain ⟨t, p, g⟩ := h.ex
  refine ⟨fun pins sh σ H D I hq => ?_⟩
  obtain ⟨s, η, μ, d, rfl, S, q, l⟩ := hq
  exact p.run pins sh σ s.H D I (g s σ η μ D d EF S q l)
section
variable {X : Cx} {W : WX} {e : Expr} {te : TDE} {pos : Pos}
theorem dsx_set {i : Nat} {x : Str} {pos' : Pos} (hN : X.N.Nodup) (hi : X.N[i]? = some x) (hx : Loc X.env.scope x) (he : DE X W e te) (hs : swapsWith e (some (.Name x pos')) pos.line X.env = pure false := by rfl) (hf : X.fn x = true ∨ X.env.scope.names.lookup x = some .local := by first | exact .inl rfl | exact .inr rfl | assumption) :
    DSx X W [.Assign [.Name x pos'] e pos] (sAsg te (gNm i)) := by
  obtain ⟨t1, p1, g1⟩ := he.ex
  refine ⟨_, pss_one (ps_set hN hi hx p1 hs hf), fun s σ η μ D d E S hq l lx => g1 s σ η μ _ _ E S hq (fun ev μ1 v s1 hk x R r f => ?_) lx⟩
  have S1 := S.go x R
  exact l.nx _ μ1 _ s1 hk.2 x ⟨R, S1.er.set i r⟩
theorem dsx_expr (h : DE X W e te) (hs : swapsWith e none pos.line X.env = pure false := by rfl) : DSx X W [.Expr e pos] (sDrop te) := by
  obtain ⟨t1, p1, g1⟩ := h.ex
  exact ⟨_, pss_one (ps_expr p1 hs), fun s σ η μ D d E S hq l lx => g1 s σ η μ _ _ E S hq (fun ev μ1 v s1 hk x R r f => l.nx η μ1 σ s1 hk x (S.go x R)) lx⟩
end

/-- try: body, except C as n: suite; the exception stands in slot i -/
def sTry (K : PySem.W.Frag) (c : Value) (i : Nat) (tb ts : TDS) : TDS := fun d E η μ => tb d (fun x μ' => ∃ b, PySem.W.exmOne K (.ref x.c) c = some b ∧
  (b = true → ts { nx := fun η' μ2 => d.nx (η'.set i none) μ2, rt := d.rt, bk := fun η' μ2 => d.bk (η'.set i none) μ2, ct := fun η' μ2 => d.ct (η'.set i none) μ2 } EF (η.set i (some (.exc x))) μ') ∧ (b = false → E x μ')) η μ
section
variable {X : Cx} {W : WX} {x n : Str} {c : Value} {i : Nat} {body suite : List Stmt} {b₀ : Stmt} {np pos pos' : Pos} {tb ts : TDS}
theorem ds_try (hs : X.stack = X.env :: X.outer) (hf : X.env.frame = some X.env.locals) (hN : X.N.Nodup) (hi : X.N[i]? = some n) (hln : X.env.kindOf n = some .local) (hc : Names X x c) (tk : Takes X W)
    (hb : ∀ (W' : WX) (pn : List (Addr × Obj)) (xe : Value → Shared → Prop), Takes (X.tr pn xe) W' → PassesOwn (model X.prog X.w) X.A X.env xe → DSx (X.tr pn xe) W' body tb)
    (hsu : ∀ (a : Addr) (pn : List (Addr × Obj)), DSs (X.suite a pn) WF (b₀ :: suite) ts) :
    DS X W (.Try body [.ExceptHandler (some (.Name x np)) (some n) (b₀ :: suite) pos'] [] [] pos) (sTry X.K c i tb ts) := by
  refine ⟨_, ps_try_keep (tb := fun W' => upS X.K W' tb) (ts := fun _ _ _ => upN X.K ts) hs hf hN hi hln hc tk (fun W' pn xe tk' po => up_dsx (hb W' pn xe tk' po)) (fun a _ _ pn => up_dss (hsu a pn)), fun s σ η μ D d E S hq l => ?_⟩
  refine ⟨s, η, μ, d, _, rfl, S, hq, l.none, fun y μ' cls dd s' hE x' R r => ?_⟩
  obtain ⟨b, hb1, yes, no⟩ := hE
  obtain ⟨rfl, hr⟩ := id r
  refine ⟨b, hb1, fun h a na => ?_, fun h => l.xq y μ' _ dd σ s' (no h) x' R r⟩
  obtain ⟨R2, x2⟩ := trk_ok (o := excO a (.ref y.c) dd) R na
  have x3 := x'.trans x2 fun n hn => R.here hn
  have v : VR X.K (s'.trk a (excO a (.ref y.c) dd)) μ'.length (.ref a) (.exc y) := ⟨a, dd, rfl, upd_same, fun h => by
    rw [h] at hr
    cases dd with
    | none => rfl
    | some _ => exact hr.elim⟩
  have S2 : Sit X.K (s'.trk a (excO a (.ref y.c) dd)) μ' (σ.set i (some (.ref a))) (η.set i (some (.exc y))) := ⟨R2, (S.er.ext x3).set i v⟩
  have l2 := l.go x3 R2
  refine ⟨_, _, μ', _, rfl, S2, yes h, ⟨fun η' μ3 σ' s3 hk x4 S4 => ?_, l2.rt, fun η' μ3 σ' s3 hk x4 S4 => ?_, fun η' μ3 σ' s3 hk x4 S4 => ?_, fun _ _ _ _ _ _ z => z.elim⟩⟩
  · exact l2.nx _ μ3 _ s3 hk x4 ⟨S4.rep, S4.er.wipe1 i⟩
  · exact l2.bk _ μ3 _ s3 hk x4 ⟨S4.rep, S4.er.wipe1 i⟩
  · exact l2.ct _ μ3 _ s3 hk x4 ⟨S4.rep, S4.er.wipe1 i⟩
end

/-- raise C('m'), C without own __init__ -/
def sRaise (C : Addr) : TDS := fun _ E _ μ => E ⟨C, none⟩ μ
theorem ds_raise {X : Cx} {W : WX} {C : Addr} {bmB : List Value} {B newId initId : String} {x m : Str} {j : Nat} {p p2 pos pos' : Pos} (hc : X.calm = true) (tk : Takes X W) (F : ExcBaseFacts B newId initId bmB) (q : PySem.W.excIn X.K C bmB newId = true) (gC : X.mg x = some (.ref C)) (kC : PySem.W.keepIn X.K (.ref C) = true) (r : Raises X (.ref C)) (hg : Gl X x)
    (hdb : (x == ("__debug__" : Str)) = false := by decide) : DS X W (.Raise (some (.Call (.Name x p) [.Constant (.str m) j p2] [] pos)) none pos') (sRaise C) :=
  ⟨_, ps_raise hc tk (pmk_own F q gC kC r hg hdb), fun s σ η μ D d E S hq l => l.xq ⟨C, none⟩ μ (.ref C) none σ s hq (Ext.refl _ _) S.rep ⟨rfl, trivial⟩⟩

/-- isinstance of a caught one that is kept -/
def rIsK (K : PySem.W.Frag) : List V → Hp → VK → Prop := fun xs H Q => ∃ (a D : Addr) (c : V) (cv : Value) (b : Bool), xs = [.ref a, c] ∧ H a = some (excO a (.ref D) none) ∧ ExcC K D ∧ (∀ u, RelV c u → u = cv) ∧ PySem.W.kitOne K (.ref D) cv = some b ∧ Q (.bl b) H
theorem call_isK {X : Cx} : CallR X (.builtin "isinstance") (rIsK X.K) := by
  intro pins s σ H xs us Q I r h
  obtain ⟨a, D, c, cv, b, rfl, hH, C, hcv, e, q⟩ := h
  cases r with
  | cons rx rr =>
    cases rr with
    | cons rt rr =>
      cases rr
      cases rx
      cases hcv _ rt
      obtain ⟨⟨oe, vs, hget, hz, hv⟩, _, _⟩ := I.hok a _ hH
      have J : PySem.W.InstAt s.heap a oe D none := by
        obtain ⟨oc, od, oda, osl⟩ := oe
        obtain ⟨h1, h2⟩ := hz
        dsimp only at h1 h2 hv
        subst h1 h2 hv
        exact ⟨hget, rfl, rfl, trivial⟩
      exact PySem.W.kia_one (PySem.W.handS_kitx_exc C.hg C.hk C.hs C.hd C.ha C.hn C.ht C.hm) I.kIn J e (fun z => nomatch z) fun tk => ⟨.bl b, H, I.kept (t' := tk) fun _ _ z => z, rfl, q⟩
/-- .. by data: the class is a value that is known -/
def oIsK (K : PySem.W.Frag) (D : Addr → Prop) : CD := fun es μ q => match es with
  | [.exc y, .raw v] => y.fs = none ∧ ExcC K y.c ∧ ∃ cv b, (∀ u, RelV v u → u = cv) ∧ PySem.W.kitOne K (.ref y.c) cv = some b ∧ q (.dat (.bool b)) μ
  | _ => False
theorem cs_isK {K : PySem.W.Frag} {D : Addr → Prop} : CallS K (rIsK K) (oIsK K D) := by
  intro s0 N0 s μ xs es q Q R xt r h l
  unfold oIsK at h
  split at h
  · obtain ⟨hf, C, cv, b, h1, h2, hq⟩ := h
    cases r with
    | cons rx fx rr =>
      cases rr with
      | cons ry fy rr =>
        cases rr
        obtain ⟨a, d, rfl, e, hd⟩ := rx
        cases hd hf
        cases ry
        exact ⟨a, _, _, cv, b, rfl, R.sub _ _ e, C, h1, h2, l _ _ _ s hq xt R (.bl b) trivial⟩
  · exact h.elim
end DL

set_option Elab.async false
set_option linter.all false
set_option maxRecDepth 100000
set_option maxHeartbeats 4000000
namespace DL
open PySem PySem.Spec PyProof.Rows L2
/-! ### in, sorted, int, classes as values -/
section
variable {X : Cx} {W : WX} {e : Expr} {te : TDE} {pos : Pos}
/-- a class of the program as a value -/
theorem de_gcls {x : Str} {C : Addr} (hm : X.mg x = some (.ref C)) (hg : Gl X x := by rfl) (hd : (x == ("__debug__" : Str)) = false := by decide) : DE X W (.Name x pos) (dRaw (.ref C)) := de_raw (pe_glob (v := .ref C) hg hm rfl hd)
end
/-- the data that a list or a tuple holds -/
def boxD : PyData → Option (List PyData)
  | .list ds => some ds
  | .tuple ds => some ds
  | _ => none
def rMem (K : PySem.W.Frag) (neg : Bool) : R2 := fun x y H Q => ∃ d c ds, Dp K H x d ∧ Dp K H y c ∧ boxD c = some ds ∧ d.canLay0 = true ∧ c.canLay0 = true ∧ d.depth ≤ 60 ∧ Q (.bl (if neg then !ds.any fun z => PyData.eqv z d else ds.any fun z => PyData.eqv z d)) H
theorem opD_in {X : Cx} (hu : X.A.units + 64 < cLine) : OpR X (compareOp .In) (rMem X.K false) := by
  intro pins s σ H x y v u Q I rx ry h
  obtain ⟨d, c, ds, hd, hc, hb, ld, lc, dd, q⟩ := h
  obtain ⟨as, r1⟩ := Dp.reads I d x v hd rx
  obtain ⟨bs, r2⟩ := Dp.reads I c y u hc ry
  have room : X.A.units + 1 + min (PyData.depthAll ds) d.depth < cLine := by omega
  cases c with
  | list es =>
    cases hb
    exact SeqAt.in_list_reads r2 r1 (by simpa [PyData.canLay0] using lc) ld room ⟨.bl _, H, I, rfl, q⟩
  | tuple es =>
    cases hb
    exact SeqAt.in_tuple_reads r2 r1 (by simpa [PyData.canLay0] using lc) ld room ⟨.bl _, H, I, rfl, q⟩
  | _ => cases hb
theorem opD_notIn {X : Cx} (hu : X.A.units + 64 < cLine) : OpR X (compareOp .NotIn) (rMem X.K true) := by
  intro pins s σ H x y v u Q I rx ry h
  obtain ⟨d, c, ds, hd, hc, hb, ld, lc, dd, q⟩ := h
  obtain ⟨as, r1⟩ := Dp.reads I d x v hd rx
  obtain ⟨bs, r2⟩ := Dp.reads I c y u hc ry
  have room : X.A.units + 1 + min (PyData.depthAll ds) d.depth < cLine := by omega
  cases c with
  | list es =>
    cases hb
    exact SeqAt.notIn_list_reads r2 r1 (by simpa [PyData.canLay0] using lc) ld room ⟨.bl _, H, I, rfl, q⟩
  | tuple es =>
    cases hb
    exact SeqAt.notIn_tuple_reads r2 r1 (by simpa [PyData.canLay0] using lc) ld room ⟨.bl _, H, I, rfl, q⟩
  | _ => cases hb
def oMem (neg : Bool) : OD := fun x y μ q => match datOf μ x, datOf μ y with
  | some d, some c => match boxD c with
    | some ds => (noD d = true ∧ noD c = true) ∧ d.depth ≤ 60 ∧ q (.dat (.bool (if neg then !ds.any fun z => PyData.eqv z d else ds.any fun z => PyData.eqv z d))) μ
    | none => False
  | _, _ => False
theorem os_mem {K : PySem.W.Frag} {neg : Bool} : OpS K (rMem K neg) (oMem neg) := by
  intro s0 N0 s μ x y ex ey q Q R xt rx fx ry fy h l
  unfold oMem at h
  split at h
  · rename_i d c hd hc
    split at h
    · rename_i ds hb
      obtain ⟨⟨n1, n2⟩, h⟩ := h
      obtain ⟨a1, a2⟩ := dat_ok R rx hd n1
      obtain ⟨b1, b2⟩ := dat_ok R ry hc n2
      exact ⟨d, c, ds, a1, b1, hb, a2, b2, h.1, ans R xt l h.2 (.bl _)⟩
    · exact h.elim
  · exact h.elim
/-- int(x) -/
def oInt : CD := fun es μ q => match es with
  | [.dat (.int i)] => q (.dat (.int i)) μ
  | [.dat (.bool b)] => q (.dat (.int (if b then 1 else 0))) μ
  | _ => False
theorem cs_int {K : PySem.W.Frag} : CallS K (fun xs H Q => (∃ i, xs = [.int i] ∧ Q (.int i) H) ∨ ∃ k, xs = [.bl k] ∧ Q (.int (if k then 1 else 0)) H) oInt := by
  intro s0 N0 s μ xs es q Q R xt r h l
  unfold oInt at h
  split at h
  · cases r with
    | cons rx fx rr =>
      cases rr
      cases (show DR K s.F _ (.int _) from rx)
      exact .inl ⟨_, rfl, ans R xt l h (.int _)⟩
  · cases r with
    | cons rx fx rr =>
      cases rr
      cases (show DR K s.F _ (.bool _) from rx)
      exact .inr ⟨_, rfl, ans R xt l h (.int _)⟩
  · exact h.elim
/-- sorted(texts), below 64 -/
def oSrtS : CD := fun es μ q => match es with
  | [e] => match lstOf μ e with
    | some ds => match strsOf ds with
      | some xs => xs.length < 64 ∧ ∀ ys : List Str, ys.Perm xs → sortedS ys = true → q (.new (ys.map .str)) μ
      | none => False
    | none => False
  | _ => False
theorem cs_srtS {K : PySem.W.Frag} : CallS K (rSortedS K) oSrtS := by
  intro s0 N0 s μ xs es q Q R xt r h l
  unfold oSrtS at h
  split at h
  · cases r with
    | cons rx fx rr =>
      cases rr
      split at h
      · rename_i ds hds
        split at h
        · rename_i zs hz
          obtain ⟨a, vs, rfl, hs, hv⟩ := lst_ok R rx hds
          obtain ⟨e1, hok⟩ := strs_ok hv hz
          subst e1
          refine ⟨a, zs, rfl, SqL.of hs, h.1, fun ys p hp hsrt hn => ans_new R xt l (h.2 ys hp hsrt) ?_ hn⟩
          have : ∀ ys : List Str, (∀ y ∈ ys, PyData.strOk y = true) → DRs K s.F (ys.map V.str) (ys.map .str) := fun ys => by
            induction ys with
            | nil => exact fun _ => .nil
            | cons y t ih => exact fun hy => .cons (.str y (hy y (by simp))) (ih fun z hz => hy z (by simp [hz]))
          exact this ys fun y hy => hok y (hp.mem_iff.mp hy)
        · exact h.elim
      · exact h.elim
  · exact h.elim
end DL

set_option Elab.async false
set_option linter.all false
set_option maxRecDepth 100000
set_option maxHeartbeats 4000000
namespace DL
open PySem L2 PyProof.Rows
section
variable {K : PySem.W.Frag} {c : Value} {C : Addr} {i : Nat} {tb ts v : TDS} {d : DEnds} {E : XQ} {η : DEnv} {μ : Mu} {q : PQ}
theorem s_try (h : tb d (fun x μ' => ∃ b, PySem.W.exmOne K (.ref x.c) c = some b ∧
  (b = true → ts { nx := fun η' μ2 => d.nx (η'.set i none) μ2, rt := d.rt, bk := fun η' μ2 => d.bk (η'.set i none) μ2, ct := fun η' μ2 => d.ct (η'.set i none) μ2 } EF (η.set i (some (.exc x))) μ') ∧ (b = false → E x μ')) η μ) : sTry K c i tb ts d E η μ := h
theorem q_try (h : sTry K c i tb ts { d with nx := v d E } E η μ) : sSeq (sTry K c i tb ts) v d E η μ := h
theorem s_raise (h : E ⟨C, none⟩ μ) : sRaise C d E η μ := h
theorem q_raise (h : E ⟨C, none⟩ μ) : sSeq (sRaise C) v d E η μ := h
theorem int_i {i : Int} : oInt [.dat (.int i)] μ q = q (.dat (.int i)) μ := Eq.trans rfl rfl
theorem int_b {b : Bool} : oInt [.dat (.bool b)] μ q = q (.dat (.int (if b then 1 else 0))) μ := Eq.trans rfl rfl
/-- some of them is the thing -/
def has (ds : List PyData) (d : PyData) : Bool := ds.any fun z => PyData.eqv z d
theorem mem_l {neg : Bool} {d : PyData} {ds : List PyData} : oMem neg (.dat d) (.dat (.list ds)) μ q = ((noD d = true ∧ noD (.list ds) = true) ∧ d.depth ≤ 60 ∧ q (.dat (.bool (if neg then !has ds d else has ds d))) μ) := Eq.trans rfl rfl
theorem mem_t {neg : Bool} {d : PyData} {ds : List PyData} : oMem neg (.dat d) (.dat (.tuple ds)) μ q = ((noD d = true ∧ noD (.tuple ds) = true) ∧ d.depth ≤ 60 ∧ q (.dat (.bool (if neg then !has ds d else has ds d))) μ) := Eq.trans rfl rfl
theorem mem_n {neg : Bool} {d : PyData} {ds : List PyData} : oMem neg (.dat d) (.new ds) μ q = ((noD d = true ∧ noD (.list ds) = true) ∧ d.depth ≤ 60 ∧ q (.dat (.bool (if neg then !has ds d else has ds d))) μ) := Eq.trans rfl rfl
theorem mem_c {neg : Bool} {d : PyData} {n : Nat} {ds : List PyData} (h : μ[n]? = some (.lst ds)) : oMem neg (.dat d) (.loc n) μ q = ((noD d = true ∧ noD (.list ds) = true) ∧ d.depth ≤ 60 ∧ q (.dat (.bool (if neg then !has ds d else has ds d))) μ) := by simp [oMem, datOf, lstOf, boxD, has, h]
theorem isK_e {D : Addr → Prop} {y : Exn} {u : V} : oIsK K D [.exc y, .raw u] μ q = (y.fs = none ∧ ExcC K y.c ∧ ∃ cv b, (∀ w, RelV u w → w = cv) ∧ PySem.W.kitOne K (.ref y.c) cv = some b ∧ q (.dat (.bool b)) μ) := Eq.trans rfl rfl
theorem rel_ref {C : Addr} : ∀ w, RelV (.ref C) w → w = .ref C := fun w h => by cases h; rfl
theorem rel_ty {z : String} : ∀ w, RelV (.ty z) w → w = .type z := fun w h => by cases h; rfl
theorem x_srtS {e : EV} : oSrtS [e] μ q = lstK μ e fun ds => strsK ds fun xs => xs.length < 64 ∧ ∀ ys : List Str, ys.Perm xs → sortedS ys = true → q (.new (ys.map .str)) μ := Eq.trans rfl rfl
theorem mul_ni {a : List PyData} {k : Int} : oMul (.new a) (.dat (.int k)) μ q = ((-1000 ≤ k ∧ k ≤ 1000 ∧ a.length ≤ 1000) ∧ q (.new (List.replicate k.toNat a).flatten) μ) := Eq.trans rfl rfl
theorem mul_li {a : List PyData} {k : Int} : oMul (.dat (.list a)) (.dat (.int k)) μ q = ((-1000 ≤ k ∧ k ≤ 1000 ∧ a.length ≤ 1000) ∧ q (.new (List.replicate k.toNat a).flatten) μ) := Eq.trans rfl rfl
end
/-- equality of data with itself -/
theorem bt_ValueError : bootBuiltins "ValueError" = some (.type "ValueError") := by decide +kernel
end DL

set_option Elab.async false
set_option linter.all false
set_option maxRecDepth 100000
set_option maxHeartbeats 4000000
namespace DL
open PySem L2 PyProof.Rows
/-! ### defs with defaults -/
section
variable {P : Program} {w : World} {K : PySem.W.Frag} {mg : Str → Option Value} {base : Heap} {x qual : Str} {params : Arguments} {bd : List Stmt} {scope : Scope} {dvs : List V} {f : Addr} {fd : FuncData} {N ps : List Str} {k : Nat} {td : TDS}
theorem fd_okD (sp : SpD) (F : FunD K x qual params bd scope dvs [] f fd) (S : FnScope N ps scope)
    (body : ∀ (cdv : Value) (A : Around) (outer : List Env) (s : Shared) (H : Hp) (E : XK), Room k (A.deeper (envOfC qual scope s.heap.objs.size f cdv)) →
      Takes (cxOf (L2.CX P w) P w K mg base N qual scope f cdv A outer s H E) (fun cls d _ H => E cls d H) →
      PassesOwn (model P w) (A.deeper (envOfC qual scope s.heap.objs.size f cdv)) (envOfC qual scope s.heap.objs.size f cdv) (cxOf (L2.CX P w) P w K mg base N qual scope f cdv A outer s H E).xe →
      DSs (cxOf (L2.CX P w) P w K mg base N qual scope f cdv A outer s H E) (fun cls d _ H => E cls d H) bd td)
    (h : ∀ (es : List EV) (μ : Mu) (q : PQ) (x : XQ), es.length = ps.length → sp es μ q x → td { nx := fun _ μ' => DL.exitQ μ.length q (.dat .none) μ', rt := DL.exitQ μ.length q } (fun y μ' => x y (μ'.take μ.length)) (startD N es) μ) :
    FnOk P w K mg base (L2.CX P w) (k + 1) f fd ps (spOf K ps.length sp) := by
  refine F.ok S (fun vs H Q E hs => hs.1) fun cdv A outer sh H vs Q E hr hs => ?_
  obtain ⟨hl, s, μ, es, q, x, rfl, R, hv, hsp, l, lx⟩ := hs
  obtain ⟨t, p, g⟩ := (body cdv A outer sh s.H E hr (takes_of rfl rfl rfl rfl) (passes_of rfl)).ex
  have l' := exit_ok l fun n hn => R.here hn
  refine ⟨t, p, g s _ (startD N es) μ _ _ _ ⟨R, er_start hv⟩ (h es μ q x (by rw [← hv.len]; exact hl) hsp) ⟨fun η' μ' σ' s' hq x' S' => ?_, l', fun _ _ _ _ z => z.elim, fun _ _ _ _ z => z.elim, fun y μ' cls dd σ' s' hq x' R' r => ?_⟩⟩
  · exact l' (.dat .none) μ' .non s' hq x' S'.rep .non trivial
  · have e1 : (μ'.take μ.length).length = μ.length := by rw [List.length_take]; have := x'.le; omega
    exact lx y _ cls dd s' hq (by rw [e1]; exact x'.take (Nat.le_refl _) x'.le) (R'.take _) r
theorem at_okD {sp : SpD} {ws : List V} (F : FunD K x qual params bd scope dvs [] f fd) (G : FnOk P w K mg base (L2.CX P w) k f fd ps (spOf K ps.length sp)) (hm : mg x = some (.ref f)) (b : ∃ ds, Vals ws ds ∧ Binds K fd ps ds) : ∃ ds, DefAt P w K mg base x k ps ws ds sp := by
  obtain ⟨ds, v, b⟩ := b
  exact ⟨ds, ⟨f, fd, G, hm, F.kp, b⟩, v⟩
/-- a def whose defaults lie in a tuple that is known -/
theorem funD_mk {st : Stmt} {T : Addr} {oT : Obj} {its : List Value} {m : Nat} {oc : Value} {od an : Option Addr} {osl : Array (Option Value)} {kV doc pm cdv ct : Value} (l : K.lookup f = some ⟨oc, od, .func (PySem.W.fnOf x qual (defArgs st) (defBody st) (defScope st) (.ref T) kV doc pm an cdv ct), osl⟩)
    (c : PySem.W.codeIn K cdv qual = true) (kp : PySem.W.keepIn K (.ref f) = true) (hT : K.lookup T = some oT) (hd : oT.data = .seq its.toArray m) (hv : Vals dvs its) (ne : dvs ≠ []) :
    FunD K x qual (defArgs st) (defBody st) (defScope st) dvs [] f (PySem.W.fnOf x qual (defArgs st) (defBody st) (defScope st) (.ref T) kV doc pm an cdv ct) :=
  ⟨⟨oc, od, _, kV, doc, pm, an, cdv, ct, osl, rfl, l, c, .inr ⟨ne, T, oT, its, m, rfl, hT, hd, hv⟩, .inl rfl⟩, kp⟩
end
section
variable {K : PySem.W.Frag} {s : Wd} {N : Nat} {vs : List V} {es : List EV}
theorem vl_int {i : Int} (h : VL K s N vs es) : VL K s N (.int i :: vs) (.dat (.int i) :: es) := .cons (show DR K s.F (.int i) (.int i) from .int i) h
theorem vl_bl {b : Bool} (h : VL K s N vs es) : VL K s N (.bl b :: vs) (.dat (.bool b) :: es) := .cons (show DR K s.F (.bl b) (.bool b) from .bl b) h
theorem vl_non (h : VL K s N vs es) : VL K s N (.non :: vs) (.dat .none :: es) := .cons (show DR K s.F .non .none from .non) h
end
section
variable {μ ν μ' : Mu} {n : Nat}
theorem StAt.app (h : StAt μ n) : StAt (μ ++ ν) n := by
  obtain ⟨a, b, e, r⟩ := h
  exact ⟨a, b, by rw [List.getElem?_append_left (get_lt e)]; exact e, r⟩
theorem Stp.app (h : Stp (μ ++ ν) n μ') (l : n < μ.length) : ∃ μs, μ' = μs ++ ν ∧ Stp μ n μs := by
  obtain ⟨a, b, rfl, r⟩ := h
  exact ⟨_, List.set_append_left _ _ l, a, b, rfl, r⟩
theorem take_app (h : μ'.length = μ.length) : (μ' ++ ν).take μ.length = μ' := by
  rw [← h]
  simp
theorem take_all' {N : Nat} (h : μ.length = N) : μ.take N = μ := by
  rw [← h]
  exact List.take_length
theorem last_get {c : Cell} (h : μ.length = n) : (μ ++ [c])[n]? = some c := by
  rw [← h]
  simp
theorem last_set {c c' : Cell} (h : μ.length = n) : (μ ++ [c]).set n c' = μ ++ [c'] := by
  rw [← h]
  simp
end
section
variable {tc : TDT} {t v : TDS} {ti : TDI} {g : TDG} {d : DEnds} {E : XQ} {η : DEnv} {μ : Mu}
/-- a test whose ways meet again in J -/
theorem q_whenR (J : DEnv → Mu → Prop) (hj : ∀ η' μ', J η' μ' → v d E η' μ') (h : (∀ η' μ', J η' μ' → v d E η' μ') → tc η μ (fun b μ1 => if b = true then t { d with nx := v d E } E η μ1 else v d E η μ1) E) : sSeq (sIf tc t sNext) v d E η μ := h hj
theorem q_ifR {u : TDS} (J : DEnv → Mu → Prop) (hj : ∀ η' μ', J η' μ' → v d E η' μ') (h : (∀ η' μ', J η' μ' → v d E η' μ') → tc η μ (fun b μ1 => if b = true then t { d with nx := v d E } E η μ1 else u { d with nx := v d E } E η μ1) E) : sSeq (sIf tc t u) v d E η μ := h hj
end
section
variable {X : Cx} {W : WX} {x n : Str} {c : Value} {i : Nat} {body suite : List Stmt} {b₀ : Stmt} {np pos pos' : Pos} {tb ts : TDS}
theorem ds_tryK {K : PySem.W.Frag} (hK : X.K = K) (hs : X.stack = X.env :: X.outer) (hf : X.env.frame = some X.env.locals) (hN : X.N.Nodup) (hi : X.N[i]? = some n) (hln : X.env.kindOf n = some .local) (hc : Names X x c) (tk : Takes X W)
    (hb : ∀ (W' : WX) (pn : List (Addr × Obj)) (xe : Value → Shared → Prop), Takes (X.tr pn xe) W' → PassesOwn (model X.prog X.w) X.A X.env xe → DSx (X.tr pn xe) W' body tb)
    (hsu : ∀ (a : Addr) (pn : List (Addr × Obj)), DSs (X.suite a pn) WF (b₀ :: suite) ts) :
    DS X W (.Try body [.ExceptHandler (some (.Name x np)) (some n) (b₀ :: suite) pos'] [] [] pos) (sTry K c i tb ts) := by
  subst hK
  exact ds_try hs hf hN hi hln hc tk hb hsu
end
end DL

set_option Elab.async false
set_option linter.all false
set_option maxRecDepth 100000
set_option maxHeartbeats 4000000
namespace DL
open PySem L2 PyProof.Rows
/-! ### lists that are known by a property alone -/
section
variable {K : PySem.W.Frag} {s : Wd} {μ : Mu} {n : Nat} {P : List PyData → Prop} {xs : List PyData}
theorem Rep.cellSet (R : Rep K s μ) (c : Cell) (h : CellAt K s (s.L n) c) : Rep K s (μ.set n c) :=
  ⟨R.sub, fun m c' q => by
    by_cases e : n = m
    · subst e
      by_cases hl : n < μ.length
      · rw [List.getElem?_set_self hl] at q
        cases q
        exact h
      · rw [List.getElem?_eq_none (by simpa using hl)] at q
        cases q
    · rw [List.getElem?_set_ne e] at q
      exact R.cell m c' q, fun i j hi hj => R.inj i j (by simpa using hi) (by simpa using hj)⟩
theorem Rep.open (R : Rep K s μ) (h : μ[n]? = some (.abs P)) : ∃ xs, P xs ∧ Rep K s (μ.set n (.lst xs)) := by
  obtain ⟨xs, hP, c⟩ := R.cell n _ h
  exact ⟨xs, hP, R.cellSet (.lst xs) c⟩
theorem Rep.close (R : Rep K s μ) (h : μ[n]? = some (.lst xs)) (hP : P xs) : Rep K s (μ.set n (.abs P)) := R.cellSet (.abs P) ⟨xs, hP, R.cell n _ h⟩
theorem set_back {c c' : Cell} (h : μ[n]? = some c) : (μ.set n c').set n c = μ := by
  rw [List.set_set]
  obtain ⟨h1, h2⟩ := List.getElem?_eq_some_iff.mp h
  rw [← h2, List.set_getElem_self]
theorem spOf_abs {k : Nat} {spc spa : SpD} (h : ∀ es μ q x, spa es μ q x → ∃ n P, μ[n]? = some (.abs P) ∧ ∀ xs, P xs → spc es (μ.set n (.lst xs)) (fun e μ' => ∃ ys, P ys ∧ μ' = μ.set n (.lst ys) ∧ q e μ) (fun _ _ => False))
    {vs : List V} {H : Hp} {Q : VK} {E : XK} (hs : spOf K k spa vs H Q E) : spOf K k spc vs H Q E := by
  obtain ⟨hl, s, μ, es, q, x, rfl, R, hv, hsp, l, lx⟩ := hs
  obtain ⟨n, P, hn, hx⟩ := h es μ q x hsp
  obtain ⟨xs, hP, R'⟩ := R.open hn
  refine ⟨hl, s, μ.set n (.lst xs), es, _, _, rfl, R', by rw [List.length_set]; exact hv, hx xs hP, fun e μ' v s' hq x' R2 r f => ?_, fun _ _ _ _ _ z => z.elim⟩
  obtain ⟨ys, hP2, rfl, hq⟩ := hq
  have hlt := (List.getElem?_eq_some_iff.mp hn).1
  have R3 := R2.close (n := n) (xs := ys) (by rw [List.getElem?_set_self hlt]) hP2
  rw [set_back hn] at R3
  rw [List.length_set] at r
  rw [List.length_set, List.length_set] at x'
  exact l e μ v s' hq x' R3 r f
theorem DefAt.abs {Pr : Program} {w : World} {mg : Str → Option Value} {base : Heap} {x : Str} {k : Nat} {ps : List Str} {dvs : List V} {ds : List Value} {spc spa : SpD} (D : DefAt Pr w K mg base x k ps dvs ds spc)
    (h : ∀ es μ q x, spa es μ q x → ∃ n P, μ[n]? = some (.abs P) ∧ ∀ xs, P xs → spc es (μ.set n (.lst xs)) (fun e μ' => ∃ ys, P ys ∧ μ' = μ.set n (.lst ys) ∧ q e μ) (fun _ _ => False)) : DefAt Pr w K mg base x k ps dvs ds spa := by
  obtain ⟨f, fd, G, h1, h2, h3⟩ := D.ex
  exact ⟨⟨f, fd, G.imp fun vs H Q E hs => spOf_abs h hs, h1, h2, h3⟩, D.dv⟩
end
/-- a drawing state -/
def rngP (xs : List PyData) : Prop := ∃ a b : Int, xs = [.int a, .int b] ∧ 0 ≤ a ∧ a < 2147483648
def isR (μ : Mu) (n : Nat) : Prop := μ[n]? = some (.abs rngP)
theorem isR.lt {μ : Mu} {n : Nat} (h : isR μ n) : n < μ.length := get_lt h
theorem isR_app {μ ν : Mu} {n : Nat} (h : isR μ n) : isR (μ ++ ν) n = True := eq_true (by
  unfold isR
  rw [List.getElem?_append_left h.lt]
  exact h)
theorem isR_h {μ : Mu} {n : Nat} (h : isR μ n) : isR μ n = True := eq_true h
theorem isR_last {μ ν : Mu} : isR (μ ++ .abs rngP :: ν) μ.length = True := eq_true (by simp [isR])
def sp_nextA : SpD := fun es μ q _ => match es with
  | [.loc n, .dat (.int k)] => isR μ n ∧ 0 < k ∧ k < 1073741824 ∧ ∀ r : Int, 0 ≤ r → r < k → q (.dat (.int r)) μ
  | _ => False
theorem nextA_eq {n : Nat} {k : Int} {μ : Mu} {q : PQ} {x : XQ} : sp_nextA [.loc n, .dat (.int k)] μ q x = (isR μ n ∧ 0 < k ∧ k < 1073741824 ∧ ∀ r : Int, 0 ≤ r → r < k → q (.dat (.int r)) μ) := Eq.trans rfl rfl
theorem next_abs : ∀ es μ q x, sp_nextA es μ q x → ∃ n P, μ[n]? = some (.abs P) ∧ ∀ xs, P xs → sp_next es (μ.set n (.lst xs)) (fun e μ' => ∃ ys, P ys ∧ μ' = μ.set n (.lst ys) ∧ q e μ) (fun _ _ => False) := by
  intro es μ q x h
  unfold sp_nextA at h
  split at h
  · rename_i n k
    obtain ⟨hr, h0, h1, hq⟩ := h
    refine ⟨n, rngP, hr, fun xs hP => ?_⟩
    obtain ⟨a, b, rfl, ha, hb⟩ := hP
    refine ⟨n, k, rfl, ⟨a, b, List.getElem?_set_self hr.lt, ha, hb⟩, h0, h1, fun r μ' r0 r1 st => ?_⟩
    obtain ⟨a', b', rfl, ha', hb'⟩ := st
    exact ⟨_, ⟨a', b', rfl, ha', hb'⟩, by rw [List.set_set], hq r r0 r1⟩
  · exact h.elim
def cellAK (P : List PyData → Prop) (q : PQ) : PQ := fun e μ1 => match e with
  | .new xs => P xs ∧ q (.loc μ1.length) (μ1 ++ [.abs P])
  | _ => False
/-- a new list known by a property -/
def dCellA (P : List PyData → Prop) (t : TDE) : TDE := fun η μ q E => t η μ (cellAK P q) E
theorem sem_cellA {K : PySem.W.Frag} {W : WX} {P : List PyData → Prop} {t : TE} {td : TDE} (g : SemE K W t td) : SemE K W t (dCellA P td) := fun s σ η μ Q q E S hq l lx => g s σ η μ Q _ E S hq (fun e μ' v s' hk x R r f => by
  cases e with
  | new xs =>
    obtain ⟨hP, hk⟩ := hk
    obtain ⟨p, vs, rfl, h1, h2, h3, h4⟩ := r
    obtain ⟨a1, a2⟩ := cell_new R x h1 h2 h3 h4 (f p rfl)
    have a3 := a1.close (n := μ'.length) (xs := xs) (by simp) hP
    have e1 : (μ' ++ [Cell.lst xs]).set μ'.length (.abs P) = μ' ++ [.abs P] := by simp
    rw [e1] at a3
    have e2 : (μ' ++ [Cell.abs P]).length = (μ' ++ [Cell.lst xs]).length := by simp
    refine l (.loc μ'.length) _ _ { s' with L := fun n => if n = μ'.length then p else s'.L n } hk (by rw [e2]; exact a2) a3 ⟨by simp, ?_⟩ trivial
    show V.ref p = V.ref (if μ'.length = μ'.length then p else _)
    rw [if_pos rfl]
  | dat d => exact hk.elim
  | loc d => exact hk.elim
  | raw d => exact hk.elim
  | exc d => exact hk.elim
  | ro d => exact hk.elim
  | newd d => exact hk.elim
  | newk d => exact hk.elim) lx
theorem de_cellA {X : Cx} {W : WX} {e : Expr} {te : TDE} (P : List PyData → Prop) (h : DE X W e te) : DE X W e (dCellA P te) := by
  obtain ⟨t, hp, g⟩ := h.ex
  exact de_pe hp (sem_cellA g)
theorem x_dCellA {P : List PyData → Prop} {t : TDE} {η : DEnv} {μ : Mu} {q : PQ} {E : XQ} : dCellA P t η μ q E = t η μ (cellAK P q) E := Eq.trans rfl rfl
theorem cellA_new {P : List PyData → Prop} {q : PQ} {μ : Mu} {xs : List PyData} : cellAK P q (.new xs) μ = (P xs ∧ q (.loc μ.length) (μ ++ [.abs P])) := Eq.trans rfl rfl
def sp_stateA : SpD := fun es μ q _ => match es with
  | [.dat (.int c), .dat (.int k)] => 0 ≤ k ∧ k ≤ 1000 ∧ ∀ xs, rngP xs → q (.new xs) μ
  | _ => False
theorem stateA_eq {c k : Int} {μ : Mu} {q : PQ} {x : XQ} : sp_stateA [.dat (.int c), .dat (.int k)] μ q x = (0 ≤ k ∧ k ≤ 1000 ∧ ∀ xs, rngP xs → q (.new xs) μ) := Eq.trans rfl rfl
theorem DefAt.imp {K : PySem.W.Frag} {Pr : Program} {w : World} {mg : Str → Option Value} {base : Heap} {x : Str} {k : Nat} {ps : List Str} {dvs : List V} {ds : List Value} {sp sp' : SpD} (D : DefAt Pr w K mg base x k ps dvs ds sp)
    (h : ∀ es μ q x, sp' es μ q x → sp es μ q x) : DefAt Pr w K mg base x k ps dvs ds sp' := by
  obtain ⟨f, fd, G, h1, h2, h3⟩ := D.ex
  refine ⟨⟨f, fd, G.imp fun vs H Q E hs => ?_, h1, h2, h3⟩, D.dv⟩
  obtain ⟨hl, s, μ, es, q, x, e, R, hv, hsp, l, lx⟩ := hs
  exact ⟨hl, s, μ, es, q, x, e, R, hv, h es μ q x hsp, l, lx⟩
theorem state_abs : ∀ es μ q x, sp_stateA es μ q x → sp_state es μ q x := by
  intro es μ q x h
  unfold sp_stateA at h
  split at h
  · exact ⟨_, _, rfl, h.1, h.2.1, fun a b h0 h1 => h.2.2 _ ⟨a, b, rfl, h0, h1⟩⟩
  · exact h.elim
def sp_cellA : SpD := fun es μ q _ => match es with
  | [.ro ds, .dat (.int k)] => ∃ ns : List Int, ds = ns.map .int ∧ 0 ≤ k ∧ k ≤ 1000 ∧ ns.length ≤ 63 ∧ ∀ r : Int, q (.dat (.int r)) μ
  | _ => False
theorem map_int_inj {a b : List Int} : (a.map PyData.int = b.map PyData.int) = (a = b) := propext ⟨fun h => by
  have := congrArg (fun l => l.map fun d => match d with | PyData.int i => i | _ => 0) h
  simpa [Function.comp_def] using this, fun h => by rw [h]⟩
theorem cellA_eq {ns : List Int} {k : Int} {μ : Mu} {q : PQ} {x : XQ} : sp_cellA [.ro (ns.map .int), .dat (.int k)] μ q x = (0 ≤ k ∧ k ≤ 1000 ∧ ns.length ≤ 63 ∧ ∀ r : Int, q (.dat (.int r)) μ) := by
  unfold sp_cellA
  simp only [map_int_inj]
  exact propext ⟨fun ⟨ms, e, h⟩ => by subst e; exact h, fun h => ⟨ns, rfl, h⟩⟩
theorem cell_abs : ∀ es μ q x, sp_cellA es μ q x → sp_cell es μ q x := by
  intro es μ q x h
  unfold sp_cellA at h
  split at h
  · obtain ⟨ns, rfl, h⟩ := h
    exact ⟨ns, _, rfl, h⟩
  · exact h.elim

/-! ### slots forgotten -/
def forget (η : DEnv) : List Nat → DEnv
  | [] => η
  | v :: vs => (forget η vs).set v none
theorem ER.forget {K : PySem.W.Frag} {s : Wd} {N : Nat} {σ : L2.St} {η : DEnv} (h : ER K s N σ η) (vs : List Nat) : ER K s N σ (DL.forget η vs) := by
  induction vs with
  | nil => exact h
  | cons v vs ih =>
    refine ih.sub (by simp [DL.forget]) fun i e q => ?_
    unfold DL.forget at q
    by_cases hj : v = i
    · subst hj
      by_cases hl : v < (DL.forget η vs).length
      · rw [List.getElem?_set_self hl] at q
        cases q
      · rw [List.getElem?_eq_none (by simpa using hl)] at q
        cases q
    · rwa [List.getElem?_set_ne hj] at q
theorem Sit.forget {K : PySem.W.Frag} {s : Wd} {μ : Mu} {σ : L2.St} {η : DEnv} (h : Sit K s μ σ η) (vs : List Nat) : Sit K s μ σ (DL.forget η vs) := ⟨h.rep, h.er.forget vs⟩
theorem fg_nil {η : DEnv} : forget η [] = η := Eq.trans rfl rfl
theorem fg_cons {η : DEnv} {v : Nat} {vs : List Nat} : forget η (v :: vs) = (forget η vs).set v none := Eq.trans rfl rfl
/-- behind a statement slots are forgotten -/
def sWipe (vs : List Nat) (t : TDS) : TDS := fun d E η μ => t { d with nx := fun η' μ' => d.nx (forget η' vs) μ' } E η μ
section
variable {X : Cx} {W : WX} {st : Stmt} {t : TDS} {pos : Pos} {tA : TDT}
theorem ds_wipe (vs : List Nat) (h : DS X W st t) : DS X W st (sWipe vs t) := by
  obtain ⟨t1, p1, g1⟩ := h.ex
  exact ⟨t1, p1, fun s σ η μ D d E S hq l => g1 s σ η μ D _ E S hq ⟨fun η' μ' σ' s' q x S' => l.nx _ _ _ _ q x (S'.forget vs), l.rt, l.bk, l.ct, l.xq⟩⟩
def sForF (vs : List Nat) (ti : TDI) (g : TDG) (tb : TDS) : TDS := fun d E η μ => ti η μ (fun items G μ1 => ∃ Inv : Nat → DEnv → Mu → Prop, Inv 0 (forget η vs) μ1 ∧ (∀ i η μ, Inv i η μ → G μ) ∧
  (∀ (i : Nat) (e : EV) η μ, items[i]? = some e → Inv i η μ → g e η μ fun η2 μ2 => tb { nx := fun η' μ' => Inv (i + 1) (clean μ1.length (forget η' vs)) (μ'.take μ1.length), ct := fun η' μ' => Inv (i + 1) (clean μ1.length (forget η' vs)) (μ'.take μ1.length), bk := d.nx, rt := d.rt } E η2 μ2) ∧
  ∀ η μ, Inv items.length η μ → d.nx η μ) E
theorem ds_forF (vs : List Nat) {tg iter : Expr} {body : List Stmt} {is : List Nat} {ti : TDI} {g : TDG} {tb : TDS} (hp : PassesOwn (model X.prog X.w) X.A X.env X.xe) (hc : X.calm = true) (hi : DI X W tg iter ti) (hg : DG X tg is g) (hb : DSs X W body tb)
    (hs : ∀ x, foldedSetIterable iter X.env x = pure x := by intro _; rfl) : DS X W (.For tg iter body [] pos) (sForF vs ti g tb) := by
  obtain ⟨wi, p1, g1⟩ := hi.ex
  obtain ⟨gg, p2, g2⟩ := hg.ex
  obtain ⟨tb', p3, g3⟩ := hb.ex
  refine ⟨_, ps_for hp hc p1 p2 p3 hs, fun s σ η μ D d E S hq l => g1 s σ η μ _ _ E S hq (fun J items G μ1 s1 hk x1 R1 wk => ?_) (l.lx σ)⟩
  obtain ⟨Inv, h0, hG, hs, hd⟩ := hk
  have l1 := l.go x1 R1
  refine ⟨fun i m σ' H' => m = items.length - i ∧ i ≤ items.length ∧ ∃ (s' : Wd) (η' : DEnv) (μ' : Mu), s'.H = H' ∧ Ext s1 μ1.length s' μ'.length ∧ Sit X.K s' μ' σ' η' ∧ Inv i η' μ', ⟨items.length, by simp, Nat.zero_le _, s1, _, μ1, rfl, Ext.refl _ _, (S.go x1 R1).forget vs, h0⟩, ?_⟩
  rintro i m σ' H' ⟨rfl, hi, s', η', μ', rfl, x', S', iv⟩
  have ⟨wgo, wstop, wy⟩ := wk i s' μ' x' S'.rep (hG i η' μ' iv)
  by_cases hlt : i < items.length
  · refine .inr ⟨wgo hlt, fun σ2 H2 => ∃ (s2 : Wd) (η2 : DEnv) (μ2 : Mu), s2.H = H2 ∧ Ext s1 μ1.length s2 μ2.length ∧ Sit X.K s2 μ2 σ2 η2 ∧ Inv (i + 1) η2 μ2, fun σ2 H2 h2 => ⟨items.length - (i + 1), by omega, rfl, hlt, h2⟩, fun x H'' hy => ?_⟩
    obtain ⟨s2, e, rfl, he, hne, x2, R2, r2⟩ := wy x H'' hlt hy
    have x12 := x'.trans x2 fun n hn => S'.rep.here hn
    refine g2 s2 σ' η' μ' x e _ _ (S'.go x2 R2) r2 (hs i e η' μ' he iv) fun η3 μ3 σ3 s3 hk3 x3 S3 _ => ?_
    have x13 := x12.trans x3 fun n hn => R2.here hn
    have l3 := l1.go x13 S3.rep
    have fin : ∀ (η4 : DEnv) (μ4 : Mu) (σ4 : L2.St) (s4 : Wd), Inv (i + 1) (clean μ1.length (forget η4 vs)) (μ4.take μ1.length) → Ext s3 μ3.length s4 μ4.length → Sit X.K s4 μ4 σ4 η4 →
        ∃ (s2 : Wd) (η2 : DEnv) (μ2 : Mu), s2.H = s4.H ∧ Ext s1 μ1.length s2 μ2.length ∧ Sit X.K s2 μ2 σ4 η2 ∧ Inv (i + 1) η2 μ2 := fun η4 μ4 σ4 s4 hk4 x4 S4 => by
      have x14 := x13.trans x4 fun n hn => S3.rep.here hn
      have e4 : (μ4.take μ1.length).length = μ1.length := by rw [List.length_take]; have := x14.le; omega
      exact ⟨s4, _, _, rfl, by rw [e4]; exact x14.take (Nat.le_refl _) x14.le, (S4.forget vs).clean x14.le, hk4⟩
    exact g3 s3 σ3 η3 μ3 _ _ E S3 hk3 ⟨fin, l3.rt, l3.nx, fin, l3.xq⟩
  · have e : i = items.length := by omega
    subst e
    exact .inl ⟨wstop, (l1.go x' S'.rep).nx η' μ' σ' s' (hd η' μ' iv) (Ext.refl _ _) S'⟩
def sWhileF (vs : List Nat) (c : TDT) (tb : TDS) : TDS := fun d E η μ => ∃ Inv : Nat → DEnv → Mu → Prop, (∃ m, Inv m (forget η vs) μ) ∧ ∀ m η' μ', Inv m η' μ' →
  c η' μ' (fun b μ1 => if b = true then tb { nx := fun η2 μ2 => ∃ m', m' < m ∧ Inv m' (clean μ.length (forget η2 vs)) (μ2.take μ.length), ct := fun η2 μ2 => ∃ m', m' < m ∧ Inv m' (clean μ.length (forget η2 vs)) (μ2.take μ.length), bk := d.nx, rt := d.rt } E η' μ1 else d.nx η' μ1) E
theorem ds_whileF (vs : List Nat) {c : Expr} {body : List Stmt} {tb : TDS} (hp : PassesOwn (model X.prog X.w) X.A X.env X.xe) (hc : DT X W c tA) (hb : DSs X W body tb) : DS X W (.While c body [] pos) (sWhileF vs tA tb) := by
  obtain ⟨tc, p1, g1⟩ := hc.ex
  obtain ⟨tb', p3, g3⟩ := hb.ex
  refine ⟨_, ps_while hp p1 p3, fun s σ η μ D d E S hq l => ?_⟩
  obtain ⟨Inv, ⟨m0, h0⟩, turn⟩ := hq
  refine ⟨fun m σ' H' => ∃ (s' : Wd) (η' : DEnv) (μ' : Mu), s'.H = H' ∧ Ext s μ.length s' μ'.length ∧ Sit X.K s' μ' σ' η' ∧ Inv m η' μ', ⟨m0, s, _, μ, rfl, Ext.refl _ _, S.forget vs, h0⟩, ?_⟩
  rintro m σ' H' ⟨s', η', μ', rfl, x', S', iv⟩
  have l' := l.go x' S'.rep
  refine g1 s' σ' η' μ' _ _ E S' (turn m η' μ' iv) (fun b μ1 s1 hk x1 R1 => ?_) (l'.lx σ')
  have S1 := S'.go x1 R1
  have l1 := l'.go x1 R1
  have xs1 := x'.trans x1 fun n hn => S'.rep.here hn
  cases b with
  | false => exact l1.nx η' μ1 σ' s1 hk (Ext.refl _ _) S1
  | true =>
    refine ⟨fun σ2 H2 => ∃ m', m' < m ∧ ∃ (s' : Wd) (η' : DEnv) (μ' : Mu), s'.H = H2 ∧ Ext s μ.length s' μ'.length ∧ Sit X.K s' μ' σ2 η' ∧ Inv m' η' μ', fun _ _ h => h, ?_⟩
    have fin : ∀ (η4 : DEnv) (μ4 : Mu) (σ4 : L2.St) (s4 : Wd), (∃ m', m' < m ∧ Inv m' (clean μ.length (forget η4 vs)) (μ4.take μ.length)) → Ext s1 μ1.length s4 μ4.length → Sit X.K s4 μ4 σ4 η4 →
        ∃ m', m' < m ∧ ∃ (s' : Wd) (η' : DEnv) (μ' : Mu), s'.H = s4.H ∧ Ext s μ.length s' μ'.length ∧ Sit X.K s' μ' σ4 η' ∧ Inv m' η' μ' := fun η4 μ4 σ4 s4 ⟨m', hm, hk4⟩ x4 S4 => by
      have x14 := xs1.trans x4 fun n hn => R1.here hn
      have e4 : (μ4.take μ.length).length = μ.length := by rw [List.length_take]; have := x14.le; omega
      exact ⟨m', hm, s4, _, _, rfl, by rw [e4]; exact x14.take (Nat.le_refl _) x14.le, (S4.forget vs).clean x14.le, hk4⟩
    exact g3 s1 σ' η' μ1 _ _ E S1 hk ⟨fin, l1.rt, l1.nx, fin, l1.xq⟩
end
/-! ### stepping -/
def ForGF (vs : List Nat) (g : TDG) (tb : TDS) (d : DEnds) (E : XQ) (η : DEnv) (items : List EV) (G : Mu → Prop) (μ1 : Mu) : Prop := ∃ Inv : Nat → DEnv → Mu → Prop, Inv 0 (forget η vs) μ1 ∧ (∀ i η μ, Inv i η μ → G μ) ∧
  (∀ (i : Nat) (e : EV) η μ, items[i]? = some e → Inv i η μ → g e η μ fun η2 μ2 => tb { nx := fun η' μ' => Inv (i + 1) (clean μ1.length (forget η' vs)) (μ'.take μ1.length), ct := fun η' μ' => Inv (i + 1) (clean μ1.length (forget η' vs)) (μ'.take μ1.length), bk := d.nx, rt := d.rt } E η2 μ2) ∧
  ∀ η μ, Inv items.length η μ → d.nx η μ
section
variable {t v : TDS} {ti : TDI} {tc : TDT} {g : TDG} {d : DEnds} {E : XQ} {η : DEnv} {μ μ1 : Mu} {vs : List Nat}
theorem s_wipe (h : t { d with nx := fun η' μ' => d.nx (forget η' vs) μ' } E η μ) : sWipe vs t d E η μ := h
theorem q_wipe (h : t { d with nx := fun η' μ' => v d E (forget η' vs) μ' } E η μ) : sSeq (sWipe vs t) v d E η μ := h
theorem s_forF (h : ti η μ (ForGF vs g t d E η) E) : sForF vs ti g t d E η μ := h
theorem q_forF (h : ti η μ (ForGF vs g t { d with nx := v d E } E η) E) : sSeq (sForF vs ti g t) v d E η μ := h
theorem for_st {α σ : Type} {as : List α} {h : α → EV} {G : Mu → Prop} (ok : Nat → σ → Prop) (up : DEnv → σ → DEnv) (sto : Mu → σ → Mu) (s0 : σ)
    (e0 : up (forget η vs) s0 = forget η vs) (m0 : sto μ1 s0 = μ1) (k0 : ok 0 s0) (hG : ∀ s, G (sto μ1 s))
    (hs : ∀ (i : Nat) (a : α) (s : σ) (J : DEnv → Mu → Prop), as[i]? = some a → ok i s → (∀ s', ok (i + 1) s' → J (up (forget η vs) s') (sto μ1 s')) →
      g (h a) (up (forget η vs) s) (sto μ1 s) fun η2 μ2 => t { nx := fun η' μ' => J (clean μ1.length (forget η' vs)) (μ'.take μ1.length), ct := fun η' μ' => J (clean μ1.length (forget η' vs)) (μ'.take μ1.length), bk := d.nx, rt := d.rt } E η2 μ2)
    (hd : ∀ s, ok as.length s → d.nx (up (forget η vs) s) (sto μ1 s)) : ForGF vs g t d E η (as.map h) G μ1 := by
  refine ⟨fun i η' μ' => ∃ s, ok i s ∧ η' = up (forget η vs) s ∧ μ' = sto μ1 s, ⟨s0, k0, e0.symm, m0.symm⟩, ?_, ?_, ?_⟩
  · rintro i η' μ' ⟨s, _, rfl, rfl⟩
    exact hG s
  · rintro i e η' μ' hi ⟨s, hk, rfl, rfl⟩
    obtain ⟨a, ha, rfl⟩ := map_get hi
    exact hs i a s (fun η' μ' => ∃ s, ok (i + 1) s ∧ η' = up (forget η vs) s ∧ μ' = sto μ1 s) ha hk fun s' k => ⟨s', k, rfl, rfl⟩
  · rintro η' μ' ⟨s, hk, rfl, rfl⟩
    rw [List.length_map] at hk
    exact hd s hk
/-- a loop that folds -/
theorem for_fold {α σ : Type} {as : List α} {h : α → EV} {G : Mu → Prop} (f : σ → α → σ) (P : σ → Prop) (up : DEnv → σ → DEnv) (sto : Mu → σ → Mu) (s0 : σ)
    (e0 : up (forget η vs) s0 = forget η vs) (m0 : sto μ1 s0 = μ1) (p0 : P s0) (hG : ∀ s, G (sto μ1 s))
    (hs : ∀ (a : α) (s : σ) (J : DEnv → Mu → Prop), a ∈ as → P s → (P (f s a) → J (up (forget η vs) (f s a)) (sto μ1 (f s a))) →
      g (h a) (up (forget η vs) s) (sto μ1 s) fun η2 μ2 => t { nx := fun η' μ' => J (clean μ1.length (forget η' vs)) (μ'.take μ1.length), ct := fun η' μ' => J (clean μ1.length (forget η' vs)) (μ'.take μ1.length), bk := d.nx, rt := d.rt } E η2 μ2)
    (hd : P (as.foldl f s0) → d.nx (up (forget η vs) (as.foldl f s0)) (sto μ1 (as.foldl f s0))) : ForGF vs g t d E η (as.map h) G μ1 := by
  refine for_st (fun i s => P s ∧ s = (as.take i).foldl f s0) up sto s0 e0 m0 ⟨p0, rfl⟩ hG ?_ ?_
  · rintro i a s J ha ⟨hp, hs'⟩ hJ
    refine hs a s J (List.mem_of_getElem? ha) hp fun hp' => hJ _ ⟨hp', ?_⟩
    rw [List.take_add_one, ha, List.foldl_append, ← hs']
    rfl
  · rintro s ⟨hp, hs'⟩
    rw [List.take_length] at hs'
    subst hs'
    exact hd hp
/-- a loop that goes on while p, and leaves otherwise -/
theorem for_all {α : Type} {as : List α} {h : α → EV} {G : Mu → Prop} (p : α → Bool) (hG : G μ1)
    (hs : ∀ (i : Nat) (a : α) (J : DEnv → Mu → Prop), as[i]? = some a → (∀ b ∈ as.take i, p b = true) → (p a = true → J (forget η vs) μ1) →
      g (h a) (forget η vs) μ1 fun η2 μ2 => t { nx := fun η' μ' => J (clean μ1.length (forget η' vs)) (μ'.take μ1.length), ct := fun η' μ' => J (clean μ1.length (forget η' vs)) (μ'.take μ1.length), bk := d.nx, rt := d.rt } E η2 μ2)
    (hd : (∀ b ∈ as, p b = true) → d.nx (forget η vs) μ1) : ForGF vs g t d E η (as.map h) G μ1 := by
  refine for_st (fun i (_ : Unit) => ∀ b ∈ as.take i, p b = true) (fun η _ => η) (fun μ _ => μ) () rfl rfl (fun b hb => by simp at hb) (fun _ => hG) ?_ ?_
  · rintro i a s J ha hp hJ
    refine hs i a J ha hp fun hpa => hJ () fun b hb => ?_
    rw [List.take_add_one, ha] at hb
    simp only [Option.toList_some, List.mem_append, List.mem_singleton] at hb
    rcases hb with hb | rfl
    · exact hp b hb
    · exact hpa
  · rintro s hp
    rw [List.take_length] at hp
    exact hd hp
end
end DL

set_option Elab.async false
set_option linter.all false
set_option maxRecDepth 100000
set_option maxHeartbeats 4000000
namespace DL
open PySem L2 PyProof.Rows
/-! ### what a cell holds, by equations -/
def lcR (c : Option Cell) (k : List PyData → Prop) : Prop := match c with
  | some (.lst xs) => k xs
  | some (.frz xs) => k xs
  | _ => False
def lcK (c : Option Cell) (k : List PyData → Prop) : Prop := match c with
  | some (.lst xs) => k xs
  | _ => False
theorem lcR_l {xs : List PyData} {k : List PyData → Prop} : lcR (some (.lst xs)) k = k xs := Eq.trans rfl rfl
theorem lcR_f {xs : List PyData} {k : List PyData → Prop} : lcR (some (.frz xs)) k = k xs := Eq.trans rfl rfl
theorem lcK_l {xs : List PyData} {k : List PyData → Prop} : lcK (some (.lst xs)) k = k xs := Eq.trans rfl rfl
section
variable {μ ν : Mu} {n : Nat} {q : PQ} {xs ys : List PyData} {N : Nat}
theorem c_len : oLen [.loc n] μ q = lcR μ[n]? fun xs => q (.dat (.int xs.length)) μ := by
  simp only [oLen, seqOf, tupOf, roOf, lstOf, lcR]
  all_goals (cases μ[n]? with
    | none => rfl
    | some c => cases c <;> rfl)
theorem c_ix {i : Int} : oIx (.loc n) (.dat (.int i)) μ q = lcR μ[n]? fun xs => ∃ d, atI xs i = some d ∧ q (.dat d) μ := by
  simp only [oIx, seqOf, tupOf, roOf, lstOf, lcR]
  all_goals (cases μ[n]? with
    | none => rfl
    | some c => cases c <;> rfl)
theorem c_app {d : PyData} : oAppend (.loc n) [.dat d] μ q = lcK μ[n]? fun xs => xs.length < 100000 ∧ q (.dat .none) (μ.set n (.lst (xs ++ [d]))) := by
  simp only [oAppend, withL, lcK]
  all_goals (cases μ[n]? with
    | none => rfl
    | some c => cases c <;> rfl)
theorem c_set {k : Int} {d : PyData} {q : Mu → Prop} : oSetL (.loc n) (.dat (.int k)) (.dat d) μ q = lcK μ[n]? fun xs => ∃ j, ixN xs.length k = some j ∧ q (μ.set n (.lst (xs.set j d))) := by
  simp only [oSetL, withL, lcK]
  all_goals (cases μ[n]? with
    | none => rfl
    | some c => cases c <;> rfl)
theorem c_isL : isLstE (.loc n) μ = lcR μ[n]? fun _ => True := by
  simp only [isLstE, lstOf, lcR]
  all_goals (cases μ[n]? with
    | none => simp
    | some c => cases c <;> simp)
theorem c_lstK {k : List PyData → Prop} : lstK μ (.loc n) k = lcR μ[n]? k := by
  simp only [lstK, lstOf, lcR]
  all_goals (cases μ[n]? with
    | none => rfl
    | some c => cases c <;> rfl)
theorem c_sqK {k : List PyData → Prop} : sqK μ (.loc n) k = lcR μ[n]? k := by
  simp only [sqK, seqOf, tupOf, roOf, lstOf, lcR]
  all_goals (cases μ[n]? with
    | none => rfl
    | some c => cases c <;> rfl)
theorem c_mem {neg : Bool} {d : PyData} : oMem neg (.dat d) (.loc n) μ q = lcR μ[n]? fun ds => (noD d = true ∧ noD (.list ds) = true) ∧ d.depth ≤ 60 ∧ q (.dat (.bool (if neg then !has ds d else has ds d))) μ := by
  simp only [oMem, datOf, lstOf, boxD, has, lcR]
  all_goals (cases μ[n]? with
    | none => rfl
    | some c => cases c <;> rfl)
theorem c_addn : oAdd (.loc n) (.new ys) μ q = lcR μ[n]? fun xs => xs.length + ys.length ≤ 100000 ∧ q (.new (xs ++ ys)) μ := by
  simp only [oAdd, lstOf, lcR]
  all_goals (cases μ[n]? with
    | none => rfl
    | some c => cases c <;> rfl)
theorem c_addl : oAdd (.loc n) (.dat (.list ys)) μ q = lcR μ[n]? fun xs => xs.length + ys.length ≤ 100000 ∧ q (.new (xs ++ ys)) μ := by
  simp only [oAdd, lstOf, lcR]
  all_goals (cases μ[n]? with
    | none => rfl
    | some c => cases c <;> rfl)
theorem c_sl {lo hi : Option Int} : oSl (.loc n) lo hi μ q = lcR μ[n]? fun xs => q (.new (cutD xs lo hi)) μ := by
  simp only [oSl, lstOf, lcR]
  all_goals (cases μ[n]? with
    | none => rfl
    | some c => cases c <;> rfl)
def seqC (r : RI) (n : Nat) (μ : Mu) (c : Option Cell) : Prop := match c with
  | some (.lst xs) => r (xs.map .dat) (fun μ => μ[n]? = some (.lst xs) ∨ μ[n]? = some (.frz xs)) μ
  | some (.frz xs) => r (xs.map .dat) (fun _ => True) μ
  | _ => False
theorem c_seqK {r : RI} : seqK r (.loc n) μ = seqC r n μ μ[n]? := by
  have e : seqK r (.loc n) μ = (match μ[n]? with
    | some (.lst xs) => r (xs.map .dat) (fun μ => μ[n]? = some (.lst xs) ∨ μ[n]? = some (.frz xs)) μ
    | some (.frz xs) => r (xs.map .dat) (fun _ => True) μ
    | _ => False) := Eq.trans rfl rfl
  rw [e]
  cases μ[n]? with
  | none => rfl
  | some c => cases c <;> rfl
theorem seqC_l {r : RI} : seqC r n μ (some (.lst xs)) = r (xs.map .dat) (fun μ => μ[n]? = some (.lst xs) ∨ μ[n]? = some (.frz xs)) μ := Eq.trans rfl rfl
theorem seqC_f {r : RI} : seqC r n μ (some (.frz xs)) = r (xs.map .dat) (fun _ => True) μ := Eq.trans rfl rfl
/-- made still -/
def wdC (k : PyData → Mu → Prop) (n : Nat) (μ : Mu) (c : Option Cell) : Prop := match c with
  | some (.lst xs) => k (.list xs) (μ.set n (.frz xs))
  | some (.frz xs) => k (.list xs) μ
  | _ => False
theorem c_wD {k : PyData → Mu → Prop} : withDat μ (.loc n) k = wdC k n μ μ[n]? := by
  simp only [withDat, toDat, wdC]
  all_goals (cases μ[n]? with
    | none => rfl
    | some c => cases c <;> rfl)
theorem wdC_l {k : PyData → Mu → Prop} : wdC k n μ (some (.lst xs)) = k (.list xs) (μ.set n (.frz xs)) := Eq.trans rfl rfl
theorem wdC_f {k : PyData → Mu → Prop} : wdC k n μ (some (.frz xs)) = k (.list xs) μ := Eq.trans rfl rfl
def exC (q : PQ) (N : Nat) (μ : Mu) (c : Option Cell) : Prop := match c with
  | some (.lst xs) => q (.new xs) (μ.take N)
  | some (.frz xs) => q (.dat (.list xs)) (μ.take N)
  | some (.dct kvs) => q (.newd kvs) (μ.take N)
  | some (.dck kvs) => q (.newk kvs) (μ.take N)
  | _ => False
theorem exitQ_ge (h : N ≤ n) : DL.exitQ N q (.loc n) μ = exC q N μ μ[n]? := by
  have : ¬ n < N := by omega
  simp only [DL.exitQ, this, if_false, exC]
  all_goals (cases μ[n]? with
    | none => rfl
    | some c => cases c <;> rfl)
theorem exC_l : exC q N μ (some (.lst xs)) = q (.new xs) (μ.take N) := Eq.trans rfl rfl
theorem exC_f : exC q N μ (some (.frz xs)) = q (.dat (.list xs)) (μ.take N) := Eq.trans rfl rfl
theorem exC_d {kvs : List (List Key × PyData)} : exC q N μ (some (.dct kvs)) = q (.newd kvs) (μ.take N) := Eq.trans rfl rfl
theorem exC_k {kvs : List (Key × PyData)} : exC q N μ (some (.dck kvs)) = q (.newk kvs) (μ.take N) := Eq.trans rfl rfl
theorem cellK_new : cellK q (.new xs) μ = q (.loc μ.length) (μ ++ [.lst xs]) := Eq.trans rfl rfl
theorem cellK_dat {d : PyData} : cellK q (.dat d) μ = q (.dat d) μ := Eq.trans rfl rfl
theorem cellK_loc : cellK q (.loc n) μ = q (.loc n) μ := Eq.trans rfl rfl
/-! stores with cells behind -/
variable {c c0 c1 c2 d : Cell}
theorem get_a0 : (μ ++ c :: ν)[μ.length]? = some c := by simp
theorem get_a1 : (μ ++ c0 :: c :: ν)[μ.length + 1]? = some c := by
  rw [List.getElem?_append_right (by omega)]
  simp
theorem get_a2 : (μ ++ c0 :: c1 :: c :: ν)[μ.length + 2]? = some c := by
  rw [List.getElem?_append_right (by omega)]
  simp
theorem get_a3 : (μ ++ c0 :: c1 :: c2 :: c :: ν)[μ.length + 3]? = some c := by
  rw [List.getElem?_append_right (by omega)]
  simp
theorem set_a0 : (μ ++ c :: ν).set μ.length d = μ ++ d :: ν := by simp
theorem set_a1 : (μ ++ c0 :: c :: ν).set (μ.length + 1) d = μ ++ c0 :: d :: ν := by
  rw [List.set_append_right _ _ (by omega)]
  simp
theorem set_a2 : (μ ++ c0 :: c1 :: c :: ν).set (μ.length + 2) d = μ ++ c0 :: c1 :: d :: ν := by
  rw [List.set_append_right _ _ (by omega)]
  simp
theorem set_a3 : (μ ++ c0 :: c1 :: c2 :: c :: ν).set (μ.length + 3) d = μ ++ c0 :: c1 :: c2 :: d :: ν := by
  rw [List.set_append_right _ _ (by omega)]
  simp
theorem tk_0 : μ.take μ.length = μ := List.take_length
theorem tk_a0 : (μ ++ ν).take μ.length = μ := by simp
theorem tk_a1 : (μ ++ c :: ν).take (μ.length + 1) = μ ++ [c] := by
  rw [List.take_append, List.take_of_length_le (by omega)]
  simp
theorem tk_a2 : (μ ++ c :: c0 :: ν).take (μ.length + 2) = μ ++ [c, c0] := by
  rw [List.take_append, List.take_of_length_le (by omega)]
  simp
theorem tk_a3 : (μ ++ c :: c0 :: c1 :: ν).take (μ.length + 3) = μ ++ [c, c0, c1] := by
  rw [List.take_append, List.take_of_length_le (by omega)]
  simp
theorem tk_a4 : (μ ++ c :: c0 :: c1 :: c2 :: ν).take (μ.length + 4) = μ ++ [c, c0, c1, c2] := by
  rw [List.take_append, List.take_of_length_le (by omega)]
  simp
end
/-! no dict -/
theorem noD_n : noD .none = true := by simp [noD]
theorem noD_b {b : Bool} : noD (.bool b) = true := by simp [noD]
theorem noD_i {b : Int} : noD (.int b) = true := by simp [noD]
theorem noD_s {b : Str} : noD (.str b) = true := by simp [noD]
theorem noD_l {b : List PyData} : noD (.list b) = noDs b := by simp [noD]
theorem noD_t {b : List PyData} : noD (.tuple b) = noDs b := by simp [noD]
theorem noDs_nil : noDs [] = true := by simp [noDs]
theorem noDs_cons {d : PyData} {b : List PyData} : noDs (d :: b) = (noD d && noDs b) := by simp [noDs]
theorem noDs_app {a : List PyData} {b : List PyData} : noDs (a ++ b) = (noDs a && noDs b) := by
  induction a with
  | nil => simp [noDs]
  | cons x xs ih => simp [noDs, ih, Bool.and_assoc]
theorem noDs_map {α : Type} {f : α → PyData} (h : ∀ a, noD (f a) = true) (xs : List α) : noDs (xs.map f) = true := by
  induction xs with
  | nil => simp [noDs]
  | cons x xs ih => simp [noDs, ih, h]
theorem noDs_i {xs : List Int} : noDs (xs.map PyData.int) = true := noDs_map (fun _ => noD_i) xs
theorem noDs_s {xs : List Str} : noDs (xs.map PyData.str) = true := noDs_map (fun _ => noD_s) xs
theorem noDs_b {xs : List Bool} : noDs (xs.map PyData.bool) = true := noDs_map (fun _ => noD_b) xs
/-! data that is equal -/
theorem eqv_tup {xs ys : List PyData} : PyData.eqv (.tuple xs) (.tuple ys) = PyData.eqvAll xs ys := by rw [PyData.eqv]
theorem eqv_lst {xs ys : List PyData} : PyData.eqv (.list xs) (.list ys) = PyData.eqvAll xs ys := by rw [PyData.eqv]
theorem eqvA_nn : PyData.eqvAll [] [] = true := by rw [PyData.eqvAll]
theorem eqvA_cc {x y : PyData} {xs ys : List PyData} : PyData.eqvAll (x :: xs) (y :: ys) = (PyData.eqv x y && PyData.eqvAll xs ys) := by rw [PyData.eqvAll]
theorem eqvA_nc {y : PyData} {ys : List PyData} : PyData.eqvAll [] (y :: ys) = false := by rw [PyData.eqvAll]
theorem eqvA_cn {y : PyData} {ys : List PyData} : PyData.eqvAll (y :: ys) [] = false := by rw [PyData.eqvAll]
theorem dep_tup {xs : List PyData} : (PyData.tuple xs).depth = PyData.depthAll xs + 1 := by rw [PyData.depth]
theorem dep_lst {xs : List PyData} : (PyData.list xs).depth = PyData.depthAll xs + 1 := by rw [PyData.depth]
theorem depA_nil : PyData.depthAll [] = 0 := by rw [PyData.depthAll]
theorem depA_cons {x : PyData} {xs : List PyData} : PyData.depthAll (x :: xs) = max x.depth (PyData.depthAll xs) := by rw [PyData.depthAll]
theorem depA_map {α : Type} (f : α → PyData) {n : Nat} (h : ∀ a, (f a).depth ≤ n) : ∀ xs : List α, PyData.depthAll (xs.map f) ≤ n
  | [] => by rw [List.map_nil, depA_nil]; exact Nat.zero_le _
  | x :: xs => by
    rw [List.map_cons, depA_cons]
    exact Nat.max_le.mpr ⟨h x, depA_map f h xs⟩
theorem min_le_l {a b n : Nat} (h : a ≤ n) : min a b ≤ n := by omega
theorem min_le_r {a b n : Nat} (h : b ≤ n) : min a b ≤ n := by omega
/-- an encoding by data whose == is the equality -/
structure Enc {α : Type} (f : α → PyData) (n : Nat) : Prop where
  nod : ∀ a, noD (f a) = true
  inj : ∀ a b, PyData.eqv (f a) (f b) = true ↔ a = b
  dep : ∀ a, (f a).depth ≤ n
theorem Enc.eqv {α : Type} [DecidableEq α] {f : α → PyData} {n : Nat} (h : Enc f n) (a b : α) : PyData.eqv (f a) (f b) = decide (a = b) := by
  rw [Bool.eq_iff_iff, h.inj, decide_eq_true_eq]
theorem enc_int : Enc PyData.int 0 := ⟨fun _ => noD_i, fun a b => by rw [eqv_int, decide_eq_true_eq], fun a => by rw [dep_int]; omega⟩
theorem enc_str : Enc PyData.str 0 := ⟨fun _ => noD_s, fun a b => by rw [eqv_str, decide_eq_true_eq], fun a => by rw [dep_str]; omega⟩
theorem enc_bool : Enc PyData.bool 0 := ⟨fun _ => noD_b, fun a b => by rw [eqv_bool, beq_iff_eq], fun a => by rw [dep_bool]; omega⟩
theorem Enc.all {α : Type} {f : α → PyData} {n : Nat} (h : Enc f n) : ∀ xs ys : List α, PyData.eqvAll (xs.map f) (ys.map f) = true ↔ xs = ys
  | [], [] => by simp [eqvA_nn]
  | [], _ :: _ => by simp [eqvA_nc]
  | _ :: _, [] => by simp [eqvA_cn]
  | x :: xs, y :: ys => by rw [List.map_cons, List.map_cons, eqvA_cc, Bool.and_eq_true, h.inj, h.all xs ys, List.cons.injEq]
theorem Enc.list {α : Type} {f : α → PyData} {n : Nat} (h : Enc f n) : Enc (fun xs : List α => .list (xs.map f)) (n + 1) :=
  ⟨fun a => by rw [noD_l]; exact noDs_map h.nod a, fun a b => by rw [eqv_lst, h.all], fun a => by rw [dep_lst]; exact Nat.succ_le_succ (depA_map f h.dep a)⟩
theorem Enc.tup {α : Type} {f : α → PyData} {n : Nat} (h : Enc f n) : Enc (fun xs : List α => .tuple (xs.map f)) (n + 1) :=
  ⟨fun a => by rw [noD_t]; exact noDs_map h.nod a, fun a b => by rw [eqv_tup, h.all], fun a => by rw [dep_tup]; exact Nat.succ_le_succ (depA_map f h.dep a)⟩
theorem Enc.t2 {α β : Type} {f : α → PyData} {g : β → PyData} {n m : Nat} (h : Enc f n) (k : Enc g m) : Enc (fun p : α × β => .tuple [f p.1, g p.2]) (n + m + 1) :=
  ⟨fun a => by simp [noD_t, noDs_cons, noDs_nil, h.nod, k.nod], fun a b => by rw [eqv_tup, eqvA_cc, eqvA_cc, eqvA_nn, Bool.and_true, Bool.and_eq_true, h.inj, k.inj, Prod.ext_iff],
   fun a => by rw [dep_tup, depA_cons, depA_cons, depA_nil]; have := h.dep a.1; have := k.dep a.2; omega⟩
theorem Enc.t3 {α β γ : Type} {f : α → PyData} {g : β → PyData} {e : γ → PyData} {n m l : Nat} (h : Enc f n) (k : Enc g m) (j : Enc e l) : Enc (fun p : α × β × γ => .tuple [f p.1, g p.2.1, e p.2.2]) (n + m + l + 1) :=
  ⟨fun a => by simp [noD_t, noDs_cons, noDs_nil, h.nod, k.nod, j.nod], fun a b => by simp only [eqv_tup, eqvA_cc, eqvA_nn, Bool.and_true, Bool.and_eq_true, h.inj, k.inj, j.inj, Prod.ext_iff],
   fun a => by simp only [dep_tup, depA_cons, depA_nil]; have := h.dep a.1; have := k.dep a.2.1; have := j.dep a.2.2; omega⟩
theorem Enc.t4 {α β γ δ : Type} {f : α → PyData} {g : β → PyData} {e : γ → PyData} {o : δ → PyData} {n m l p : Nat} (h : Enc f n) (k : Enc g m) (j : Enc e l) (i : Enc o p) : Enc (fun p : α × β × γ × δ => .tuple [f p.1, g p.2.1, e p.2.2.1, o p.2.2.2]) (n + m + l + p + 1) :=
  ⟨fun a => by simp [noD_t, noDs_cons, noDs_nil, h.nod, k.nod, j.nod, i.nod], fun a b => by simp only [eqv_tup, eqvA_cc, eqvA_nn, Bool.and_true, Bool.and_eq_true, h.inj, k.inj, j.inj, i.inj, Prod.ext_iff],
   fun a => by simp only [dep_tup, depA_cons, depA_nil]; have := h.dep a.1; have := k.dep a.2.1; have := j.dep a.2.2.1; have := i.dep a.2.2.2; omega⟩
theorem Enc.has {α : Type} [DecidableEq α] {f : α → PyData} {n : Nat} (h : Enc f n) (xs : List α) (x : α) : DL.has (xs.map f) (f x) = decide (x ∈ xs) := by
  unfold DL.has
  rw [List.any_map, Bool.eq_iff_iff, List.any_eq_true, decide_eq_true_eq]
  constructor
  · rintro ⟨y, hy, e⟩
    rw [(h.inj y x).mp e] at hy
    exact hy
  · intro hx
    exact ⟨x, hx, (h.inj x x).mpr rfl⟩
end DL

set_option Elab.async false
set_option linter.all false
set_option maxRecDepth 100000
set_option maxHeartbeats 4000000
namespace DL
open PySem L2 PyProof.Rows
theorem Enc.eq {α : Type} {f : α → PyData} {n : Nat} (h : Enc f n) {a b : α} : (f a = f b) = (a = b) :=
  propext ⟨fun e => (h.inj a b).mp (by rw [← e]; exact (h.inj a a).mpr rfl), fun e => by rw [e]⟩
theorem Enc.map_eq {α : Type} {f : α → PyData} {n : Nat} (h : Enc f n) {a b : List α} : (a.map f = b.map f) = (a = b) :=
  propext ⟨fun e => (h.all a b).mp (by rw [← e]; exact (h.all a a).mpr rfl), fun e => by rw [e]⟩
theorem Enc.dmin {α : Type} {f : α → PyData} {n : Nat} (h : Enc f n) (k : n ≤ 64) (a : α) (m : Nat) : (min (f a).depth m ≤ 64) = True := eq_true (by have := h.dep a; omega)
theorem Enc.dle {α : Type} {f : α → PyData} {n : Nat} (h : Enc f n) (k : n ≤ 60) (a : α) : ((f a).depth ≤ 60) = True := eq_true (by have := h.dep a; omega)
theorem Enc.eqvs {α : Type} {f : α → PyData} {n : Nat} (h : Enc f n) (a : α) : PyData.eqv (f a) (f a) = true := (h.inj a a).mpr rfl
/-- the shape of a whole number between two bounds -/
def isNum (d : PyData) (a b : Int) : Bool := match d with
  | .int i => decide (a ≤ i) && decide (i ≤ b)
  | _ => false
theorem isNum_i {i a b : Int} : isNum (.int i) a b = (decide (a ≤ i) && decide (i ≤ b)) := Eq.trans rfl rfl
theorem isNum_b {i : Bool} {a b : Int} : isNum (.bool i) a b = false := Eq.trans rfl rfl
theorem isNum_n {a b : Int} : isNum .none a b = false := Eq.trans rfl rfl
theorem isNum_s {i : Str} {a b : Int} : isNum (.str i) a b = false := Eq.trans rfl rfl
theorem isNum_l {i : List PyData} {a b : Int} : isNum (.list i) a b = false := Eq.trans rfl rfl
theorem isNum_t {i : List PyData} {a b : Int} : isNum (.tuple i) a b = false := Eq.trans rfl rfl
theorem isNum_of {t : PyData} {b : Nat} (h : isNum t 0 b = true) : ∃ n : Nat, t = .int n ∧ n ≤ b := by
  cases t with
  | int i =>
    simp only [isNum, Bool.and_eq_true, decide_eq_true_eq] at h
    exact ⟨i.toNat, by congr 1; omega, by omega⟩
  | _ => cases h
theorem isNum_ex {t : PyData} {a b : Int} (h : isNum t a b = true) : ∃ n : Int, t = .int n ∧ a ≤ n ∧ n ≤ b := by
  cases t with
  | int i =>
    simp only [isNum, Bool.and_eq_true, decide_eq_true_eq] at h
    exact ⟨i, rfl, h⟩
  | _ => cases h
theorem bool_eq_d {b : Bool} {c : Prop} [Decidable c] (h : b = true ↔ c) : b = decide c := by
  rw [Bool.eq_iff_iff, h, decide_eq_true_eq]
theorem kit_self {K : PySem.W.Frag} {D : Addr} : PySem.W.kitOne K (.ref D) (.ref D) = some true := by
  unfold PySem.W.kitOne
  rw [if_pos (beq_iff_eq.mpr rfl)]
theorem kit_ref {K : PySem.W.Frag} {D C : Addr} {b : Bool} (ne : D ≠ C) (hdct : PySem.W.hasDictIn K C = true) (ht : PySem.W.typeIn K (.ref C) = some (.type "type")) (h4 : PySem.W.subIn K (.ref D) (.ref C) = some b) : PySem.W.kitOne K (.ref D) (.ref C) = some b := by
  obtain ⟨cd, hc, _⟩ := PySem.W.any_some hdct
  have e2 : ((PySem.W.clsIn K C).isSome && PySem.W.typeIn K (.ref C) == some (.type "type")) = true := by rw [hc, ht] <;> rfl
  unfold PySem.W.kitOne
  rw [if_neg (fun h => ne (Value.ref.inj (beq_iff_eq.mp h)))]
  show (if ((PySem.W.clsIn K C).isSome && PySem.W.typeIn K (.ref C) == some (.type "type")) = true then PySem.W.subIn K (.ref D) (.ref C) else none) = some b
  rw [if_pos e2]
  exact h4
theorem kit_typ {K : PySem.W.Frag} {D : Addr} {S : String} {b : Bool} (hm : PySem.W.kitMeta S = true) (hne : Value.ref D = .type S → False) (h4 : PySem.W.subIn K (.ref D) (.type S) = some b) : PySem.W.kitOne K (.ref D) (.type S) = some b := by
  unfold PySem.W.kitOne
  rw [if_neg (fun h => hne (beq_iff_eq.mp h))]
  show (if PySem.W.kitMeta S = true then PySem.W.subIn K (.ref D) (.type S) else none) = some b
  rw [if_pos hm]
  exact h4
theorem isK_mk {K : PySem.W.Frag} {D : Addr → Prop} {μ : Mu} {q : PQ} {c : Addr} {u : V} {cv : Value} {b : Bool} (h1 : ExcC K c) (h2 : ∀ w, RelV u w → w = cv) (r : RelV u cv) (h3 : PySem.W.kitOne K (.ref c) cv = some b) : oIsK K D [.exc ⟨c, none⟩, .raw u] μ q = q (.dat (.bool b)) μ := by
  rw [isK_e]
  refine propext ⟨fun ⟨_, _, cv', b', g1, g2, g3⟩ => ?_, fun h => ⟨rfl, h1, cv, b, h2, h3, h⟩⟩
  have e := g1 cv r
  subst e
  rw [h3] at g2
  cases g2
  exact g3
theorem rng_c {p : Prop} : (∀ xs, rngP xs → rngP xs ∧ p) = p := propext ⟨fun h => (h _ ⟨0, 0, rfl, Int.le_refl _, by decide⟩).2, fun h xs hx => ⟨hx, h⟩⟩
theorem cmul_l {i j : Int} (h1 : -18446744073709551616 < i) (h2 : i < 18446744073709551616) : CMul i j = True := eq_true (.inl ⟨h1, h2⟩)
theorem cmul_r {i j : Int} (h1 : -18446744073709551616 < j) (h2 : j < 18446744073709551616) : CMul i j = True := eq_true (.inr ⟨h1, h2⟩)
theorem cdiv_h {i j : Int} (h1 : 0 < j) (h2 : j < 1073741824) : CDiv i j = True := eq_true ⟨h1, h2⟩
theorem cpow_h {i j : Int} (h1 : 0 ≤ j) (h2 : j ≤ 1000000) (h3 : -18446744073709551616 < i) (h4 : i < 18446744073709551616) : CPow i j = True := eq_true ⟨h1, h2, by show i.natAbs < 18446744073709551616; omega⟩
theorem nle_h {a b : Nat} (h : a ≤ b) : (a ≤ b) = True := eq_true h
theorem nlt_h {a b : Nat} (h : a < b) : (a < b) = True := eq_true h
theorem ile_h {a b : Int} (h : a ≤ b) : (a ≤ b) = True := eq_true h
theorem ilt_h {a b : Int} (h : a < b) : (a < b) = True := eq_true h
/-- an item that a drawn number picks -/
theorem pick_at {xs : List PyData} {r : Int} {k : PyData → Prop} (h0 : 0 ≤ r) (h1 : r < xs.length) (h : ∀ d ∈ xs, k d) : ∃ d, xs[r.toNat]? = some d ∧ k d := by
  obtain ⟨d, h2, h3⟩ := pick h0 h1
  exact ⟨d, h2, h d h3⟩
/-- comprehensions over encoded items -/
theorem lc_mapD {α : Type} {as : List α} {en : α → PyData} {G : Mu → Prop} {g : TDG} {te : TDE} {vs : List Nat} {η : DEnv} {q : PQ} {μ1 : Mu} {f : α → PyData} (hz : as.length ≤ 100000) (hG : G μ1)
    (hs : ∀ (a : α) (K : PyData → Mu → Prop), a ∈ as → K (f a) μ1 → g (.dat (en a)) (wipeD η vs) μ1 fun η2 μ2 => te η2 μ2 (fun ev μ4 => withDat μ4 ev fun d μ5 => K d (μ5.take μ1.length)) EF)
    (hq : q (.new (as.map f)) μ1) : LcG g tYesD te vs η q ((as.map en).map .dat) G μ1 := by
  rw [List.map_map]
  exact lc_map (h := EV.dat ∘ en) f hz hG hs hq
theorem lc_filterD {α : Type} {as : List α} {en : α → PyData} {G : Mu → Prop} {g : TDG} {tt : TDT} {te : TDE} {vs : List Nat} {η : DEnv} {q : PQ} {μ1 : Mu} {p : α → Bool} {f : α → PyData} (hz : as.length ≤ 100000) (hG : G μ1)
    (hs : ∀ (a : α) (K : PyData → Mu → Prop) (K' : Mu → Prop), a ∈ as → (if p a = true then K (f a) μ1 else K' μ1) → g (.dat (en a)) (wipeD η vs) μ1 fun η2 μ2 => tt η2 μ2 (fun b μ3 => if b = true then te η2 μ3 (fun ev μ4 => withDat μ4 ev fun d μ5 => K d (μ5.take μ1.length)) EF else K' (μ3.take μ1.length)) EF)
    (hq : q (.new ((as.filter p).map f)) μ1) : LcG g tt te vs η q ((as.map en).map .dat) G μ1 := by
  rw [List.map_map]
  refine lc_filter (h := EV.dat ∘ en) p f hz hG (fun a K K' ha h1 h2 => hs a K K' ha ?_) hq
  split
  · exact h1 (by assumption)
  · rename_i h
    exact h2 (by simpa using h)
/-- .. over a range -/
theorem lc_rng {lo : Int} {n : Nat} {G : Mu → Prop} {g : TDG} {te : TDE} {vs : List Nat} {η : DEnv} {q : PQ} {μ1 : Mu} {f : Nat → PyData} (hz : n ≤ 100000) (hG : G μ1)
    (hs : ∀ (a : Nat) (K : PyData → Mu → Prop), a < n → K (f a) μ1 → g (.dat (.int (lo + (a : Nat)))) (wipeD η vs) μ1 fun η2 μ2 => te η2 μ2 (fun ev μ4 => withDat μ4 ev fun d μ5 => K d (μ5.take μ1.length)) EF)
    (hq : q (.new ((List.range n).map f)) μ1) : LcG g tYesD te vs η q (rngItems lo n) G μ1 :=
  lc_map (h := fun k : Nat => EV.dat (.int (lo + (k : Nat)))) f (by rw [List.length_range]; exact hz) hG (fun a K ha => hs a K (List.mem_range.mp ha)) hq
theorem lc_rngF {lo : Int} {n : Nat} {G : Mu → Prop} {g : TDG} {tt : TDT} {te : TDE} {vs : List Nat} {η : DEnv} {q : PQ} {μ1 : Mu} {p : Nat → Bool} {f : Nat → PyData} (hz : n ≤ 100000) (hG : G μ1)
    (hs : ∀ (a : Nat) (K : PyData → Mu → Prop) (K' : Mu → Prop), a < n → (if p a = true then K (f a) μ1 else K' μ1) → g (.dat (.int (lo + (a : Nat)))) (wipeD η vs) μ1 fun η2 μ2 => tt η2 μ2 (fun b μ3 => if b = true then te η2 μ3 (fun ev μ4 => withDat μ4 ev fun d μ5 => K d (μ5.take μ1.length)) EF else K' (μ3.take μ1.length)) EF)
    (hq : q (.new (((List.range n).filter p).map f)) μ1) : LcG g tt te vs η q (rngItems lo n) G μ1 := by
  refine lc_filter (h := fun k : Nat => EV.dat (.int (lo + (k : Nat)))) p f (by rw [List.length_range]; exact hz) hG (fun a K K' ha h1 h2 => hs a K K' (List.mem_range.mp ha) ?_) hq
  split
  · exact h1 (by assumption)
  · rename_i h
    exact h2 (by simpa using h)
/-! loops over encoded items, over ranges -/
section
variable {t : TDS} {g : TDG} {d : DEnds} {E : XQ} {η : DEnv} {μ1 : Mu} {vs : List Nat}
theorem for_stD {α σ : Type} {as : List α} {en : α → PyData} {G : Mu → Prop} (ok : Nat → σ → Prop) (up : DEnv → σ → DEnv) (sto : Mu → σ → Mu) (s0 : σ)
    (e0 : up (forget η vs) s0 = forget η vs) (m0 : sto μ1 s0 = μ1) (k0 : ok 0 s0) (hG : ∀ s, G (sto μ1 s))
    (hs : ∀ (i : Nat) (a : α) (s : σ) (J : DEnv → Mu → Prop), as[i]? = some a → ok i s → (∀ s', ok (i + 1) s' → J (up (forget η vs) s') (sto μ1 s')) →
      g (.dat (en a)) (up (forget η vs) s) (sto μ1 s) fun η2 μ2 => t { nx := fun η' μ' => J (clean μ1.length (forget η' vs)) (μ'.take μ1.length), ct := fun η' μ' => J (clean μ1.length (forget η' vs)) (μ'.take μ1.length), bk := d.nx, rt := d.rt } E η2 μ2)
    (hd : ∀ s, ok as.length s → d.nx (up (forget η vs) s) (sto μ1 s)) : ForGF vs g t d E η ((as.map en).map .dat) G μ1 := by
  rw [List.map_map]
  exact for_st (h := EV.dat ∘ en) ok up sto s0 e0 m0 k0 hG hs hd
theorem for_foldD {α σ : Type} {as : List α} {en : α → PyData} {G : Mu → Prop} (f : σ → α → σ) (P : σ → Prop) (up : DEnv → σ → DEnv) (sto : Mu → σ → Mu) (s0 : σ)
    (e0 : up (forget η vs) s0 = forget η vs) (m0 : sto μ1 s0 = μ1) (p0 : P s0) (hG : ∀ s, G (sto μ1 s))
    (hs : ∀ (a : α) (s : σ) (J : DEnv → Mu → Prop), a ∈ as → P s → (P (f s a) → J (up (forget η vs) (f s a)) (sto μ1 (f s a))) →
      g (.dat (en a)) (up (forget η vs) s) (sto μ1 s) fun η2 μ2 => t { nx := fun η' μ' => J (clean μ1.length (forget η' vs)) (μ'.take μ1.length), ct := fun η' μ' => J (clean μ1.length (forget η' vs)) (μ'.take μ1.length), bk := d.nx, rt := d.rt } E η2 μ2)
    (hd : P (as.foldl f s0) → d.nx (up (forget η vs) (as.foldl f s0)) (sto μ1 (as.foldl f s0))) : ForGF vs g t d E η ((as.map en).map .dat) G μ1 := by
  rw [List.map_map]
  exact for_fold (h := EV.dat ∘ en) f P up sto s0 e0 m0 p0 hG hs hd
theorem for_allD {α : Type} {as : List α} {en : α → PyData} {G : Mu → Prop} (p : α → Bool) (hG : G μ1)
    (hs : ∀ (i : Nat) (a : α) (J : DEnv → Mu → Prop), as[i]? = some a → (∀ b ∈ as.take i, p b = true) → (p a = true → J (forget η vs) μ1) →
      g (.dat (en a)) (forget η vs) μ1 fun η2 μ2 => t { nx := fun η' μ' => J (clean μ1.length (forget η' vs)) (μ'.take μ1.length), ct := fun η' μ' => J (clean μ1.length (forget η' vs)) (μ'.take μ1.length), bk := d.nx, rt := d.rt } E η2 μ2)
    (hd : (∀ b ∈ as, p b = true) → d.nx (forget η vs) μ1) : ForGF vs g t d E η ((as.map en).map .dat) G μ1 := by
  rw [List.map_map]
  exact for_all (h := EV.dat ∘ en) p hG hs hd
theorem for_stR {σ : Type} {lo : Int} {n : Nat} {G : Mu → Prop} (ok : Nat → σ → Prop) (up : DEnv → σ → DEnv) (sto : Mu → σ → Mu) (s0 : σ)
    (e0 : up (forget η vs) s0 = forget η vs) (m0 : sto μ1 s0 = μ1) (k0 : ok 0 s0) (hG : ∀ s, G (sto μ1 s))
    (hs : ∀ (i : Nat) (s : σ) (J : DEnv → Mu → Prop), i < n → ok i s → (∀ s', ok (i + 1) s' → J (up (forget η vs) s') (sto μ1 s')) →
      g (.dat (.int (lo + (i : Nat)))) (up (forget η vs) s) (sto μ1 s) fun η2 μ2 => t { nx := fun η' μ' => J (clean μ1.length (forget η' vs)) (μ'.take μ1.length), ct := fun η' μ' => J (clean μ1.length (forget η' vs)) (μ'.take μ1.length), bk := d.nx, rt := d.rt } E η2 μ2)
    (hd : ∀ s, ok n s → d.nx (up (forget η vs) s) (sto μ1 s)) : ForGF vs g t d E η (rngItems lo n) G μ1 := by
  refine for_st (as := List.range n) (h := fun k : Nat => EV.dat (.int (lo + (k : Nat)))) ok up sto s0 e0 m0 k0 hG (fun i a s J ha hk hJ => ?_) (fun s hk => hd s (by rw [List.length_range] at hk; exact hk))
  have h1 := get_lt ha
  rw [List.length_range] at h1
  rw [List.getElem?_range h1] at ha
  cases ha
  exact hs i s J h1 hk hJ
end
section
variable {tc : TDT} {t v u : TDS} {d : DEnds} {E : XQ} {η : DEnv} {μ : Mu} {vs : List Nat}
/-- a statement whose ways meet again in J -/
theorem q_wipeR (J : DEnv → Mu → Prop) (hj : ∀ η' μ', J η' μ' → v d E η' μ') (h : (∀ η' μ', J η' μ' → v d E η' μ') → t { d with nx := fun η' μ' => v d E (forget η' vs) μ' } E η μ) : sSeq (sWipe vs t) v d E η μ := h hj
end
end DL

set_option Elab.async false
set_option linter.all false
set_option maxRecDepth 100000
set_option maxHeartbeats 4000000
namespace DL
open PySem PySem.Spec PyProof.Rows L2
/-! ### dicts -/
section
variable {K : PySem.W.Frag} {s s0 : Wd} {N0 : Nat} {μ : Mu}
theorem cellF {s : Wd} {a b : Addr} {vs : List V} {c : Cell} (h : CellAt K s b c) (hq : s.H a = some (.tup vs)) (hn : s.F a = none) (sub : Same s.F s.H) : CellAt K { s with F := upd s.F a (.tup vs) } b c := by
  have e : Same s.F (upd s.F a (.tup vs)) := fun x o' q => by rw [upd_ne (ne_of_none q hn)]; exact q
  have ne : ∀ {o}, s.H b = some o → (∀ ws, o ≠ .tup ws) → b ≠ a := fun hb ho z => by rw [z, hq] at hb; cases hb; exact ho _ rfl
  cases c with
  | lst xs => obtain ⟨h1, ws, h2, h3⟩ := h; exact ⟨(upd_ne (ne h2 fun _ z => nomatch z)).trans h1, ws, h2, h3.mono e⟩
  | frz xs => obtain ⟨ws, h2, h3⟩ := h; exact ⟨ws, e _ _ h2, h3.mono e⟩
  | dct kvs => obtain ⟨h1, ks, h2, h3, h4⟩ := h; exact ⟨(upd_ne (ne h2 fun _ z => nomatch z)).trans h1, ks, h2, h3, h4.mono e⟩
  | dck kvs => obtain ⟨h1, ks, h2, h3, h4⟩ := h; exact ⟨(upd_ne (ne h2 fun _ z => nomatch z)).trans h1, ks, h2, h3, h4.mono e⟩
  | abs P => obtain ⟨xs, hP, h1, ws, h2, h3⟩ := h; exact ⟨xs, hP, (upd_ne (ne h2 fun _ z => nomatch z)).trans h1, ws, h2, h3.mono e⟩
  | dead => exact h
/-- a tuple that stands becomes still -/
theorem tup_still {q : Addr} {vs : List V} {ds : List PyData} (R : Rep K s μ) (hq : s.H q = some (.tup vs)) (hd : DRs K s.F vs ds) :
    ∃ F', Same s.F F' ∧ Rep K { s with F := F' } μ ∧ Ext s μ.length { s with F := F' } μ.length ∧ DR K F' (.ref q) (.tuple ds) := by
  cases hF : s.F q with
  | some o =>
    have := R.sub q o hF
    rw [hq] at this
    cases this
    exact ⟨s.F, fun _ _ z => z, R, Ext.refl _ _, .tup hF hd⟩
  | none =>
    have e : Same s.F (upd s.F q (.tup vs)) := fun x o' z => by rw [upd_ne (ne_of_none z hF)]; exact z
    refine ⟨upd s.F q (.tup vs), e, ⟨fun a u z => ?_, fun n c z => cellF (R.cell n c z) hq hF R.sub, R.inj⟩, ⟨e, fun _ _ => rfl, Nat.le_refl _, fun _ _ z _ => z, fun a h1 _ _ h4 => ?_, fun n h1 h2 => absurd h1 (Nat.not_le_of_lt h2)⟩, .tup upd_same (hd.mono e)⟩
    · have z' : upd s.F q (.tup vs) a = some u := z
      by_cases ha : a = q
      · subst ha
        rw [upd_same] at z'
        cases z'
        exact hq
      · rw [upd_ne ha] at z'
        exact R.sub a u z'
    · show upd s.F q (.tup vs) a = none
      rw [upd_ne fun z => h4 vs (by rw [z]; exact hq)]
      exact h1
theorem drs_keys {F : Hp} : ∀ {k : List Key}, (∀ x ∈ k, keyOk x) → DRs K F (k.map kV) (k.map keyD)
  | [], _ => .nil
  | .inl i :: r, h => .cons (.int i) (drs_keys fun x hx => h x (by simp [hx]))
  | .inr z :: r, h => .cons (.str z (h (.inr z) (by simp))) (drs_keys fun x hx => h x (by simp [hx]))
/-- the key that data tells -/
def keyOf : PyData → Option Key
  | .int i => some (.inl i)
  | .str x => some (.inr x)
  | _ => none
def keysOf : List PyData → Option (List Key)
  | [] => some []
  | d :: ds => match keyOf d, keysOf ds with
    | some k, some ks => some (k :: ks)
    | _, _ => none
theorem keyOf_ok {F : Hp} {v : V} {d : PyData} {k : Key} (r : DR K F v d) (h : keyOf d = some k) : v = kV k ∧ d = keyD k ∧ keyOk k := by
  cases r with
  | int i => cases h; exact ⟨rfl, rfl, trivial⟩
  | str x hx => cases h; exact ⟨rfl, rfl, hx⟩
  | _ => cases h
theorem keysOf_ok {F : Hp} : ∀ {vs : List V} {ds : List PyData} {k : List Key}, DRs K F vs ds → keysOf ds = some k → vs = k.map kV ∧ ds = k.map keyD ∧ ∀ x ∈ k, keyOk x
  | _, _, _, .nil, h => by cases h; exact ⟨rfl, rfl, fun x hx => by simp at hx⟩
  | _, _, _, .cons (d := d) (ds := ds) r rs, h => by
    unfold keysOf at h
    cases h1 : keyOf d with
    | none => rw [h1] at h; cases h
    | some k0 =>
      cases h2 : keysOf ds with
      | none => rw [h1, h2] at h; cases h
      | some ks =>
        rw [h1, h2] at h
        cases h
        obtain ⟨rfl, rfl, a3⟩ := keyOf_ok r h1
        obtain ⟨rfl, rfl, b3⟩ := keysOf_ok rs h2
        refine ⟨rfl, rfl, fun x hx => ?_⟩
        rcases List.mem_cons.mp hx with rfl | hx
        · exact a3
        · exact b3 x hx
/-! a dict's entries, changed -/
def putD {κ : Type} [DecidableEq κ] (kvs : List (κ × PyData)) (k : κ) (d : PyData) : List (κ × PyData) :=
  if (kvs.any fun kv => decide (kv.1 = k)) = true then kvs.map (fun kv => if kv.1 = k then (kv.1, d) else kv) else kvs ++ [(k, d)]
def getD {κ : Type} [DecidableEq κ] (kvs : List (κ × PyData)) (k : κ) : Option PyData := (kvs.find? fun kv => decide (kv.1 = k)).map (·.2)
theorem any_keys {κ α β : Type} [DecidableEq κ] {ks : List (κ × α)} {kvs : List (κ × β)} (h : ks.map (·.1) = kvs.map (·.1)) (k : κ) : (ks.any fun kv => decide (kv.1 = k)) = kvs.any fun kv => decide (kv.1 = k) := by
  have e1 : (ks.any fun kv => decide (kv.1 = k)) = (ks.map (·.1)).any fun x => decide (x = k) := by rw [List.any_map]; rfl
  have e2 : (kvs.any fun kv => decide (kv.1 = k)) = (kvs.map (·.1)).any fun x => decide (x = k) := by rw [List.any_map]; rfl
  rw [e1, e2, h]
theorem put_map {κ : Type} [DecidableEq κ] {F : Hp} {v : V} {d : PyData} (r : DR K F v d) (k : κ) : ∀ {ks : List (κ × V)} {kvs : List (κ × PyData)}, ks.map (·.1) = kvs.map (·.1) → DRs K F (ks.map (·.2)) (kvs.map (·.2)) →
    (ks.map fun kv => if kv.1 = k then (kv.1, v) else kv).map (·.1) = (kvs.map fun kv => if kv.1 = k then (kv.1, d) else kv).map (·.1) ∧ DRs K F ((ks.map fun kv => if kv.1 = k then (kv.1, v) else kv).map (·.2)) ((kvs.map fun kv => if kv.1 = k then (kv.1, d) else kv).map (·.2))
  | [], [], _, _ => ⟨rfl, .nil⟩
  | [], _ :: _, h, _ => by simp at h
  | _ :: _, [], h, _ => by simp at h
  | (a, x) :: ks, (b, y) :: kvs, h, .cons h1 h2 => by
    simp only [List.map_cons, List.cons.injEq] at h
    obtain ⟨e, h⟩ := h
    have e' : a = b := e
    subst e'
    obtain ⟨i1, i2⟩ := put_map r k h h2
    by_cases hk : a = k
    · simp only [List.map_cons, if_pos hk]
      exact ⟨by rw [i1], .cons r i2⟩
    · simp only [List.map_cons, if_neg hk]
      exact ⟨by rw [i1], .cons h1 i2⟩
theorem put_rel {κ : Type} [DecidableEq κ] {F : Hp} {v : V} {d : PyData} {ks : List (κ × V)} {kvs : List (κ × PyData)} (r : DR K F v d) (k : κ) (h : ks.map (·.1) = kvs.map (·.1)) (hs : DRs K F (ks.map (·.2)) (kvs.map (·.2))) :
    (putK ks k v).map (·.1) = (putD kvs k d).map (·.1) ∧ DRs K F ((putK ks k v).map (·.2)) ((putD kvs k d).map (·.2)) := by
  unfold putK putD
  rw [any_keys h k]
  split
  · exact put_map r k h hs
  · rw [List.map_append, List.map_append, List.map_append, List.map_append, h]
    exact ⟨rfl, hs.append (.cons r .nil)⟩
theorem put_ok {κ : Type} [DecidableEq κ] {P : κ → Prop} {d : PyData} {kvs : List (κ × PyData)} (k : κ) (h : ∀ p ∈ kvs, P p.1) (hk : P k) : ∀ p ∈ putD kvs k d, P p.1 := by
  intro p hp
  unfold putD at hp
  split at hp
  · obtain ⟨q, hq, rfl⟩ := List.mem_map.mp hp
    split
    · exact h q hq
    · exact h q hq
  · rcases List.mem_append.mp hp with hp | hp
    · exact h p hp
    · rw [List.mem_singleton.mp hp]
      exact hk
theorem len_put {κ : Type} [DecidableEq κ] (kvs : List (κ × PyData)) (k : κ) (d : PyData) : (putD kvs k d).length ≤ kvs.length + 1 := by
  unfold putD
  split
  · simp
  · simp
/-- a cell is written -/
theorem mut_c {n : Nat} {c c' : Cell} {o : HO} (R : Rep K s μ) (x : Ext s0 N0 s μ.length) (hn : μ[n]? = some c) (hf : s.F (s.L n) = none) (hc : CellAt K { s with H := upd s.H (s.L n) o } (s.L n) c') :
    Rep K { s with H := upd s.H (s.L n) o } (μ.set n c') ∧ Ext s0 N0 { s with H := upd s.H (s.L n) o } (μ.set n c').length := by
  have hlt := (List.getElem?_eq_some_iff.mp hn).1
  refine ⟨⟨fun a u q => ?_, fun m c2 q => ?_, fun i j hi hj => R.inj i j (by simpa using hi) (by simpa using hj)⟩, ⟨x.f, x.l, by rw [List.length_set]; exact x.le, fun a u q hL => ?_, x.fnew, fun i h1 h2 => x.lnew i h1 (by simpa using h2)⟩⟩
  · have q' : s.F a = some u := q
    show upd s.H (s.L n) o a = some u
    rw [upd_ne (ne_of_none q' hf)]
    exact R.sub a u q'
  · by_cases hm : n = m
    · subst hm
      rw [List.getElem?_set_self hlt] at q
      cases q
      exact hc
    · rw [List.getElem?_set_ne hm] at q
      have ne : s.L m ≠ s.L n := fun z => hm (R.inj m n (List.getElem?_eq_some_iff.mp q).1 hlt z).symm
      have C := R.cell m c2 q
      cases c2 with
      | lst xs => obtain ⟨h1, vs, h2, h3⟩ := C; exact ⟨h1, vs, (upd_ne ne).trans h2, h3⟩
      | frz xs => exact C
      | dct kvs => obtain ⟨h1, ks, h2, h3, h4⟩ := C; exact ⟨h1, ks, (upd_ne ne).trans h2, h3, h4⟩
      | dck kvs => obtain ⟨h1, ks, h2, h3, h4⟩ := C; exact ⟨h1, ks, (upd_ne ne).trans h2, h3, h4⟩
      | abs P => obtain ⟨xs, hP, h1, vs, h2, h3⟩ := C; exact ⟨xs, hP, h1, vs, (upd_ne ne).trans h2, h3⟩
      | dead =>
        show upd s.H (s.L n) o (s.L m) ≠ none
        rw [upd_ne ne]
        exact C
  · have q' := x.keep a u q hL
    show upd s.H (s.L n) o a = some u
    have ne : a ≠ s.L n := fun z => by
      by_cases h : n < N0
      · exact hL n h ((x.l n h).symm.trans z.symm)
      · have := x.lnew n (Nat.le_of_not_lt h) hlt
        rw [← z, q] at this
        cases this
    rw [upd_ne ne]
    exact q'
end
/-! {}, d[k] = v -/
def dNewD : TDE := fun _ μ q _ => q (.newd []) μ
theorem de_dnewT {X : Cx} {W : WX} {pos : Pos} : DE X W (.Dict [] [] pos) dNewD := de_pe pe_dnewT fun s σ η μ Q q E S hq l _ => by
  intro p hp
  exact l (.newd []) μ (.ref p) { s with H := upd s.H p (.dT []) } hq ((Ext.refl s _).put S.rep hp) (S.rep.put hp) ⟨p, [], rfl, upd_same, S.rep.notF hp, S.rep.notL hp, ⟨rfl, fun p hp => by simp at hp⟩, .nil⟩ (fun y hy => by cases hy; exact hp)
theorem x_dNewD {η : DEnv} {μ : Mu} {q : PQ} {E : XQ} : dNewD η μ q E = q (.newd []) μ := Eq.trans rfl rfl
def oSetD : SetD := fun x y z μ q => match x, y, z with
  | .loc n, .dat (.tuple ds), .dat d => match μ[n]?, keysOf ds with
    | some (.dct kvs), some k => kvs.length < 100000 ∧ q (μ.set n (.dct (putD kvs k d)))
    | _, _ => False
  | _, _, _ => False
theorem ss_dict {K : PySem.W.Frag} : SetS K rSetD oSetD := by
  intro s0 N0 s μ x y z ex ey ez q Q R xt rx ry rz h l
  unfold oSetD at h
  split at h
  · rename_i n ds d
    split at h
    · rename_i kvs k hn hk
      obtain ⟨hlt, rfl⟩ := rx
      have C := R.cell n _ hn
      obtain ⟨hf, ks, hH, ⟨hk1, hk2⟩, hd⟩ := C
      have ry' : DR K s.F y (.tuple ds) := ry
      cases ry' with
      | @tup b vs _ hb hs =>
        obtain ⟨rfl, rfl, hok⟩ := keysOf_ok hs hk
        have rz' : DR K s.F z d := rz
        obtain ⟨p1, p2⟩ := put_rel rz' k hk1 hd
        have hl : ks.length = kvs.length := by have := congrArg List.length hk1; simpa using this
        refine ⟨s.L n, _, rfl, DPut.t hH (R.sub _ _ hb) (Nat.lt_of_lt_of_le (by rw [hl]; exact h.1) (by decide)), ?_⟩
        obtain ⟨a1, a2⟩ := mut_c (c' := .dct (putD kvs k d)) (o := .dT (putK ks k z)) R xt hn hf ⟨hf, _, upd_same, ⟨p1, put_ok (P := fun k => ∀ x ∈ k, keyOk x) k hk2 hok⟩, p2⟩
        exact l _ _ h.2 a2 a1
    · exact h.elim
  · exact h.elim
/-! k in d; in a list or tuple -/
def rInD (neg : Bool) : R2 := fun x y H Q => ∃ a o, y = .ref a ∧ DGet H a x o ∧ Q (.bl (if neg then !o.isSome else o.isSome)) H
theorem opD_inD {X : Cx} (hu : X.A.units + 1 < cLine) : OpR X (compareOp .In) (rInD false) := by
  intro pins s σ H x y v u Q I rx ry h
  obtain ⟨a, o, rfl, g, q⟩ := h
  obtain rfl : u = Value.ref a := ry
  exact d_in hu I g rx fun s3 I3 => ⟨.bl o.isSome, H, I3, rfl, q⟩
theorem opD_notInD {X : Cx} (hu : X.A.units + 1 < cLine) : OpR X (compareOp .NotIn) (rInD true) := by
  intro pins s σ H x y v u Q I rx ry h
  obtain ⟨a, o, rfl, g, q⟩ := h
  obtain rfl : u = Value.ref a := ry
  exact d_notIn hu I g rx fun s3 I3 => ⟨.bl (!o.isSome), H, I3, rfl, q⟩
abbrev rMemA (K : PySem.W.Frag) (neg : Bool) : R2 := fun x y H Q => rMem K neg x y H Q ∨ rInD neg x y H Q
theorem opA_in {X : Cx} (hu : X.A.units + 64 < cLine) : OpR X (compareOp .In) (rMemA X.K false) := (opD_in hu).or (opD_inD (by omega))
theorem opA_notIn {X : Cx} (hu : X.A.units + 64 < cLine) : OpR X (compareOp .NotIn) (rMemA X.K true) := (opD_notIn hu).or (opD_notInD (by omega))
/-- the keys, by data, and whether one is there -/
def hasT (kvs : List (List Key × PyData)) (ds : List PyData) : Option Bool := (keysOf ds).map fun k => kvs.any fun kv => decide (kv.1 = k)
def hasKs (d : List (PyData × PyData)) (key : PyData) : Bool := d.any fun p => PyData.eqv p.1 key
def oMemA (neg : Bool) : OD := fun x y μ q => match x, y with
  | .dat (.tuple ds), .dat (.dict d) => (keysOf ds).isSome = true ∧ (d.all fun p => isTupD p.1) = true ∧ q (.dat (.bool (if neg then !hasKs d (.tuple ds) else hasKs d (.tuple ds)))) μ
  | .dat (.tuple ds), .loc n => match μ[n]? with
    | some (.dct kvs) => (keysOf ds).isSome = true ∧ q (.dat (.bool (if neg then !hasKs (kvT kvs) (.tuple ds) else hasKs (kvT kvs) (.tuple ds)))) μ
    | _ => oMem neg x y μ q
  | _, _ => oMem neg x y μ q
theorem enc_key : Enc keyD 0 := ⟨fun a => by cases a <;> simp [keyD, noD], fun a b => by
  cases a with
  | inl i => cases b with
    | inl j => simp [keyD, eqv_int]
    | inr z => simp [keyD, PyData.eqv]
  | inr y => cases b with
    | inl j => simp [keyD, PyData.eqv]
    | inr z => simp [keyD, eqv_str], fun a => by cases a <;> simp [keyD, PyData.depth]⟩
theorem hasKs_T (kvs : List (List Key × PyData)) (k : List Key) : hasKs (kvT kvs) (.tuple (k.map keyD)) = kvs.any fun kv => decide (kv.1 = k) := by
  unfold hasKs kvT
  rw [List.any_map]
  congr 1
  funext p
  simp only [Function.comp]
  rw [eqv_tup, Bool.eq_iff_iff, enc_key.all, decide_eq_true_eq]
theorem os_memA {K : PySem.W.Frag} {neg : Bool} : OpS K (rMemA K neg) (oMemA neg) := by
  intro s0 N0 s μ x y ex ey q Q R xt rx fx ry fy h l
  have low : oMem neg ex ey μ q → rMemA K neg x y s.H Q := fun h => .inl (os_mem s0 N0 s μ x y ex ey q Q R xt rx fx ry fy h l)
  have key : ∀ {ds : List PyData} {a : Addr} {ks : List (List Key × V)} {kvs : List (List Key × PyData)}, DR K s.F x (.tuple ds) → (keysOf ds).isSome = true → Rd s.H a (.dT ks) → ks.map (·.1) = kvs.map (·.1) → y = .ref a → q (.dat (.bool (if neg then !hasKs (kvT kvs) (.tuple ds) else hasKs (kvT kvs) (.tuple ds)))) μ → rMemA K neg x y s.H Q := by
    intro ds a ks kvs rx' hk rd hks ey' hq
    cases rx' with
    | @tup b vs _ hb hs =>
      obtain ⟨k, hk⟩ := Option.isSome_iff_exists.mp hk
      obtain ⟨rfl, rfl, hok⟩ := keysOf_ok hs hk
      refine .inr ⟨a, valV ks k, ey', .inr ⟨ks, k, b, rd, rfl, R.sub _ _ hb, rfl⟩, ?_⟩
      rw [hasKs_T] at hq
      rw [← valV_any k ks, any_keys hks k]
      exact ans R xt l hq (.bl _)
  unfold oMemA at h
  split at h
  · rename_i ds d
    obtain ⟨h1, h2, h3⟩ := h
    have ry' : DR K s.F y (.dict d) := ry
    cases ry' with
    | dcT hF hk hs e =>
      subst e
      exact key rx h1 (.inr ⟨_, R.sub _ _ hF⟩) hk.1 rfl h3
    | @dcK a od ks kvs _ hF hk hs e ne =>
      subst e
      cases kvs with
      | nil => exact absurd rfl ne
      | cons p r =>
        obtain ⟨k0, v0⟩ := p
        exfalso
        have : isTupD (keyD k0) = true := by
          simp only [kvK, List.map_cons, List.all_cons, Bool.and_eq_true] at h2
          exact h2.1
        cases k0 <;> simp [keyD, isTupD] at this
  · rename_i ds n
    split at h
    · rename_i kvs hn
      obtain ⟨hlt, rfl⟩ := ry
      obtain ⟨hf, ks, hH, hk, hs⟩ := R.cell n _ hn
      exact key rx h.1 (.inl hH) hk.1 rfl h.2
    · exact low h
  · exact low h
end DL

set_option Elab.async false
set_option linter.all false
set_option maxRecDepth 100000
set_option maxHeartbeats 4000000
namespace DL
open PySem PySem.Spec PyProof.Rows L2
/-! ### what is walked: dicts too, zip -/
def iAnyD (K : PySem.W.Frag) (tl : TE) : TI := fun σ H R => tl σ H fun x H1 => ((∃ a xs, x = .ref a ∧ SqL K H1 a xs ∧ R (Itl K a) H1) ∨ (∃ a xs, x = .ref a ∧ SqT K H1 a xs ∧ R (Itt K a) H1) ∨ ∃ z, x = .str z ∧ R (Its z) H1) ∨
  ∃ d o, x = .ref d ∧ ((∃ kvs, H1 d = some (.frz o (.dK kvs)) ∧ R (Itk d o kvs) H1) ∨ ∃ kvs, H1 d = some (.frz o (.dT kvs)) ∧ R (Itkt d o kvs) H1)
theorem pi_anyD {X : Cx} {tg le : Expr} {tl : TE} (hp : PE X le tl) : PI X tg le (iAnyD X.K tl) := by
  refine ⟨fun pins s σ H R I h => ?_⟩
  refine thn (hp.run pins s σ H _ I h) fun v s1 hv => ?_
  obtain ⟨x, H1, I1, r1, (⟨a, xs, rfl, hq, q⟩ | ⟨a, xs, rfl, hq, q⟩ | ⟨z, rfl, q⟩) | ⟨d, o, rfl, ⟨kvs, hd, q⟩ | ⟨kvs, hd, q⟩⟩⟩ := hv
  · obtain rfl : v = Value.ref a := r1
    obtain ⟨its, rv, p, hz⟩ := I1.list hq
    exact wpAny_pyIter_list p.isList (pi_one (J := Itl X.K a) (tk := s1.toks) I1 _ (turn_list a _) ⟨_, Heap.get?_push_size _ rfl, rfl, rfl⟩ q)
  · obtain rfl : v = Value.ref a := r1
    obtain ⟨its, rv, p, hz⟩ := I1.tuple hq
    exact wpAny_pyIter_tuple (show s1.heap.IsTuple a its.toArray from p) (pi_one (J := Itt X.K a) (tk := s1.toks) I1 _ (turn_tuple a _) ⟨_, Heap.get?_push_size _ rfl, rfl, rfl⟩ q)
  · obtain ⟨t, rfl⟩ := r1
    cases hall : z.cps.all (· < 128) with
    | false => exact wpAny_pyIter_wide hall (pi_one (J := Its z) (tk := s1.toks) I1 _ (turn_str _ z t "str_iterator" (.inr rfl)) ⟨_, Heap.get?_push_size _ rfl, rfl, rfl⟩ q)
    | true => exact wpAny_pyIter_ascii hall (pi_one (J := Its z) (tk := s1.toks) I1 _ (turn_str _ z t "str_ascii_iterator" (.inl rfl)) ⟨_, Heap.get?_push_size _ rfl, rfl, rfl⟩ q)
  · obtain rfl : v = Value.ref d := r1
    obtain ⟨hs, hgd, hx, es, ep, vs, hdt, hsz, kv, hm⟩ := I1.frzK hd
    refine iter_keys hs hgd hx hdt (pi_one (tk := s1.toks) I1 _ (turn_keys _ hdt) ⟨_, Heap.get?_push_size _ rfl, rfl, ?_⟩ q)
    rw [hsz] <;> rfl
  · obtain rfl : v = Value.ref d := r1
    obtain ⟨hs, hgd, hx, es, ep, hdt, hsz, ent⟩ := I1.frzT hd
    refine iter_keys hs hgd hx hdt (pi_one (tk := s1.toks) I1 _ (turn_keysT _ hdt) ⟨_, Heap.get?_push_size _ rfl, rfl, ?_⟩ q)
    rw [hsz] <;> rfl
section
variable {K : PySem.W.Frag} {s0 : Wd} {N0 : Nat} {G : Mu → Prop} {d : Addr} {od : Obj}
theorem walkDT {ks : List (List Key × V)} {kvs : List (List Key × PyData)} (hF : s0.F d = some (.frz od (.dT ks))) (hk : sameT ks kvs) : WalkS K (Itkt d od ks) s0 N0 ((kvT kvs).map fun p => .dat p.1) G := by
  intro n s μ x R _
  have hH := R.sub _ _ (x.f _ _ hF)
  have hl : ks.length = kvs.length := by have := congrArg List.length hk.1; simpa using this
  have hl2 : ((kvT kvs).map fun p => EV.dat p.1).length = ks.length := by simp [kvT, hl]
  refine ⟨fun hn => ⟨hH, by rw [hl2] at hn; exact hn⟩, ⟨hH, by rw [hl2]; exact Nat.le_refl _⟩, fun v H' hn hy => ?_⟩
  obtain ⟨rfl, k, v', q, hkv, rfl, hq⟩ := hy
  have h1 : (ks.map (·.1))[n]? = some k := by rw [List.getElem?_map, hkv]; rfl
  rw [hk.1, List.getElem?_map] at h1
  cases hg : kvs[n]? with
  | none => rw [hg] at h1; cases h1
  | some p =>
    rw [hg] at h1
    cases h1
    obtain ⟨F', f1, R', x', r'⟩ := tup_still R hq (drs_keys (hk.2 p (List.mem_of_getElem? hg)))
    exact ⟨{ s with F := F' }, .dat (.tuple (p.1.map keyD)), rfl, by simp [kvT, hg], rfl, x', R', r'⟩
theorem walkDK {ks : List (Key × V)} {kvs : List (Key × PyData)} (hF : s0.F d = some (.frz od (.dK ks))) (hk : sameK ks kvs) : WalkS K (Itk d od ks) s0 N0 ((kvK kvs).map fun p => .dat p.1) G := by
  intro n s μ x R _
  have hH := R.sub _ _ (x.f _ _ hF)
  have hl : ks.length = kvs.length := by have := congrArg List.length hk.1; simpa using this
  have hl2 : ((kvK kvs).map fun p => EV.dat p.1).length = ks.length := by simp [kvK, hl]
  refine ⟨fun hn => ⟨hH, by rw [hl2] at hn; exact hn⟩, ⟨hH, by rw [hl2]; exact Nat.le_refl _⟩, fun v H' hn hy => ?_⟩
  obtain ⟨rfl, k, v', hkv, rfl⟩ := hy
  have h1 : (ks.map (·.1))[n]? = some k := by rw [List.getElem?_map, hkv]; rfl
  rw [hk.1, List.getElem?_map] at h1
  cases hg : kvs[n]? with
  | none => rw [hg] at h1; cases h1
  | some p =>
    rw [hg] at h1
    cases h1
    refine ⟨s, .dat (keyD p.1), rfl, by simp [kvK, hg], rfl, Ext.refl _ _, R, ?_⟩
    have := hk.2 p (List.mem_of_getElem? hg)
    obtain ⟨k0, v0⟩ := p
    cases k0 with
    | inl i => exact (show DR K s.F (.int i) (.int i) from .int i)
    | inr z => exact (show DR K s.F (.str z) (.str z) from .str z this)
end
def seqDK (r : RI) (e : EV) (μ1 : Mu) : Prop := match e with
  | .dat (.dict d) => r (d.map fun p => .dat p.1) (fun _ => True) μ1
  | e => seqK r e μ1
def iSeqD (t : TDE) : TDI := fun η μ r E => t η μ (fun e μ1 => seqDK r e μ1) E
theorem x_iSeqD {t : TDE} {η : DEnv} {μ : Mu} {r : RI} {E : XQ} : iSeqD t η μ r E = t η μ (fun e μ1 => seqDK r e μ1) E := Eq.trans rfl rfl
theorem seqDK_d {r : RI} {d : List (PyData × PyData)} {μ : Mu} : seqDK r (.dat (.dict d)) μ = r (d.map fun p => .dat p.1) (fun _ => True) μ := Eq.trans rfl rfl
theorem seqDK_t {r : RI} {d : List PyData} {μ : Mu} : seqDK r (.dat (.tuple d)) μ = r (d.map .dat) (fun _ => True) μ := Eq.trans rfl rfl
theorem seqDK_l {r : RI} {d : List PyData} {μ : Mu} : seqDK r (.dat (.list d)) μ = r (d.map .dat) (fun _ => True) μ := Eq.trans rfl rfl
theorem seqDK_s {r : RI} {z : Str} {μ : Mu} : seqDK r (.dat (.str z)) μ = seqK r (.dat (.str z)) μ := Eq.trans rfl rfl
theorem seqDK_n {r : RI} {d : List PyData} {μ : Mu} : seqDK r (.new d) μ = r (d.map .dat) (fun _ => True) μ := Eq.trans rfl rfl
theorem seqDK_r {r : RI} {d : List PyData} {μ : Mu} : seqDK r (.ro d) μ = r (d.map .dat) (fun _ => True) μ := Eq.trans rfl rfl
theorem seqDK_c {r : RI} {n : Nat} {μ : Mu} : seqDK r (.loc n) μ = seqC r n μ μ[n]? := c_seqK
theorem di_seqD {X : Cx} {W : WX} {tg e : Expr} {te : TDE} (h : DE X W e te) : DI X W tg e (iSeqD te) := by
  obtain ⟨t, p, g⟩ := h.ex
  refine ⟨_, pi_anyD p, fun s σ η μ R r E S hq l lx => g s σ η μ _ _ E S hq (fun ev μ1 v s1 hk x1 R1 rv fv => ?_) lx⟩
  cases ev with
  | dat d =>
    have rd : DR X.K s1.F v d := rv
    cases rd with
    | lst h1 h2 => exact .inl (.inl ⟨_, _, rfl, SqL.of (R1.sub _ _ h1), l _ _ _ μ1 s1 hk x1 R1 (walkL fun s2 μ2 x R2 _ => ⟨_, SqL.of (R2.sub _ _ (x.f _ _ h1)), h2.mono x.f⟩)⟩)
    | tup h1 h2 => exact .inl (.inr (.inl ⟨_, _, rfl, SqT.of (R1.sub _ _ h1), l _ _ _ μ1 s1 hk x1 R1 (walkT fun s2 μ2 x R2 _ => ⟨SqT.of (R2.sub _ _ (x.f _ _ h1)), h2.mono x.f⟩)⟩))
    | str z hz => exact .inl (.inr (.inr ⟨z, rfl, l _ _ _ μ1 s1 hk x1 R1 (walkZ (F := s1.F) (.str z hz))⟩))
    | dcT h1 h2 h3 h4 =>
      subst h4
      exact .inr ⟨_, _, rfl, .inr ⟨_, R1.sub _ _ h1, l _ _ _ μ1 s1 hk x1 R1 (walkDT h1 h2)⟩⟩
    | dcK h1 h2 h3 h4 _ =>
      subst h4
      exact .inr ⟨_, _, rfl, .inl ⟨_, R1.sub _ _ h1, l _ _ _ μ1 s1 hk x1 R1 (walkDK h1 h2)⟩⟩
    | _ => exact hk.elim
  | new xs =>
    obtain ⟨p, vs, rfl, a1, a2, a3, a4⟩ := rv
    exact .inl (.inl ⟨p, vs, rfl, SqL.of a1, l _ _ (fun _ => True) μ1 s1 hk x1 R1 (walkL fun s2 μ2 x R2 _ => ⟨_, SqL.of (x.keep _ _ a1 a3), a4.mono x.f⟩)⟩)
  | loc n =>
    obtain ⟨hn, rfl⟩ := rv
    have hk' : seqC r n μ1 μ1[n]? := by
      have : seqDK r (.loc n) μ1 := hk
      rwa [seqDK_c] at this
    unfold seqC at hk'
    split at hk'
    · rename_i xs hc
      obtain ⟨_, vs, a1, a2⟩ := R1.cell n _ hc
      refine .inl (.inl ⟨_, vs, rfl, SqL.of a1, l _ _ _ μ1 s1 hk' x1 R1 (walkL fun s2 μ2 x R2 g => ?_)⟩)
      rw [← x.l n hn]
      rcases g with g | g
      · obtain ⟨_, ws, b1, b2⟩ := R2.cell n _ g
        exact ⟨ws, SqL.of b1, b2⟩
      · obtain ⟨ws, b1, b2⟩ := R2.cell n _ g
        exact ⟨ws, SqL.of (R2.sub _ _ b1), b2⟩
    · rename_i xs hc
      obtain ⟨vs, a1, a2⟩ := R1.cell n _ hc
      exact .inl (.inl ⟨_, vs, rfl, SqL.of (R1.sub _ _ a1), l _ _ _ μ1 s1 hk' x1 R1 (walkL fun s2 μ2 x R2 _ => ⟨_, SqL.of (R2.sub _ _ (x.f _ _ a1)), a2.mono x.f⟩)⟩)
    · exact hk'.elim
  | raw u => exact hk.elim
  | exc x => exact hk.elim
  | newd x => exact hk.elim
  | newk x => exact hk.elim
  | ro xs =>
    obtain ⟨a, vs, rfl, h1, h2⟩ := rv
    exact .inl (.inl ⟨a, vs, rfl, R1.sub.seq h1, l _ _ _ μ1 s1 hk x1 R1 (walkL fun s2 μ2 x R2 _ => ⟨_, R2.sub.seq (x.f.seq h1), h2.mono x.f⟩)⟩)
/-! zip of two -/
def zipK (r : RI) (es : List EV) (μ1 : Mu) : Prop := match es with
  | [.dat (.tuple xs), .dat (.tuple ys)] => xs.length = ys.length ∧ r ((xs.zip ys).map fun p => .dat (.tuple [p.1, p.2])) (fun _ => True) μ1
  | [.dat (.list xs), .dat (.list ys)] => xs.length = ys.length ∧ r ((xs.zip ys).map fun p => .dat (.tuple [p.1, p.2])) (fun _ => True) μ1
  | _ => False
def iZipD (t : TDA) : TDI := fun η μ r E => t η μ (fun es μ1 => zipK r es μ1) E
theorem x_iZipD {t : TDA} {η : DEnv} {μ : Mu} {r : RI} {E : XQ} : iZipD t η μ r E = t η μ (fun es μ1 => zipK r es μ1) E := Eq.trans rfl rfl
theorem zipK_t {r : RI} {xs ys : List PyData} {μ : Mu} : zipK r [.dat (.tuple xs), .dat (.tuple ys)] μ = (xs.length = ys.length ∧ r ((xs.zip ys).map fun p => .dat (.tuple [p.1, p.2])) (fun _ => True) μ) := Eq.trans rfl rfl
theorem zipK_l {r : RI} {xs ys : List PyData} {μ : Mu} : zipK r [.dat (.list xs), .dat (.list ys)] μ = (xs.length = ys.length ∧ r ((xs.zip ys).map fun p => .dat (.tuple [p.1, p.2])) (fun _ => True) μ) := Eq.trans rfl rfl
theorem yld_pair {K : PySem.W.Frag} {s : Wd} {μ : Mu} {vs ws : List V} {xs ys : List PyData} {n : Nat} {T : Addr} {x y : V} (R : Rep K s μ) (h1 : DRs K s.F vs xs) (h2 : DRs K s.F ws ys) (e1 : vs[n]? = some x) (e2 : ws[n]? = some y) (hT : s.H T = none) :
    ∃ (s' : Wd) (e : EV), s'.H = upd s.H T (.tup [x, y]) ∧ ((xs.zip ys).map fun p => EV.dat (.tuple [p.1, p.2]))[n]? = some e ∧ noNew e = true ∧ Ext s μ.length s' μ.length ∧ Rep K s' μ ∧ VR K s' μ.length (.ref T) e := by
  obtain ⟨d1, f1, g1⟩ := h1.getV e1
  obtain ⟨d2, f2, g2⟩ := h2.getV e2
  have kF : Same s.F (upd s.F T (.tup [x, y])) := fun a u q => by rw [upd_ne (ne_of_none q (R.notF hT))]; exact q
  refine ⟨{ s with H := upd s.H T (.tup [x, y]), F := upd s.F T (.tup [x, y]) }, .dat (.tuple [d1, d2]), rfl, ?_, rfl, (Ext.refl s μ.length).putF R hT, R.putF hT, .tup upd_same (.cons (g1.mono kF) (.cons (g2.mono kF) .nil))⟩
  rw [List.getElem?_map, (List.getElem?_zip_eq_some (z := (d1, d2))).mpr ⟨f1, f2⟩]
  rfl
theorem di_zip {X : Cx} {W : WX} {a b : Expr} {t : TDA} {p pos tpos : Pos} {elts : List Expr} {kk : Nat} (hg : Gl X "zip") (hm : X.mg "zip" = none) (ha : DA X W [a, b] t)
    (hs : starEach [a, b] X.env = (false, eval a X.env) :: starEach [b] X.env := by rfl) (hpl : (backTo pos (starEach [b] X.env)).any (·.1) = false := by rfl) :
    DI X W (.Tuple elts kk tpos) (.Call (.Name "zip" p) [a, b] [] pos) (iZipD t) := by
  obtain ⟨t1, p1, g1⟩ := ha.ex
  refine ⟨_, RZ.pi_zipA hg hm p1 hs hpl, fun s σ η μ R r E S hq l lx => g1 s σ η μ _ _ E S hq (fun es μ1 vs s1 hk x1 R1 rs => ?_) lx⟩
  unfold zipK at hk
  split at hk
  · rename_i xs ys
    cases rs with
    | cons rx fx rr =>
      cases rr with
      | cons ry fy rr =>
        cases rr
        rename_i v1 v2
        have rx' : DR X.K s1.F v1 (.tuple xs) := rx
        have ry' : DR X.K s1.F v2 (.tuple ys) := ry
        cases rx' with
        | @tup a1 vs1 _ b1 c1 =>
          cases ry' with
          | @tup a2 vs2 _ b2 c2 =>
            refine ⟨a1, a2, vs1, vs2, rfl, .inr ⟨SqT.of (R1.sub _ _ b1), SqT.of (R1.sub _ _ b2), l _ _ _ μ1 s1 hk.2 x1 R1 fun n s μ x R2 _ => ?_⟩⟩
            have hb1 := SqT.of (K := X.K) (R2.sub _ _ (x.f _ _ b1))
            have hb2 := SqT.of (K := X.K) (R2.sub _ _ (x.f _ _ b2))
            have l1 := c1.length
            have l2 := c2.length
            have hlen : ((xs.zip ys).map fun p => EV.dat (.tuple [p.1, p.2])).length = xs.length := by simp [hk.1]
            refine ⟨fun hn => ⟨vs1, vs2, vs1[n]'(by omega), vs2[n]'(by omega), hb1, hb2, by simp, by simp⟩, ⟨vs1, vs2, hb1, hb2, .inl (by omega)⟩, fun v H' hn hy => ?_⟩
            obtain ⟨T, y1, y2, rfl, hT, rfl, e1, e2⟩ := hy
            exact yld_pair R2 (c1.mono x.f) (c2.mono x.f) (e1 _ hb1) (e2 _ hb2) hT
  · rename_i xs ys
    cases rs with
    | cons rx fx rr =>
      cases rr with
      | cons ry fy rr =>
        cases rr
        rename_i v1 v2
        have rx' : DR X.K s1.F v1 (.list xs) := rx
        have ry' : DR X.K s1.F v2 (.list ys) := ry
        cases rx' with
        | @lst a1 vs1 _ b1 c1 =>
          cases ry' with
          | @lst a2 vs2 _ b2 c2 =>
            refine ⟨a1, a2, vs1, vs2, rfl, .inl ⟨SqL.of (R1.sub _ _ b1), SqL.of (R1.sub _ _ b2), l _ _ _ μ1 s1 hk.2 x1 R1 fun n s μ x R2 _ => ?_⟩⟩
            have hb1 := SqL.of (K := X.K) (R2.sub _ _ (x.f _ _ b1))
            have hb2 := SqL.of (K := X.K) (R2.sub _ _ (x.f _ _ b2))
            have l1 := c1.length
            have l2 := c2.length
            have hlen : ((xs.zip ys).map fun p => EV.dat (.tuple [p.1, p.2])).length = xs.length := by simp [hk.1]
            refine ⟨fun hn => ⟨vs1, vs2, vs1[n]'(by omega), vs2[n]'(by omega), hb1, hb2, by simp, by simp⟩, ⟨vs1, vs2, hb1, hb2, .inl (by omega)⟩, fun v H' hn hy => ?_⟩
            obtain ⟨T, y1, y2, rfl, hT, rfl, e1, e2⟩ := hy
            exact yld_pair R2 (c1.mono x.f) (c2.mono x.f) (e1 _ hb1) (e2 _ hb2) hT
  · exact hk.elim
end DL

set_option Elab.async false
set_option linter.all false
set_option maxRecDepth 100000
set_option maxHeartbeats 4000000
namespace DL
open PySem PySem.Spec PyProof.Rows L2
/-! ### shifts of nought -/
section
variable {prog : Program} {w : World} {A : Around} {E : Value → Shared → Prop} {s : Shared} {n : Int} {t u : Tok} {Q : Value → Shared → Prop}
theorem call_shl0 (hn : 0 ≤ n) (h : Q (.int 0 s.toks) { s with toks := s.toks + 1 }) :
    wpAny (model prog w) A (call (.builtin "int.__lshift__") [.int 0 t, .int n u]) (fun v s' => v ≠ .notImplemented ∧ Q v s') E s := by
  refine wpAny_call_entry slot_int_lshift (typeIs_int s 0 t) entry_int_lshift ?_ (args_int_lshift _ _)
  show wpAny _ _ (if n < 0 then _ else _) _ _ s
  rw [if_neg (by omega)]
  show wpAny _ _ (if ((0 : Int) == 0) = true then _ else _) _ _ s
  rw [if_pos (by simp)]
  repeat (first | refine wpAny_pure ?_ | refine wpAny_mkInt ?_ | refine wpAny_rule ?_ | refine wpAny_bind ?_)
  exact ⟨_, rfl, by simp, h⟩
theorem lshift_0 (hn : 0 ≤ n) (h : Q (.int 0 s.toks) { s with toks := s.toks + 1 }) : wpAny (model prog w) A (binaryOp .LShift (.int 0 t) (.int n u)) Q E s :=
  wpAny_binaryOp_same (op := .LShift) (T := "int") (typeIs_int s 0 t) (typeIs_int s n u) fills_int_lshift slot_int_lshift (call_shl0 hn h)
end
def CSh (i j : Int) : Prop := CPow i j ∨ (i = 0 ∧ 0 ≤ j)
theorem opA_shl {X : Cx} : OpR X (binaryOp .LShift) (rI CSh fun i j => V.int (i * 2 ^ j.toNat)) := opI fun i j t u s Q E hc q => by
  rcases hc with h | ⟨rfl, h⟩
  · exact lshift_int_small h.1 h.2.1 h.2.2 q
  · rw [Int.zero_mul] at q
    exact lshift_0 h q
abbrev oShlA : OD := oI CSh fun i j => .int (i * 2 ^ j.toNat)
theorem os_shlA {K : PySem.W.Frag} : OpS K (rI CSh fun i j => V.int (i * 2 ^ j.toNat)) oShlA := os_I fun _ _ _ => .int _
theorem csh_h {i j : Int} (h1 : 0 ≤ j) (h2 : j ≤ 1000000) (h3 : -18446744073709551616 < i) (h4 : i < 18446744073709551616) : CSh i j = True := eq_true (.inl ⟨h1, h2, by show i.natAbs < 18446744073709551616; omega⟩)
theorem csh_0 {j : Int} (h1 : 0 ≤ j) : CSh 0 j = True := eq_true (.inr ⟨rfl, h1⟩)
theorem neg_i2 {i : Int} {μ : Mu} {q : PQ} : oNeg (.dat (.int i)) μ q = q (.dat (.int (-i))) μ := Eq.trans rfl rfl
theorem inv_i2 {i : Int} {μ : Mu} {q : PQ} : oInv (.dat (.int i)) μ q = q (.dat (.int (Builtin.bitNot i))) μ := Eq.trans rfl rfl
theorem isIntD_none : isIntD .none = false := Eq.trans rfl rfl
theorem isIntD_bool {b : Bool} : isIntD (.bool b) = true := Eq.trans rfl rfl
theorem isIntD_int {i : Int} : isIntD (.int i) = true := Eq.trans rfl rfl
theorem isIntD_str {z : Str} : isIntD (.str z) = false := Eq.trans rfl rfl
theorem isIntD_list {xs : List PyData} : isIntD (.list xs) = false := Eq.trans rfl rfl
theorem isIntD_tuple {xs : List PyData} : isIntD (.tuple xs) = false := Eq.trans rfl rfl
theorem isIntD_dict {kv : List (PyData × PyData)} : isIntD (.dict kv) = false := Eq.trans rfl rfl
theorem isBoolD_none : isBoolD .none = false := Eq.trans rfl rfl
theorem isBoolD_bool {b : Bool} : isBoolD (.bool b) = true := Eq.trans rfl rfl
theorem isBoolD_int {i : Int} : isBoolD (.int i) = false := Eq.trans rfl rfl
theorem isBoolD_str {z : Str} : isBoolD (.str z) = false := Eq.trans rfl rfl
theorem isBoolD_list {xs : List PyData} : isBoolD (.list xs) = false := Eq.trans rfl rfl
theorem isBoolD_tuple {xs : List PyData} : isBoolD (.tuple xs) = false := Eq.trans rfl rfl
theorem isBoolD_dict {kv : List (PyData × PyData)} : isBoolD (.dict kv) = false := Eq.trans rfl rfl
theorem isStrD_none : isStrD .none = false := Eq.trans rfl rfl
theorem isStrD_bool {b : Bool} : isStrD (.bool b) = false := Eq.trans rfl rfl
theorem isStrD_int {i : Int} : isStrD (.int i) = false := Eq.trans rfl rfl
theorem isStrD_str {z : Str} : isStrD (.str z) = true := Eq.trans rfl rfl
theorem isStrD_list {xs : List PyData} : isStrD (.list xs) = false := Eq.trans rfl rfl
theorem isStrD_tuple {xs : List PyData} : isStrD (.tuple xs) = false := Eq.trans rfl rfl
theorem isStrD_dict {kv : List (PyData × PyData)} : isStrD (.dict kv) = false := Eq.trans rfl rfl
theorem isListD_none : isListD .none = false := Eq.trans rfl rfl
theorem isListD_bool {b : Bool} : isListD (.bool b) = false := Eq.trans rfl rfl
theorem isListD_int {i : Int} : isListD (.int i) = false := Eq.trans rfl rfl
theorem isListD_str {z : Str} : isListD (.str z) = false := Eq.trans rfl rfl
theorem isListD_list {xs : List PyData} : isListD (.list xs) = true := Eq.trans rfl rfl
theorem isListD_tuple {xs : List PyData} : isListD (.tuple xs) = false := Eq.trans rfl rfl
theorem isListD_dict {kv : List (PyData × PyData)} : isListD (.dict kv) = false := Eq.trans rfl rfl
theorem isTupD_none : isTupD .none = false := Eq.trans rfl rfl
theorem isTupD_bool {b : Bool} : isTupD (.bool b) = false := Eq.trans rfl rfl
theorem isTupD_int {i : Int} : isTupD (.int i) = false := Eq.trans rfl rfl
theorem isTupD_str {z : Str} : isTupD (.str z) = false := Eq.trans rfl rfl
theorem isTupD_list {xs : List PyData} : isTupD (.list xs) = false := Eq.trans rfl rfl
theorem isTupD_tuple {xs : List PyData} : isTupD (.tuple xs) = true := Eq.trans rfl rfl
theorem isTupD_dict {kv : List (PyData × PyData)} : isTupD (.dict kv) = false := Eq.trans rfl rfl
theorem isDictD_none : isDictD .none = false := Eq.trans rfl rfl
theorem isDictD_bool {b : Bool} : isDictD (.bool b) = false := Eq.trans rfl rfl
theorem isDictD_int {i : Int} : isDictD (.int i) = false := Eq.trans rfl rfl
theorem isDictD_str {z : Str} : isDictD (.str z) = false := Eq.trans rfl rfl
theorem isDictD_list {xs : List PyData} : isDictD (.list xs) = false := Eq.trans rfl rfl
theorem isDictD_tuple {xs : List PyData} : isDictD (.tuple xs) = false := Eq.trans rfl rfl
theorem isDictD_dict {kv : List (PyData × PyData)} : isDictD (.dict kv) = true := Eq.trans rfl rfl
theorem set_dictU {X : Cx} (hu : X.A.units + 64 < cLine) : PSet X rSetD := set_dict (by omega)
/-! ### equations of dicts -/
def lcD (c : Option Cell) (k : List (List Key × PyData) → Prop) : Prop := match c with
  | some (.dct kvs) => k kvs
  | _ => False
theorem lcD_d {kvs : List (List Key × PyData)} {k : List (List Key × PyData) → Prop} : lcD (some (.dct kvs)) k = k kvs := Eq.trans rfl rfl
def keysK (ds : List PyData) (f : List Key → Prop) : Prop := match keysOf ds with
  | some k => f k
  | none => False
theorem keysK_nil {f : List Key → Prop} : keysK [] f = f [] := Eq.trans rfl rfl
theorem keysK_i {i : Int} {ds : List PyData} {f : List Key → Prop} : keysK (.int i :: ds) f = keysK ds fun k => f (.inl i :: k) := by
  simp only [keysK, keysOf, keyOf]
  cases keysOf ds <;> rfl
theorem keysK_s {i : Str} {ds : List PyData} {f : List Key → Prop} : keysK (.str i :: ds) f = keysK ds fun k => f (.inr i :: k) := by
  simp only [keysK, keysOf, keyOf]
  cases keysOf ds <;> rfl
def keysP (ds : List PyData) : Prop := (keysOf ds).isSome = true
theorem keysP_nil : keysP [] = True := eq_true rfl
theorem keysP_i {i : Int} {ds : List PyData} : keysP (.int i :: ds) = keysP ds := by
  simp only [keysP, keysOf, keyOf]
  cases keysOf ds <;> rfl
theorem keysP_s {i : Str} {ds : List PyData} : keysP (.str i :: ds) = keysP ds := by
  simp only [keysP, keysOf, keyOf]
  cases keysOf ds <;> rfl
section
variable {μ : Mu} {n : Nat} {q : PQ} {ds xs : List PyData} {d : PyData} {neg : Bool}
theorem c_setD {q : Mu → Prop} : oSetD (.loc n) (.dat (.tuple ds)) (.dat d) μ q = lcD μ[n]? fun kvs => keysK ds fun k => kvs.length < 100000 ∧ q (μ.set n (.dct (putD kvs k d))) := by
  simp only [oSetD, lcD, keysK]
  cases μ[n]? with
  | none => rfl
  | some c => cases c <;> cases keysOf ds <;> rfl
theorem memA_dict {e : List (PyData × PyData)} : oMemA neg (.dat (.tuple ds)) (.dat (.dict e)) μ q = (keysP ds ∧ (e.all fun p => isTupD p.1) = true ∧ q (.dat (.bool (if neg then !hasKs e (.tuple ds) else hasKs e (.tuple ds)))) μ) := Eq.trans rfl rfl
theorem memA_l : oMemA neg (.dat d) (.dat (.list xs)) μ q = oMem neg (.dat d) (.dat (.list xs)) μ q := by cases d <;> rfl
theorem memA_t : oMemA neg (.dat d) (.dat (.tuple xs)) μ q = oMem neg (.dat d) (.dat (.tuple xs)) μ q := by cases d <;> rfl
theorem memA_n : oMemA neg (.dat d) (.new xs) μ q = oMem neg (.dat d) (.new xs) μ q := by cases d <;> rfl
def memC (neg : Bool) (x : PyData) (n : Nat) (μ : Mu) (q : PQ) (c : Option Cell) : Prop := match c with
  | some (.dct kvs) => match x with
    | .tuple ds => keysP ds ∧ q (.dat (.bool (if neg then !hasKs (kvT kvs) (.tuple ds) else hasKs (kvT kvs) (.tuple ds)))) μ
    | _ => False
  | _ => oMem neg (.dat x) (.loc n) μ q
theorem c_memA : oMemA neg (.dat d) (.loc n) μ q = memC neg d n μ q μ[n]? := by
  have no : ∀ {kvs}, μ[n]? = some (.dct kvs) → oMem neg (.dat d) (.loc n) μ q = False := fun h => by simp [oMem, datOf, lstOf, h]
  unfold memC
  cases h : μ[n]? with
  | none => cases d <;> simp [oMemA, h]
  | some c =>
    cases c with
    | dct kvs => cases d <;> simp [oMemA, h, keysP, no h]
    | _ => cases d <;> simp [oMemA, h]
theorem memC_d {kvs : List (List Key × PyData)} : memC neg (.tuple ds) n μ q (some (.dct kvs)) = (keysP ds ∧ q (.dat (.bool (if neg then !hasKs (kvT kvs) (.tuple ds) else hasKs (kvT kvs) (.tuple ds)))) μ) := Eq.trans rfl rfl
theorem memC_l {xs : List PyData} : memC neg d n μ q (some (.lst xs)) = oMem neg (.dat d) (.loc n) μ q := Eq.trans rfl rfl
theorem memC_f {xs : List PyData} : memC neg d n μ q (some (.frz xs)) = oMem neg (.dat d) (.loc n) μ q := Eq.trans rfl rfl
end
theorem cell_nd {q : PQ} {μ : Mu} {kvs : List (List Key × PyData)} : cellK q (.newd kvs) μ = q (.loc μ.length) (μ ++ [.dct kvs]) := Eq.trans rfl rfl
theorem cell_nk {q : PQ} {μ : Mu} {kvs : List (Key × PyData)} : cellK q (.newk kvs) μ = q (.loc μ.length) (μ ++ [.dck kvs]) := Eq.trans rfl rfl
theorem stl_nd {q : PQ} {μ : Mu} {kvs : List (List Key × PyData)} : stlK q (.newd kvs) μ = q (.dat (.dict (kvT kvs))) μ := Eq.trans rfl rfl
theorem stl_nk {q : PQ} {μ : Mu} {kvs : List (Key × PyData)} : stlK q (.newk kvs) μ = (kvs ≠ [] ∧ q (.dat (.dict (kvK kvs))) μ) := Eq.trans rfl rfl
theorem ex_nd {q : PQ} {μ : Mu} {N : Nat} {kvs : List (List Key × PyData)} : DL.exitQ N q (.newd kvs) μ = q (.newd kvs) (μ.take N) := Eq.trans rfl rfl
theorem ex_nk {q : PQ} {μ : Mu} {N : Nat} {kvs : List (Key × PyData)} : DL.exitQ N q (.newk kvs) μ = q (.newk kvs) (μ.take N) := Eq.trans rfl rfl
/-! ### cells of a floor: a dict of places -/
abbrev Pt := Int × Int
def ptD (c : Pt) : PyData := .tuple [.int c.1, .int c.2]
theorem enc_pt : Enc ptD 1 := Enc.t2 enc_int enc_int
def ptE (c : Pt) : List Key × PyData := ([.inl c.1, .inl c.2], .bool true)
def dctD (cs : List Pt) : PyData := .dict (cs.map fun c => (ptD c, .bool true))
theorem kvT_pt (cs : List Pt) : PyData.dict (kvT (cs.map ptE)) = dctD cs := by
  simp [kvT, dctD, ptE, ptD, keyD, Function.comp_def]
def insC (cs : List Pt) (c : Pt) : List Pt := if c ∈ cs then cs else cs ++ [c]
theorem mem_ins {cs : List Pt} {c x : Pt} : x ∈ insC cs c ↔ x ∈ cs ∨ x = c := by
  unfold insC
  split
  · rename_i h
    exact ⟨.inl, fun z => z.elim id fun e => e ▸ h⟩
  · simp
theorem len_ins (cs : List Pt) (c : Pt) : (insC cs c).length ≤ cs.length + 1 := by
  unfold insC
  split
  · omega
  · simp
theorem put_pt (cs : List Pt) (x y : Int) : putD (cs.map ptE) [.inl x, .inl y] (.bool true) = (insC cs (x, y)).map ptE := by
  unfold putD insC
  have e : ((cs.map ptE).any fun kv => decide (kv.1 = [Sum.inl x, Sum.inl y])) = decide ((x, y) ∈ cs) := by
    rw [List.any_map, Bool.eq_iff_iff, List.any_eq_true, decide_eq_true_eq]
    constructor
    · rintro ⟨c, hc, h⟩
      simp [ptE] at h
      obtain ⟨c1, c2⟩ := c
      simp at h
      obtain ⟨rfl, rfl⟩ := h
      exact hc
    · intro h
      exact ⟨(x, y), h, by simp [ptE]⟩
  rw [e]
  by_cases h : (x, y) ∈ cs
  · rw [if_pos (decide_eq_true h), if_pos h, List.map_map]
    refine List.map_congr_left fun c _ => ?_
    simp only [Function.comp]
    split
    · rfl
    · rfl
  · rw [if_neg (by simpa using h), if_neg h, List.map_append]
    rfl
theorem hasKs_pt (cs : List Pt) (c : Pt) : hasKs (cs.map fun c => (ptD c, PyData.bool true)) (ptD c) = decide (c ∈ cs) := by
  unfold hasKs
  rw [List.any_map, Bool.eq_iff_iff, List.any_eq_true, decide_eq_true_eq]
  constructor
  · rintro ⟨x, hx, h⟩
    have := (enc_pt.inj x c).mp h
    exact this ▸ hx
  · intro h
    exact ⟨c, h, (enc_pt.inj c c).mpr rfl⟩
theorem allT_pt (cs : List Pt) : ((cs.map fun c => (ptD c, PyData.bool true)).all fun p => isTupD p.1) = true := by
  rw [List.all_map, List.all_eq_true]
  intro c _
  rfl
end DL

set_option Elab.async false
set_option linter.all false
set_option maxRecDepth 100000
set_option maxHeartbeats 4000000
namespace DL
open PySem PySem.Spec PyProof.Rows L2
/-! ### list(d), d a dict with tuple keys -/
section
variable {K : PySem.W.Frag} {s0 s : Wd} {N0 : Nat} {μ : Mu}
theorem tups_still {ks : List (List Key × V)} {bs : List Addr} (h : Paired (fun p b => s.H b = some (.tup (p.1.map kV))) ks bs) : ∀ {F1 : Hp}, Rep K { s with F := F1 } μ → (∀ p ∈ ks, ∀ x ∈ p.1, keyOk x) →
    ∃ F', Same F1 F' ∧ Rep K { s with F := F' } μ ∧ Ext { s with F := F1 } μ.length { s with F := F' } μ.length ∧ DRs K F' (bs.map V.ref) (ks.map fun p => .tuple (p.1.map keyD)) := by
  induction h with
  | nil => exact fun R _ => ⟨_, fun _ _ z => z, R, Ext.refl _ _, .nil⟩
  | @cons p b ps qs hq t ih =>
    intro F1 R ok
    obtain ⟨F2, f2, R2, x2, r2⟩ := tup_still (s := { s with F := F1 }) R hq (drs_keys (ok p (by simp)))
    obtain ⟨F3, f3, R3, x3, r3⟩ := ih R2 fun p hp => ok p (by simp [hp])
    exact ⟨F3, fun a o z => f3 a o (f2 a o z), R3, x2.trans x3 fun n hn => R2.here hn, .cons (r2.mono f3) r3⟩
end
def oListA : CD := fun es μ q => match es with
  | [.dat (.dict d)] => (d.all fun p => isTupD p.1) = true ∧ q (.new (d.map (·.1))) μ
  | es => oList es μ q
def rListA (K : PySem.W.Frag) : List V → Hp → VK → Prop := fun xs H Q => (∃ p ys, xs = [.ref p] ∧ (SqL K H p ys ∨ SqT K H p ys) ∧ ∀ l, H l = none → Q (.ref l) (upd H l (.lst ys))) ∨
  (∃ d kvs, xs = [V.ref d] ∧ Rd H d (.dT kvs) ∧ ∀ p bs, H p = none → IsKeys H kvs bs → Q (.ref p) (upd H p (.lst (bs.map V.ref))))
theorem call_listA {X : Cx} (hc : X.calm = true) : CallR X (.type "list") (rListA X.K) := call_list_of.or (call_list_dT hc)
theorem cs_listA {K : PySem.W.Frag} : CallS K (rListA K) oListA := by
  intro s0 N0 s μ xs es q Q R xt r h l
  unfold oListA at h
  split at h
  · rename_i d
    obtain ⟨h1, h2⟩ := h
    cases r with
    | cons rx fx rr =>
      cases rr
      have rd : DR K s.F _ (.dict d) := rx
      cases rd with
      | dcT hF hk hs e =>
        subst e
        refine .inr ⟨_, _, rfl, .inr ⟨_, R.sub _ _ hF⟩, fun p bs hp hb => ?_⟩
        rename_i ks kvs
        have hkk : ∀ p ∈ ks, ∀ x ∈ p.1, keyOk x := fun p hp => by
          have : p.1 ∈ kvs.map (·.1) := by rw [← hk.1]; exact List.mem_map_of_mem hp
          obtain ⟨p', hp', e⟩ := List.mem_map.mp this
          rw [← e]
          exact hk.2 p' hp'
        obtain ⟨F', f', R', x', r'⟩ := tups_still (s := s) (F1 := s.F) hb R hkk
        have e : (kvT kvs).map (·.1) = ks.map fun p => .tuple (p.1.map keyD) := by
          have e1 : ((kvT kvs).map (·.1)) = (kvs.map (·.1)).map fun k => PyData.tuple (k.map keyD) := by simp [kvT]
          rw [e1, ← hk.1, List.map_map]
          rfl
        rw [e] at h2
        exact ans_new (s := { s with F := F' }) R' (xt.trans x' fun n hn => R.here hn) l h2 r' hp
      | @dcK a od ks kvs _ hF hk hs e ne =>
        subst e
        cases kvs with
        | nil => exact absurd rfl ne
        | cons p r =>
          obtain ⟨k0, v0⟩ := p
          exfalso
          have : isTupD (keyD k0) = true := by
            simp only [kvK, List.map_cons, List.all_cons, Bool.and_eq_true] at h1
            exact h1.1
          cases k0 <;> simp [keyD, isTupD] at this
  · exact .inl (cs_list s0 N0 s μ xs _ q Q R xt r h l)
theorem x_oListA_d {d : List (PyData × PyData)} {μ : Mu} {q : PQ} : oListA [.dat (.dict d)] μ q = ((d.all fun p => isTupD p.1) = true ∧ q (.new (d.map (·.1))) μ) := Eq.trans rfl rfl
end DL

set_option Elab.async false
set_option linter.all false
set_option maxRecDepth 100000
set_option maxHeartbeats 4000000
namespace DL
open PySem PySem.Spec PyProof.Rows L2
/-! ### dict(d), d a dict with tuple keys -/
theorem call_dict_copyT {prog : Program} {w : World} {K : Type} [DecidableEq K] {knd : HeapKind prog w K} {A : Around} {E : Value → Shared → Prop} {s : Shared} {o : Addr} {more : List (K × Addr × Value)} {Q : Value → Shared → Prop}
    (hu : knd.room A.in1.in1) (hoS : (o == sysModules) = false) (ho : s.heap.DictOfH knd o more) (hty : ∀ x ∈ more, s.TypeIs (.ref x.2.1) "tuple") (hap : (more.map fun x => knd.hash x.1).Nodup) (hsz : more.length ≤ sizeLine)
    (st : ∀ x ∈ more, knd.is (s.heap.push { cls := .type "dict", data := .dict #[] }) x.1 x.2.1)
    (h : ∀ h', h'.DictOfH knd s.heap.objs.size more → (∀ b o, s.heap.get? b = some o → h'.get? b = some o) → Q (.ref s.heap.objs.size) { s with heap := h' }) :
    wpAny (model prog w) A (call (.type "dict") [.ref o]) Q E s := by
  refine callType_codes (Q₁ := fun obj s₁ => obj = .ref s.heap.objs.size ∧ s₁ = { s with heap := s.heap.push { cls := .type "dict", data := .dict #[] } }) F.kt_called_dict (F.kt_typeCall_dict_1 _) F.entry_dict_init (kt_code_dict_new _ ⟨rfl, rfl⟩) ?_
  rintro obj s₁ ⟨rfl, rfl⟩
  have hT : Shared.TypeIs { s with heap := s.heap.push { cls := .type "dict", data := .dict #[] } } (.ref s.heap.objs.size) "dict" := ⟨_, Heap.get?_push_size _ rfl, rfl⟩
  refine ⟨hT, F.args_dict_init_2 _ _, ?_⟩
  unfold Builtin.«dict.__init__»
  refine wpAny_bind ?_
  unfold Builtin.Dict.selfAndRest
  refine wpAny_bind (wpAny_notOrdered_dict hT ?_)
  show wpAny _ _ (pure (s.heap.objs.size, [Value.ref o])) _ _ _
  refine wpAny_pure ?_
  obtain ⟨q, es, ep, hq, h2, h3, h4, h5, h6⟩ := id ho
  have hdo : s.heap.objs.size ≠ o := fun e => absurd (Heap.lt_size hq) (by rw [e]; exact Nat.lt_irrefl _)
  refine updateFrom_dictH (A := A.in1) (knd := knd) (kvs := []) .none hu hdo hoS (Heap.DictOfH.new s.heap) ⟨q, es, ep, Heap.get?_push_of_some _ hq, h2, h3, h4, st, h6⟩ (.inr ⟨fun x hx => ?_, hap⟩) (by simpa using hsz) fun h' hd' ho' hs => ?_
  · obtain ⟨u, hu, hc⟩ := hty x hx
    exact ⟨u, Heap.get?_push_of_some _ hu, hc⟩
  · rw [storedAllH_nil_of_nodup more h6] at hd'
    exact ⟨rfl, h h' hd' fun b u e => hs.extBut b u (Nat.ne_of_lt (Heap.lt_size e)) (Heap.get?_push_of_some _ e)⟩
/-- tuples of whole numbers below ten, two: their hashes differ -/
def kHash (k : List Key) : Int := reduceHash (Builtin.Tuple.tupleHashOf (k.map fun
  | .inl i => hashInt i
  | .inr _ => 0))
def intKs (k : List Key) : Prop := ∀ x ∈ k, ∃ i, x = .inl i
theorem kHash_eq {prog : Program} {w : World} {k : List Key} (h : intKs k) : (tupleKind (mixKind prog w)).hash k = kHash k := by
  show reduceHash (Builtin.Tuple.tupleHashOf (k.map (keyH w))) = _
  unfold kHash
  congr 2
  refine List.map_congr_left fun x hx => ?_
  obtain ⟨i, rfl⟩ := h x hx
  rfl
theorem keys_KT {H : Hp} {kvs : List (List Key × V)} {xs : List (List Key × Addr × Value)} (r : KT H kvs xs) : kvs.map (·.1) = xs.map (·.1) := by
  induction r with
  | nil => rfl
  | cons hq t ih => rw [List.map_cons, List.map_cons, ih, hq.1]
theorem call_dictT {X : Cx} (hu : X.A.units + 64 < cLine) : CallR X (.type "dict") (fun xs H Q => ∃ (a : Addr) (kvs : List (List Key × V)), xs = [.ref a] ∧ Rd H a (.dT kvs) ∧ (∀ p ∈ kvs, intKs p.1) ∧ (∀ p ∈ kvs, ∀ p' ∈ kvs, kHash p.1 = kHash p'.1 → p.1 = p'.1) ∧ ∀ p, H p = none → Q (.ref p) (upd H p (.dT kvs))) := by
  intro pins s σ H xs us Q I r q
  obtain ⟨a, kvs, ex, hd, hi, hn, q⟩ := q
  subst ex
  obtain ⟨u, eu, rx⟩ := vals1 r
  subst eu
  cases rx
  obtain ⟨z, lo, xs, rel, dd⟩ := dt_rd I.hok hd
  have hl : xs.length = kvs.length := (Paired.length rel).symm
  have hk : ∀ x ∈ xs, ∃ p ∈ kvs, p.1 = x.1 := by
    clear hl dd z hn hi q hd
    induction rel with
    | nil => intro x hx; exact nomatch hx
    | @cons p y ps ys hq t ih =>
      intro x hx
      rcases List.mem_cons.mp hx with e | hx
      · subst e
        exact ⟨p, by simp, hq.1⟩
      · obtain ⟨p', hp', e⟩ := ih x hx
        exact ⟨p', by simp [hp'], e⟩
  have hm : xs.map (fun x => (tupleKind (mixKind X.prog X.w)).hash x.1) = kvs.map fun p => kHash p.1 := by
    clear hl dd z hn q hk hd
    revert hi
    induction rel with
    | nil => exact fun _ => rfl
    | @cons p y ps ys hq t ih =>
      intro hi
      rw [List.map_cons, List.map_cons, ih fun p' hp' => hi p' (by simp [hp']), ← hq.1, kHash_eq (hi p (by simp))]
  obtain ⟨o, es, ep, h1, h2, h3, h4, h5, h6⟩ := id dd
  have hks : (kvs.map (·.1)).Nodup := by rwa [show xs.map (·.1) = kvs.map (·.1) from (keys_KT rel).symm] at h6
  have hn : (kvs.map fun p => kHash p.1).Nodup := by
    unfold List.Nodup at hks ⊢
    rw [List.pairwise_map] at hks ⊢
    exact hks.imp_of_mem fun {a b} ha hb ne e => ne (hn a ha b hb e)
  refine call_dict_copyT (knd := tupleKind (mixKind X.prog X.w)) (A := X.A) (show X.A.units + 2 < cLine by omega) lo dd (fun x hx => tupleKind_stays.tuple (h5 x hx)) (by rw [hm]; exact hn) (by rw [hl]; exact z) (fun x hx => tupleKind_stays.stays (fun b o _ _ e _ => Heap.get?_push_of_some _ e) (h5 x hx)) fun h' d' hs => ?_
  have hms : (s.heap.objs.size == sysModules) = false := beq_eq_false_iff_ne.mpr (Nat.ne_of_gt I.big)
  have fr := I.hok.fresh (Nat.le_refl s.heap.objs.size)
  obtain ⟨o', es', ep', g1, g2, g3, g4, g5, g6⟩ := d'
  refine ⟨.ref s.heap.objs.size, upd H s.heap.objs.size (.dT kvs), I.laid (t' := s.toks) hs (Nat.le_refl _)
    (show ObjOk X.prog X.w _ _ _ (.dT kvs) from ⟨z, hms, xs, KT.keeps rel fun c ys ec => ?_, o', es', ep', g1, g2, g3, g4, g6⟩), rfl, q _ fr⟩
  rw [upd_ne (ne_of_none ec fr)]
  exact ec
theorem keyD_inj {a b : Key} (h : keyD a = keyD b) : a = b := by
  cases a <;> cases b <;> simp [keyD] at h <;> rw [h]
theorem keysD_inj : ∀ {a b : List Key}, a.map keyD = b.map keyD → a = b
  | [], [], _ => rfl
  | [], _ :: _, h => by simp at h
  | _ :: _, [], h => by simp at h
  | x :: a, y :: b, h => by
    simp only [List.map_cons, List.cons.injEq] at h
    rw [keyD_inj h.1, keysD_inj h.2]
theorem kvT_inj : ∀ {a b : List (List Key × PyData)}, kvT a = kvT b → a = b
  | [], [], _ => rfl
  | [], _ :: _, h => by simp [kvT] at h
  | _ :: _, [], h => by simp [kvT] at h
  | (k, v) :: a, (k', v') :: b, h => by
    simp only [kvT, List.map_cons, List.cons.injEq, Prod.mk.injEq, PyData.tuple.injEq] at h
    obtain ⟨⟨h1, h2⟩, h3⟩ := h
    rw [keysD_inj h1, h2, kvT_inj (a := a) (b := b) h3]
def oDictT : CD := fun es μ q => match es with
  | [.dat (.dict d)] => ∃ kvs, d = kvT kvs ∧ (∀ p ∈ kvs, intKs p.1) ∧ (∀ p ∈ kvs, ∀ p' ∈ kvs, kHash p.1 = kHash p'.1 → p.1 = p'.1) ∧ q (.newd kvs) μ
  | _ => False
theorem mem_keys {α β γ : Type} {a : List (α × β)} {b : List (α × γ)} (h : a.map (·.1) = b.map (·.1)) {p : α × β} (hp : p ∈ a) : ∃ p' ∈ b, p'.1 = p.1 := by
  have : p.1 ∈ b.map (·.1) := by rw [← h]; exact List.mem_map_of_mem hp
  obtain ⟨p', hp', e⟩ := List.mem_map.mp this
  exact ⟨p', hp', e⟩
abbrev rDictT : List V → Hp → VK → Prop := fun xs H Q => ∃ (a : Addr) (kvs : List (List Key × V)), xs = [.ref a] ∧ Rd H a (.dT kvs) ∧ (∀ p ∈ kvs, intKs p.1) ∧ (∀ p ∈ kvs, ∀ p' ∈ kvs, kHash p.1 = kHash p'.1 → p.1 = p'.1) ∧ ∀ p, H p = none → Q (.ref p) (upd H p (.dT kvs))
theorem cs_dictT {K : PySem.W.Frag} : CallS K rDictT oDictT := by
  intro s0 N0 s μ xs es q Q R xt r h l
  unfold oDictT at h
  split at h
  · rename_i d
    obtain ⟨kvs, ed, h1, h2, h3⟩ := h
    subst ed
    cases r with
    | cons rx fx rr =>
      cases rr
      have rd : DR K s.F _ (.dict (kvT kvs)) := rx
      cases rd with
      | dcT hF hk hs e =>
        have e := kvT_inj e
        subst e
        refine ⟨_, _, rfl, .inr ⟨_, R.sub _ _ hF⟩, fun p hp => ?_, fun p hp p' hp' e => ?_, fun p hp => ?_⟩
        · obtain ⟨p', hp', e⟩ := mem_keys hk.1 hp
          exact e ▸ h1 p' hp'
        · obtain ⟨a, ha, ea⟩ := mem_keys hk.1 hp
          obtain ⟨b, hb, eb⟩ := mem_keys hk.1 hp'
          rw [← ea, ← eb] at e ⊢
          exact h2 a ha b hb e
        · exact l (.newd kvs) μ (.ref p) { s with H := upd s.H p (.dT _) } h3 (xt.put R hp) (R.put hp) ⟨p, _, rfl, upd_same, R.notF hp, R.notL hp, hk, hs⟩ (fun y hy => by cases hy; exact xt.fresh R hp)
      | @dcK a od ks kvs' _ hF hk hs e ne =>
        exfalso
        cases kvs' with
        | nil => exact ne rfl
        | cons p r =>
          cases kvs with
          | nil => simp [kvT, kvK] at e
          | cons p' r' =>
            obtain ⟨k0, v0⟩ := p
            cases k0 <;> simp [kvT, kvK, keyD] at e
  · exact h.elim
theorem x_oDictT {d : List (PyData × PyData)} {μ : Mu} {q : PQ} : oDictT [.dat (.dict d)] μ q = ∃ kvs, d = kvT kvs ∧ (∀ p ∈ kvs, intKs p.1) ∧ (∀ p ∈ kvs, ∀ p' ∈ kvs, kHash p.1 = kHash p'.1 → p.1 = p'.1) ∧ q (.newd kvs) μ := Eq.trans rfl rfl
/-- places below ten -/
def pts10 : List Pt := (List.range 10).flatMap fun x : Nat => (List.range 10).map fun y : Nat => ((x : Int), (y : Int))
theorem pts10_hash : (pts10.map fun c => kHash [.inl c.1, .inl c.2]).Nodup := by decide +kernel
theorem hash_pt {c c' : Pt} (h : c ∈ pts10) (h' : c' ∈ pts10) (e : kHash (ptE c).1 = kHash (ptE c').1) : c = c' := by
  have h0 := pts10_hash
  unfold List.Nodup at h0
  rw [List.pairwise_map] at h0
  have : ∀ {l : List Pt}, l.Pairwise (fun a b => kHash [.inl a.1, .inl a.2] ≠ kHash [.inl b.1, .inl b.2]) → c ∈ l → c' ∈ l → c = c' := by
    intro l hp
    induction hp with
    | nil => intro z; exact nomatch z
    | cons hd _ ih =>
      intro z1 z2
      rcases List.mem_cons.mp z1 with e1 | y1
      · rcases List.mem_cons.mp z2 with e2 | y2
        · rw [e1, e2]
        · exact absurd e (by rw [e1]; exact hd _ y2)
      · rcases List.mem_cons.mp z2 with e2 | y2
        · exact absurd e.symm (by rw [e2]; exact hd _ y1)
        · exact ih y1 y2
  exact this h0 h h'
theorem mem_pts10 {c : Pt} (h1 : 0 ≤ c.1) (h2 : c.1 < 10) (h3 : 0 ≤ c.2) (h4 : c.2 < 10) : c ∈ pts10 := by
  unfold pts10
  rw [List.mem_flatMap]
  exact ⟨c.1.toNat, List.mem_range.mpr (by omega), List.mem_map.mpr ⟨c.2.toNat, List.mem_range.mpr (by omega), Prod.ext (by simp only; omega) (by simp only; omega)⟩⟩
/-- a copy of a dict of places -/
theorem x_oDictP {cs : List Pt} {μ : Mu} {q : PQ} (h : ∀ c ∈ cs, c ∈ pts10) (hq : q (.newd (cs.map ptE)) μ) : oDictT [.dat (dctD cs)] μ q := by
  have e := kvT_pt cs
  rw [← e, x_oDictT]
  refine ⟨_, rfl, fun p hp => ?_, fun p hp p' hp' e => ?_, hq⟩
  · obtain ⟨c, hc, rfl⟩ := List.mem_map.mp hp
    intro x hx
    rcases List.mem_cons.mp hx with rfl | hx
    · exact ⟨_, rfl⟩
    · rw [List.mem_singleton.mp hx]
      exact ⟨_, rfl⟩
  · obtain ⟨c, hc, rfl⟩ := List.mem_map.mp hp
    obtain ⟨c', hc', rfl⟩ := List.mem_map.mp hp'
    rw [hash_pt (h c hc) (h c' hc') e]
end DL

set_option Elab.async false
set_option linter.all false
set_option maxRecDepth 100000
set_option maxHeartbeats 4000000
namespace DL
open PySem PySem.Spec PyProof.Rows L2
/-! ### dict(pairs), the keys tuples -/
abbrev PairsT (K : PySem.W.Frag) (H : Hp) (ps : List Addr) (kvs : List (List Key × V)) : Prop := Paired (fun (p : Addr) (kv : List Key × V) => ∃ b, SqT K H p [.ref b, kv.2] ∧ H b = some (.tup (kv.1.map kV))) ps kvs
theorem pairsT_of {X : Cx} {pins : List (Addr × Obj)} {σ : L2.St} {H : Hp} {s : Shared} (I : L2.Inv X pins σ H s) {ps : List Addr} {kvs : List (List Key × V)} (h : PairsT X.K H ps kvs) :
    ∃ xs : List (List Key × Addr × Value), KT H kvs xs ∧ xs.length = ps.length ∧ ∀ (j : Nat) (x : List Key × Addr × Value), xs[j]? = some x → ∃ b, ps[j]? = some b ∧ s.heap.IsTuple b #[.ref x.2.1, x.2.2] := by
  induction h with
  | nil => exact ⟨[], .nil, rfl, fun j x e => by simp at e⟩
  | @cons p kv ps kvs hq t ih =>
    obtain ⟨xs, r, hl, hp⟩ := ih
    obtain ⟨b, hs, hb⟩ := hq
    obtain ⟨its, rv, ht, _⟩ := I.tuple hs
    obtain ⟨u, y, ei, ru, ry⟩ := vals2 rv
    subst ei
    cases ru
    refine ⟨(kv.1, b, y) :: xs, .cons ⟨rfl, hb, ry⟩ r, by rw [List.length_cons, List.length_cons, hl], fun j x e => ?_⟩
    cases j with
    | zero =>
      have e' : (kv.1, b, y) = x := Option.some.inj e
      subst e'
      exact ⟨p, rfl, ht⟩
    | succ j =>
      obtain ⟨c, e1, e2⟩ := hp j x (by simpa using e)
      exact ⟨c, by simpa using e1, e2⟩
def mergeT {α : Type} (f : List (List Key × α) → List Key → α → List (List Key × α)) (acc kvs : List (List Key × α)) : List (List Key × α) := kvs.foldl (fun a kv => f a kv.1 kv.2) acc
theorem kt_merge {H : Hp} {kvs : List (List Key × V)} {xs : List (List Key × Addr × Value)} (r : KT H kvs xs) : ∀ {acc : List (List Key × V)} {ax : List (List Key × Addr × Value)}, KT H acc ax → KT H (mergeT putK acc kvs) (storedAllH ax xs) := by
  induction r with
  | nil => exact fun h => h
  | @cons p y ps ys hq t ih =>
    intro acc ax h
    show KT H (mergeT putK (putK acc p.1 p.2) ps) (storedAllH (storedH ax y.1 y.2.1 y.2.2) ys)
    rw [← hq.1]
    exact ih (h.put p.1 hq.2.1 hq.2.2)
abbrev rDictP (K : PySem.W.Frag) : List V → Hp → VK → Prop := fun xs H Q => ∃ (a : Addr) (ps : List Addr) (kvs : List (List Key × V)), xs = [.ref a] ∧ SqL K H a (ps.map V.ref) ∧ PairsT K H ps kvs ∧ ∀ p, H p = none → Q (.ref p) (upd H p (.dT (mergeT putK [] kvs)))
theorem call_dictPT {X : Cx} (hcalm : X.calm = true) (hu : X.A.units + 64 < cLine) : CallR X (.type "dict") (rDictP X.K) := by
  intro pins s σ H xs us Q I r q
  obtain ⟨a, ps, kvs, ex, hq, hp, q⟩ := q
  subst ex
  obtain ⟨u, eu, rx⟩ := vals1 r
  subst eu
  cases rx
  obtain ⟨its, rv, pl, hz⟩ := I.list hq
  have ei := refs_at rv
  subst ei
  rw [List.length_map] at hz
  obtain ⟨xs, rel, hl, hpr⟩ := pairsT_of I hp
  obtain ⟨o, n, ho, hc, hd, hdat⟩ := pl
  have dk := kt_merge rel .nil
  have his : ∀ x ∈ xs, (tupleKind (mixKind X.prog X.w)).is s.heap x.1 x.2.1 := by
    clear hl hpr dk hp q
    induction rel with
    | nil => intro x hx; exact nomatch hx
    | @cons p y ps ys hq t ih =>
      intro x hx
      rcases List.mem_cons.mp hx with e | hx
      · subst e
        exact key_of I.hok (by rw [← hq.1]; exact hq.2.1)
      · exact ih x hx
  have hj : ∀ (j : Nat) (k v : Value), (xs.map fun x => (Value.ref x.2.1, x.2.2))[j]? = some (k, v) → ∃ x, xs[j]? = some x ∧ k = .ref x.2.1 ∧ v = x.2.2 := fun j k v e => by
    rw [List.getElem?_map] at e
    cases hx : xs[j]? with
    | none => rw [hx] at e; cases e
    | some x => rw [hx] at e; cases e; exact ⟨x, rfl, rfl, rfl⟩
  refine call_dict_pairsH (knd := tupleKind (mixKind X.prog X.w)) (ps := xs) (PairArg.list a (ps.map Value.ref).toArray (fun j => (ps[j]?).getD 0) (xs.map fun x => (Value.ref x.2.1, x.2.2))) (I.ok.hd hcalm) (show X.A.units + 2 < cLine by omega)
    ⟨⟨o, n, ho, hc, hd, hdat⟩, by simp [hl], fun j k v e => ?_⟩ ⟨by simp, fun i key v e => ?_⟩ (fun h' hk x hx => tupleKind_stays.stays (fun b o _ _ e _ => hk b o (Nat.ne_of_lt (Heap.lt_size e)) (by simp) e) (his x hx)) (by simp [hl]; exact hz) fun h' tk hd' k => ?_
  · obtain ⟨x, hx, rfl, rfl⟩ := hj j k v e
    obtain ⟨b, e1, e2⟩ := hpr j x hx
    exact ⟨by simp [e1], .inl (by simp only [e1, Option.getD_some]; exact e2)⟩
  · obtain ⟨x, hx, rfl, rfl⟩ := hj i key v e
    exact ⟨x.1, x.2.1, hx, rfl⟩
  · have hm : (s.heap.objs.size == sysModules) = false := beq_eq_false_iff_ne.mpr (Nat.ne_of_gt I.big)
    have fr := I.hok.fresh (Nat.le_refl s.heap.objs.size)
    have hlen : (mergeT putK [] kvs).length ≤ sizeLine := by
      rw [Paired.length dk]
      refine Nat.le_trans (storedAllH_length xs []) ?_
      rw [List.length_nil, Nat.zero_add, hl]
      exact hz
    obtain ⟨o', es', ep', g1, g2, g3, g4, g5, g6⟩ := hd'
    refine ⟨.ref s.heap.objs.size, upd H s.heap.objs.size (.dT (mergeT putK [] kvs)), I.laid (t' := tk) (fun b u e => k b u (by simp) e) (Nat.le_refl _) (show ObjOk X.prog X.w _ _ _ (.dT (mergeT putK [] kvs)) from ⟨hlen, hm, _, KT.keeps dk fun c ys ec => ?_, o', es', ep', g1, g2, g3, g4, g6⟩), rfl, q _ fr⟩
    rw [upd_ne (ne_of_none ec fr)]
    exact ec
/-- pairs, as data -/
def prT (kv : List Key × PyData) : PyData := .tuple [.tuple (kv.1.map keyD), kv.2]
theorem keyD_rel {K : PySem.W.Frag} {F : Hp} : ∀ {vs : List V} {k : List Key}, DRs K F vs (k.map keyD) → vs = k.map kV ∧ ∀ x ∈ k, keyOk x
  | _, [], h => by
    cases h
    exact ⟨rfl, fun x hx => by simp at hx⟩
  | _, k0 :: k, h => by
    rw [List.map_cons] at h
    cases h with
    | cons h1 h2 =>
      obtain ⟨rfl, ok⟩ := keyD_rel h2
      cases k0 with
      | inl i =>
        cases h1
        exact ⟨rfl, fun x hx => (List.mem_cons.mp hx).elim (fun e => e ▸ trivial) (ok x)⟩
      | inr z =>
        cases h1 with
        | str _ hz => exact ⟨rfl, fun x hx => (List.mem_cons.mp hx).elim (fun e => e ▸ hz) (ok x)⟩
theorem pairs_data {K : PySem.W.Frag} {s : Wd} {μ : Mu} (R : Rep K s μ) : ∀ {vs : List V} {kvs : List (List Key × PyData)}, DRs K s.F vs (kvs.map prT) →
    ∃ (ps : List Addr) (ks : List (List Key × V)), vs = ps.map V.ref ∧ PairsT K s.H ps ks ∧ sameT ks kvs ∧ DRs K s.F (ks.map (·.2)) (kvs.map (·.2))
  | _, [], h => by
    cases h
    exact ⟨[], [], rfl, .nil, ⟨rfl, fun p hp => by simp at hp⟩, .nil⟩
  | _, (k, d) :: kvs, h => by
    rw [List.map_cons] at h
    cases h with
    | cons h1 h2 =>
      obtain ⟨ps, ks, rfl, pt, st, dr⟩ := pairs_data R h2
      have h1' : DR K s.F _ (.tuple [.tuple (k.map keyD), d]) := h1
      cases h1' with
      | @tup a ws _ ha hs =>
        cases hs with
        | cons g1 g2 =>
          cases g2 with
          | cons g3 g4 =>
            cases g4
            cases g1 with
            | @tup b us _ hb hu =>
              obtain ⟨rfl, ok⟩ := keyD_rel hu
              refine ⟨a :: ps, (k, _) :: ks, rfl, .cons ⟨b, SqT.of (R.sub _ _ ha), R.sub _ _ hb⟩ pt, ⟨by rw [List.map_cons, List.map_cons, st.1], fun p hp => ?_⟩, .cons g3 dr⟩
              rcases List.mem_cons.mp hp with rfl | hp
              · exact ok
              · exact st.2 p hp
theorem merge_rel {K : PySem.W.Frag} {F : Hp} : ∀ {ks : List (List Key × V)} {kvs : List (List Key × PyData)}, sameT ks kvs → DRs K F (ks.map (·.2)) (kvs.map (·.2)) → ∀ {ak : List (List Key × V)} {ad : List (List Key × PyData)}, sameT ak ad → DRs K F (ak.map (·.2)) (ad.map (·.2)) →
    sameT (mergeT putK ak ks) (mergeT putD ad kvs) ∧ DRs K F ((mergeT putK ak ks).map (·.2)) ((mergeT putD ad kvs).map (·.2))
  | [], [], _, _, _, _, h1, h2 => ⟨h1, h2⟩
  | [], _ :: _, h, _, _, _, _, _ => by have := h.1; simp at this
  | _ :: _, [], h, _, _, _, _, _ => by have := h.1; simp at this
  | (k, v) :: ks, (k', d) :: kvs, h, .cons g1 g2, ak, ad, h1, h2 => by
    have e := h.1
    simp only [List.map_cons, List.cons.injEq] at e
    obtain ⟨e1, e2⟩ := e
    have e1' : k = k' := e1
    subst e1'
    obtain ⟨p1, p2⟩ := put_rel g1 k h1.1 h2
    exact merge_rel (ks := ks) (kvs := kvs) ⟨e2, fun p hp => h.2 p (by simp [hp])⟩ g2 (ak := putK ak k v) (ad := putD ad k d) ⟨p1, put_ok (P := fun k => ∀ x ∈ k, keyOk x) k h1.2 (h.2 (k, d) (by simp))⟩ p2
def oDictA : CD := fun es μ q => match es with
  | [.new ds] => ∃ kvs, ds = kvs.map prT ∧ q (.newd (mergeT putD [] kvs)) μ
  | es => oDictT es μ q
abbrev rDictA (K : PySem.W.Frag) : List V → Hp → VK → Prop := fun xs H Q => rDictT xs H Q ∨ rDictP K xs H Q
theorem call_dictA {X : Cx} (hcalm : X.calm = true) (hu : X.A.units + 64 < cLine) : CallR X (.type "dict") (rDictA X.K) := (call_dictT hu).or (call_dictPT hcalm hu)
theorem cs_dictA {K : PySem.W.Frag} : CallS K (rDictA K) oDictA := by
  intro s0 N0 s μ xs es q Q R xt r h l
  unfold oDictA at h
  split at h
  · rename_i ds
    obtain ⟨kvs, rfl, hq⟩ := h
    cases r with
    | cons rx fx rr =>
      cases rr
      obtain ⟨a, vs, rfl, a1, a2, a3, a4⟩ := rx
      obtain ⟨ps, ks, rfl, pt, st, dr⟩ := pairs_data R a4
      obtain ⟨m1, m2⟩ := merge_rel st dr (ak := []) (ad := []) ⟨rfl, fun p hp => by simp at hp⟩ .nil
      refine .inr ⟨a, ps, ks, rfl, SqL.of a1, pt, fun p hp => ?_⟩
      exact l (.newd (mergeT putD [] kvs)) μ (.ref p) { s with H := upd s.H p (.dT _) } hq (xt.put R hp) (R.put hp) ⟨p, _, rfl, upd_same, R.notF hp, R.notL hp, m1, m2⟩ (fun y hy => by cases hy; exact xt.fresh R hp)
  · exact .inl (cs_dictT s0 N0 s μ xs _ q Q R xt r h l)
theorem x_oDictA_d {d : List (PyData × PyData)} {μ : Mu} {q : PQ} : oDictA [.dat (.dict d)] μ q = oDictT [.dat (.dict d)] μ q := Eq.trans rfl rfl
theorem x_oDictA_n {ds : List PyData} {μ : Mu} {q : PQ} : oDictA [.new ds] μ q = ∃ kvs, ds = kvs.map prT ∧ q (.newd (mergeT putD [] kvs)) μ := Eq.trans rfl rfl
/-- places, each with True -/
theorem putD_pt (cs : List Pt) (c : Pt) : putD (cs.map ptE) (ptE c).1 (ptE c).2 = (insC cs c).map ptE := put_pt cs c.1 c.2
theorem merge_pt (cs : List Pt) : ∀ ad : List Pt, mergeT putD (ad.map ptE) (cs.map ptE) = (cs.foldl insC ad).map ptE := by
  induction cs with
  | nil => exact fun _ => rfl
  | cons c cs ih =>
    intro ad
    show mergeT putD (putD (ad.map ptE) (ptE c).1 (ptE c).2) (cs.map ptE) = _
    rw [putD_pt, ih]
    rfl
theorem mem_foldIns {x : Pt} (cs : List Pt) : ∀ ad : List Pt, x ∈ cs.foldl insC ad ↔ x ∈ ad ∨ x ∈ cs := by
  induction cs with
  | nil => intro ad; simp
  | cons c cs ih =>
    intro ad
    rw [List.foldl_cons, ih, mem_ins, List.mem_cons, or_assoc]
def ptP (c : Pt) : PyData := .tuple [ptD c, .bool true]
theorem x_oDictN {cs : List Pt} {μ : Mu} {q : PQ} : q (.newd ((cs.foldl insC []).map ptE)) μ → oDictA [.new (cs.map ptP)] μ q := by
  intro h
  rw [x_oDictA_n]
  refine ⟨cs.map ptE, by rw [List.map_map]; rfl, ?_⟩
  rw [show ([] : List (List Key × PyData)) = ([] : List Pt).map ptE from rfl, merge_pt]
  exact h
end DL

set_option Elab.async false
set_option linter.all false
set_option maxRecDepth 100000
set_option maxHeartbeats 4000000
namespace DL
open PySem PySem.Spec PyProof.Rows L2
/-! ### o[i] op= e -/
def sAugS (to ti te : TDE) (oi oo : OD) (os : SetD) : TDS := fun d E η μ => to η μ (fun x μ1 => ti η μ1 (fun y μ2 => noNew x = true ∧ noNew y = true ∧ oi x y μ2 fun z μ3 => noNew z = true ∧ te η μ3 (fun u μ4 => noNew u = true ∧ oo z u μ4 fun r μ5 => os x y r μ5 fun μ6 => d.nx η μ6) E) E) E
theorem x_sAugS {to ti te : TDE} {oi oo : OD} {os : SetD} {d : DEnds} {E : XQ} {η : DEnv} {μ : Mu} : sAugS to ti te oi oo os d E η μ = to η μ (fun x μ1 => ti η μ1 (fun y μ2 => noNew x = true ∧ noNew y = true ∧ oi x y μ2 fun z μ3 => noNew z = true ∧ te η μ3 (fun u μ4 => noNew u = true ∧ oo z u μ4 fun r μ5 => os x y r μ5 fun μ6 => d.nx η μ6) E) E) E := Eq.trans rfl rfl
theorem ds_augS {X : Cx} {W : WX} {eo ei e : Expr} {to ti te : TDE} {rg : R2} {oi oo : OD} {rp : TIp} {rs : TSet} {os : SetD} {op : Operator} {tpos pos : Pos} (ho : DE X W eo to) (hi : DE X W ei ti) (hg : PGet X rg) (hgs : OpS X.K rg oi) (he : DE X W e te) (hp : PIp X op rp) (hps : OpS X.K rp oo) (hr : PSet X rs) (hs : SetS X.K rs os)
    (ha : ∀ ov iv new, augStore ei ov iv new = (do holding [new, ov, iv] (setItem ov iv new); release [new, ov, iv] []; pure .next) := by intros; rfl) : DS X W (.AugAssign (.Subscript eo ei tpos) op e pos) (sAugS to ti te oi oo os) := by
  obtain ⟨t1, p1, g1⟩ := ho.ex
  obtain ⟨t2, p2, g2⟩ := hi.ex
  obtain ⟨t3, p3, g3⟩ := he.ex
  refine ⟨_, ps_augS p1 p2 hg p3 hp hr ha, fun s σ η μ D d E S hq l => ?_⟩
  refine g1 s σ η μ _ _ E S hq (fun ex μ1 x s1 hk1 x1 R1 r1 f1 => ?_) (l.lx σ)
  have S1 := S.go x1 R1
  have l1 := l.go x1 R1
  refine g2 s1 σ η μ1 _ _ E S1 hk1 (fun ey μ2 y s2 hk2 x2 R2 r2 f2 => ?_) (l1.lx σ)
  obtain ⟨n1, n2, hk2⟩ := hk2
  have S2 := S1.go x2 R2
  have l2 := l1.go x2 R2
  have rx2 := r1.ext x2
  refine hgs s2 μ2.length s2 μ2 x y ex ey _ _ R2 (Ext.refl _ _) rx2 (frsh_of n1) r2 (frsh_of n2) hk2 fun ez μ3 z s3 hk3 x3 R3 r3 f3 => ?_
  have S3 := S2.go x3 R3
  have l3 := l2.go x3 R3
  refine g3 s3 σ η μ3 _ _ E S3 hk3.2 (fun eu μ4 u s4 hk4 x4 R4 r4 f4 => ?_) (l3.lx σ)
  have S4 := S3.go x4 R4
  have l4 := l3.go x4 R4
  refine hps s4 μ4.length s4 μ4 z u ez eu _ _ R4 (Ext.refl _ _) (r3.ext x4) (frsh_of hk3.1) r4 (frsh_of hk4.1) hk4.2 fun er μ5 r s5 hk5 x5 R5 r5 f5 => ?_
  have S5 := S4.go x5 R5
  have l5 := l4.go x5 R5
  refine hs s5 μ5.length s5 μ5 x y r ex ey er _ _ R5 (Ext.refl _ _) (((rx2.ext x3).ext x4).ext x5) (((r2.ext x3).ext x4).ext x5) r5 hk5 fun μ6 s6 hk6 x6 R6 => ?_
  exact l5.nx η μ6 σ s6 hk6 x6 (S5.go x6 R6)
theorem pg_list {X : Cx} : PGet X (rIxL X.K) := by
  intro pins s σ H x y v u Q I rx ry h
  obtain ⟨p, xs, i, z, rfl, rfl, hq, he, q⟩ := h
  cases rx
  obtain ⟨t, rfl⟩ := ry
  obtain ⟨its, r, pl, hz⟩ := I.list hq
  obtain ⟨j, h1, h2, h3, h4, h5⟩ := atI_get he
  obtain ⟨w, ew, rw'⟩ := r.get h2
  have hl := r.length
  have hn := line63
  have fin : EP X pins σ Q w s := ⟨z, H, I, rw', q⟩
  by_cases h0 : 0 ≤ i
  · have hj : i.toNat = j := by
      rw [seqIndex_of h0 h5] at h1
      exact Option.some.inj h1
    exact wpAny_getItem_list pl.isList h0 (by omega) (by rw [hj]; simpa using ew) fin
  · have hj : (i + (its.toArray.size : Int)).toNat = j := by
      rw [seqIndex_neg (by omega) h4] at h1
      rw [List.size_toArray, ← hl]
      exact Option.some.inj h1
    exact wpAny_getItem_list_neg pl.isList (by omega) (by rw [List.size_toArray] <;> omega) (by omega) (by rw [hj]; simpa using ew) fin
/-- xs[i], xs a list -/
def oIxC : OD := fun x y μ q => match y with
  | .dat (.int i) => match lstOf μ x with
    | some ds => ∃ d, atI ds i = some d ∧ q (.dat d) μ
    | none => False
  | _ => False
theorem os_ixC {K : PySem.W.Frag} : OpS K (rIxL K) oIxC := by
  intro s0 N0 s μ x y ex ey q Q R xt rx fx ry fy h l
  unfold oIxC at h
  split at h
  · split at h
    · rename_i ds hds
      obtain ⟨d, hd, h⟩ := h
      obtain ⟨a, vs, rfl, hs, hv⟩ := lst_ok R rx hds
      obtain ⟨v, h1, h2⟩ := hv.atI hd
      exact ⟨_, vs, _, v, rfl, vr_i ry, SqL.of hs, h1, ans R xt l h h2⟩
    · exact h.elim
  · exact h.elim
theorem c_ixC {n : Nat} {i : Int} {μ : Mu} {q : PQ} : oIxC (.loc n) (.dat (.int i)) μ q = lcR μ[n]? fun xs => ∃ d, atI xs i = some d ∧ q (.dat d) μ := by
  simp only [oIxC, lstOf, lcR]
  all_goals (cases μ[n]? with
    | none => rfl
    | some c => cases c <;> rfl)
section
variable {to ti te : TDE} {oi oo : OD} {os : SetD} {v : TDS} {d : DEnds} {E : XQ} {η : DEnv} {μ : Mu}
theorem s_augS (h : to η μ (fun x μ1 => ti η μ1 (fun y μ2 => noNew x = true ∧ noNew y = true ∧ oi x y μ2 fun z μ3 => noNew z = true ∧ te η μ3 (fun u μ4 => noNew u = true ∧ oo z u μ4 fun r μ5 => os x y r μ5 fun μ6 => d.nx η μ6) E) E) E) : sAugS to ti te oi oo os d E η μ := h
theorem q_augS (h : to η μ (fun x μ1 => ti η μ1 (fun y μ2 => noNew x = true ∧ noNew y = true ∧ oi x y μ2 fun z μ3 => noNew z = true ∧ te η μ3 (fun u μ4 => noNew u = true ∧ oo z u μ4 fun r μ5 => os x y r μ5 fun μ6 => v d E η μ6) E) E) E) : sSeq (sAugS to ti te oi oo os) v d E η μ := h
end
end DL

set_option Elab.async false
set_option linter.all false
set_option maxRecDepth 100000
set_option maxHeartbeats 4000000
namespace DL
open PySem PySem.Spec PyProof.Rows L2
/-! ### while, its body laying cells that stay -/
section
variable {X : Cx} {W : WX} {pos : Pos} {tA : TDT}
def sWhileG (vs : List Nat) (c : TDT) (tb : TDS) : TDS := fun d E η μ => ∃ Inv : Nat → DEnv → Mu → Prop, (∃ m, Inv m (forget η vs) μ) ∧ ∀ m η' μ', Inv m η' μ' →
  c η' μ' (fun b μ1 => if b = true then tb { nx := fun η2 μ2 => ∃ m', m' < m ∧ Inv m' (forget η2 vs) μ2, ct := fun η2 μ2 => ∃ m', m' < m ∧ Inv m' (forget η2 vs) μ2, bk := d.nx, rt := d.rt } E η' μ1 else d.nx η' μ1) E
theorem ds_whileG (vs : List Nat) {c : Expr} {body : List Stmt} {tb : TDS} (hp : PassesOwn (model X.prog X.w) X.A X.env X.xe) (hc : DT X W c tA) (hb : DSs X W body tb) : DS X W (.While c body [] pos) (sWhileG vs tA tb) := by
  obtain ⟨tc, p1, g1⟩ := hc.ex
  obtain ⟨tb', p3, g3⟩ := hb.ex
  refine ⟨_, ps_while hp p1 p3, fun s σ η μ D d E S hq l => ?_⟩
  obtain ⟨Inv, ⟨m0, h0⟩, turn⟩ := hq
  refine ⟨fun m σ' H' => ∃ (s' : Wd) (η' : DEnv) (μ' : Mu), s'.H = H' ∧ Ext s μ.length s' μ'.length ∧ Sit X.K s' μ' σ' η' ∧ Inv m η' μ', ⟨m0, s, _, μ, rfl, Ext.refl _ _, S.forget vs, h0⟩, ?_⟩
  rintro m σ' H' ⟨s', η', μ', rfl, x', S', iv⟩
  have l' := l.go x' S'.rep
  refine g1 s' σ' η' μ' _ _ E S' (turn m η' μ' iv) (fun b μ1 s1 hk x1 R1 => ?_) (l'.lx σ')
  have S1 := S'.go x1 R1
  have l1 := l'.go x1 R1
  have xs1 := x'.trans x1 fun n hn => S'.rep.here hn
  cases b with
  | false => exact l1.nx η' μ1 σ' s1 hk (Ext.refl _ _) S1
  | true =>
    refine ⟨fun σ2 H2 => ∃ m', m' < m ∧ ∃ (s' : Wd) (η' : DEnv) (μ' : Mu), s'.H = H2 ∧ Ext s μ.length s' μ'.length ∧ Sit X.K s' μ' σ2 η' ∧ Inv m' η' μ', fun _ _ h => h, ?_⟩
    have fin : ∀ (η4 : DEnv) (μ4 : Mu) (σ4 : L2.St) (s4 : Wd), (∃ m', m' < m ∧ Inv m' (forget η4 vs) μ4) → Ext s1 μ1.length s4 μ4.length → Sit X.K s4 μ4 σ4 η4 →
        ∃ m', m' < m ∧ ∃ (s' : Wd) (η' : DEnv) (μ' : Mu), s'.H = s4.H ∧ Ext s μ.length s' μ'.length ∧ Sit X.K s' μ' σ4 η' ∧ Inv m' η' μ' := fun η4 μ4 σ4 s4 ⟨m', hm, hk4⟩ x4 S4 =>
      ⟨m', hm, s4, _, μ4, rfl, xs1.trans x4 fun n hn => R1.here hn, S4.forget vs, hk4⟩
    exact g3 s1 σ' η' μ1 _ _ E S1 hk ⟨fin, l1.rt, l1.nx, fin, l1.xq⟩
end
section
variable {tc : TDT} {t v : TDS} {d : DEnds} {E : XQ} {η : DEnv} {μ : Mu} {vs : List Nat}
/-- a while loop over states -/
theorem q_whileG {σ : Type} (ok : σ → Prop) (ms : σ → Nat) (up : DEnv → σ → DEnv) (sto : σ → Mu) (s0 : σ) (e0 : up (forget η vs) s0 = forget η vs) (m0 : sto s0 = μ) (k0 : ok s0)
    (h : ∀ (s : σ) (J : DEnv → Mu → Prop), ok s → (∀ s', ok s' → ms s' < ms s → J (up (forget η vs) s') (sto s')) →
      tc (up (forget η vs) s) (sto s) (fun b μ1 => if b = true then t { nx := fun η2 μ2 => J (forget η2 vs) μ2, ct := fun η2 μ2 => J (forget η2 vs) μ2, bk := v d E, rt := d.rt } E (up (forget η vs) s) μ1 else v d E (up (forget η vs) s) μ1) E) :
    sSeq (sWhileG vs tc t) v d E η μ := by
  refine ⟨fun m η' μ' => ∃ s, ok s ∧ m = ms s ∧ η' = up (forget η vs) s ∧ μ' = sto s, ⟨ms s0, s0, k0, rfl, e0.symm, m0.symm⟩, ?_⟩
  rintro m η' μ' ⟨s, hk, rfl, rfl, rfl⟩
  exact h s (fun η' μ' => ∃ m', m' < ms s ∧ ∃ s, ok s ∧ m' = ms s ∧ η' = up (forget η vs) s ∧ μ' = sto s) hk fun s' k' hl => ⟨_, hl, s', k', rfl, rfl, rfl⟩
theorem q_whileF {σ : Type} (ok : σ → Prop) (ms : σ → Nat) (up : DEnv → σ → DEnv) (sto : σ → Mu) (s0 : σ) (e0 : up (forget η vs) s0 = forget η vs) (m0 : sto s0 = μ) (k0 : ok s0)
    (h : ∀ (s : σ) (J : DEnv → Mu → Prop), ok s → (∀ s', ok s' → ms s' < ms s → J (up (forget η vs) s') (sto s')) →
      tc (up (forget η vs) s) (sto s) (fun b μ1 => if b = true then t { nx := fun η2 μ2 => J (clean μ.length (forget η2 vs)) (μ2.take μ.length), ct := fun η2 μ2 => J (clean μ.length (forget η2 vs)) (μ2.take μ.length), bk := v d E, rt := d.rt } E (up (forget η vs) s) μ1 else v d E (up (forget η vs) s) μ1) E) :
    sSeq (sWhileF vs tc t) v d E η μ := by
  refine ⟨fun m η' μ' => ∃ s, ok s ∧ m = ms s ∧ η' = up (forget η vs) s ∧ μ' = sto s, ⟨ms s0, s0, k0, rfl, e0.symm, m0.symm⟩, ?_⟩
  rintro m η' μ' ⟨s, hk, rfl, rfl, rfl⟩
  exact h s (fun η' μ' => ∃ m', m' < ms s ∧ ∃ s, ok s ∧ m' = ms s ∧ η' = up (forget η vs) s ∧ μ' = sto s) hk fun s' k' hl => ⟨_, hl, s', k', rfl, rfl, rfl⟩
theorem s_whileG {σ : Type} (ok : σ → Prop) (ms : σ → Nat) (up : DEnv → σ → DEnv) (sto : σ → Mu) (s0 : σ) (e0 : up (forget η vs) s0 = forget η vs) (m0 : sto s0 = μ) (k0 : ok s0)
    (h : ∀ (s : σ) (J : DEnv → Mu → Prop), ok s → (∀ s', ok s' → ms s' < ms s → J (up (forget η vs) s') (sto s')) →
      tc (up (forget η vs) s) (sto s) (fun b μ1 => if b = true then t { nx := fun η2 μ2 => J (forget η2 vs) μ2, ct := fun η2 μ2 => J (forget η2 vs) μ2, bk := d.nx, rt := d.rt } E (up (forget η vs) s) μ1 else d.nx (up (forget η vs) s) μ1) E) :
    sWhileG vs tc t d E η μ := by
  refine ⟨fun m η' μ' => ∃ s, ok s ∧ m = ms s ∧ η' = up (forget η vs) s ∧ μ' = sto s, ⟨ms s0, s0, k0, rfl, e0.symm, m0.symm⟩, ?_⟩
  rintro m η' μ' ⟨s, hk, rfl, rfl, rfl⟩
  exact h s (fun η' μ' => ∃ m', m' < ms s ∧ ∃ s, ok s ∧ m' = ms s ∧ η' = up (forget η vs) s ∧ μ' = sto s) hk fun s' k' hl => ⟨_, hl, s', k', rfl, rfl, rfl⟩
theorem s_whileF {σ : Type} (ok : σ → Prop) (ms : σ → Nat) (up : DEnv → σ → DEnv) (sto : σ → Mu) (s0 : σ) (e0 : up (forget η vs) s0 = forget η vs) (m0 : sto s0 = μ) (k0 : ok s0)
    (h : ∀ (s : σ) (J : DEnv → Mu → Prop), ok s → (∀ s', ok s' → ms s' < ms s → J (up (forget η vs) s') (sto s')) →
      tc (up (forget η vs) s) (sto s) (fun b μ1 => if b = true then t { nx := fun η2 μ2 => J (clean μ.length (forget η2 vs)) (μ2.take μ.length), ct := fun η2 μ2 => J (clean μ.length (forget η2 vs)) (μ2.take μ.length), bk := d.nx, rt := d.rt } E (up (forget η vs) s) μ1 else d.nx (up (forget η vs) s) μ1) E) :
    sWhileF vs tc t d E η μ := by
  refine ⟨fun m η' μ' => ∃ s, ok s ∧ m = ms s ∧ η' = up (forget η vs) s ∧ μ' = sto s, ⟨ms s0, s0, k0, rfl, e0.symm, m0.symm⟩, ?_⟩
  rintro m η' μ' ⟨s, hk, rfl, rfl, rfl⟩
  exact h s (fun η' μ' => ∃ m', m' < ms s ∧ ∃ s, ok s ∧ m' = ms s ∧ η' = up (forget η vs) s ∧ μ' = sto s) hk fun s' k' hl => ⟨_, hl, s', k', rfl, rfl, rfl⟩
end
/-! ### xs.pop() -/
def oPop : MD := fun x es μ q => withL μ x fun n xs => match es with
  | [] => ∃ d, xs[xs.length - 1]? = some d ∧ q (.dat d) (μ.set n (.lst xs.dropLast))
  | _ => False
theorem DRs.dropLast {K : PySem.W.Frag} {F : Hp} {vs : List V} {ds : List PyData} (h : DRs K F vs ds) : DRs K F vs.dropLast ds.dropLast := by
  rw [List.dropLast_eq_take, List.dropLast_eq_take, h.length]
  exact h.take _
theorem ms_pop {K : PySem.W.Frag} : MtS K rPop oPop := by
  intro s0 N0 s μ x xs ex es q Q R xt rx fx r h l
  obtain ⟨n, ys, rfl, hn, h⟩ := withL_ex h
  obtain ⟨hlt, rfl⟩ := rx
  split at h
  · cases r
    obtain ⟨d, hd, h⟩ := h
    obtain ⟨hf, vs, hp, hv⟩ := R.cell n _ hn
    obtain ⟨v, h1, h2⟩ := hv.get hd
    obtain ⟨a1, a2⟩ := mut_ok R xt hn hv.dropLast
    exact ⟨_, vs, v, rfl, rfl, hp, by rw [hv.length]; exact h1, l (.dat d) _ v _ h a2 a1 h2 trivial⟩
  · exact h.elim
theorem c_pop {n : Nat} {μ : Mu} {q : PQ} : oPop (.loc n) [] μ q = lcK μ[n]? fun xs => ∃ d, xs[xs.length - 1]? = some d ∧ q (.dat d) (μ.set n (.lst xs.dropLast)) := by
  simp only [oPop, withL, lcK]
  all_goals (cases μ[n]? with
    | none => rfl
    | some c => cases c <;> rfl)
/-! ### d.pop(k) -/
def dropD {κ : Type} [DecidableEq κ] (kvs : List (κ × PyData)) (k : κ) : List (κ × PyData) := kvs.filter fun kv => decide (kv.1 ≠ k)
theorem drop_rel {κ : Type} [DecidableEq κ] {K : PySem.W.Frag} {F : Hp} (k : κ) : ∀ {ks : List (κ × V)} {kvs : List (κ × PyData)}, ks.map (·.1) = kvs.map (·.1) → DRs K F (ks.map (·.2)) (kvs.map (·.2)) →
    (dropK ks k).map (·.1) = (dropD kvs k).map (·.1) ∧ DRs K F ((dropK ks k).map (·.2)) ((dropD kvs k).map (·.2))
  | [], [], _, _ => ⟨rfl, .nil⟩
  | [], _ :: _, h, _ => by simp at h
  | _ :: _, [], h, _ => by simp at h
  | (a, x) :: ks, (b, y) :: kvs, h, .cons h1 h2 => by
    simp only [List.map_cons, List.cons.injEq] at h
    obtain ⟨e, h⟩ := h
    have e' : a = b := e
    subst e'
    obtain ⟨i1, i2⟩ := drop_rel k h h2
    by_cases hk : a = k
    · have z1 : dropK ((a, x) :: ks) k = dropK ks k := List.filter_cons_of_neg (by simp [hk])
      have z2 : dropD ((a, y) :: kvs) k = dropD kvs k := List.filter_cons_of_neg (by simp [hk])
      rw [z1, z2]
      exact ⟨i1, i2⟩
    · have z1 : dropK ((a, x) :: ks) k = (a, x) :: dropK ks k := List.filter_cons_of_pos (by simp [hk])
      have z2 : dropD ((a, y) :: kvs) k = (a, y) :: dropD kvs k := List.filter_cons_of_pos (by simp [hk])
      rw [z1, z2]
      simp only [List.map_cons]
      exact ⟨by rw [i1], .cons h1 i2⟩
theorem get_rel {κ : Type} [DecidableEq κ] {K : PySem.W.Frag} {F : Hp} (k : κ) {d : PyData} : ∀ {ks : List (κ × V)} {kvs : List (κ × PyData)}, ks.map (·.1) = kvs.map (·.1) → DRs K F (ks.map (·.2)) (kvs.map (·.2)) → getD kvs k = some d →
    ∃ v, valV ks k = some v ∧ DR K F v d
  | [], [], _, _, h => by simp [getD] at h
  | [], _ :: _, h, _, _ => by simp at h
  | _ :: _, [], h, _, _ => by simp at h
  | (a, x) :: ks, (b, y) :: kvs, h, .cons h1 h2, hg => by
    simp only [List.map_cons, List.cons.injEq] at h
    obtain ⟨e, h⟩ := h
    have e' : a = b := e
    subst e'
    by_cases hk : a = k
    · simp [getD, hk] at hg
      subst hg
      exact ⟨x, by simp [valV, hk], h1⟩
    · have z1 : valV ((a, x) :: ks) k = valV ks k := by simp [valV, List.find?_cons, hk]
      have z2 : getD ((a, y) :: kvs) k = getD kvs k := by simp [getD, List.find?_cons, hk]
      rw [z2] at hg
      rw [z1]
      exact get_rel k h h2 hg
def rPopT1 : V → List V → Hp → VK → Prop := fun x xs H Q => ∃ (a : Addr) (kvs : List (List L2.Key × V)) (k : List L2.Key) (b : Addr) (v : V), x = .ref a ∧ xs = [.ref b] ∧ H a = some (.dT kvs) ∧ H b = some (.tup (k.map kV)) ∧ valV kvs k = some v ∧ Q v (upd H a (.dT (dropK kvs k)))
theorem mt_popT1 {X : Cx} (hu : X.A.units + 64 < cLine) : MtR X "dict.pop" rPopT1 := by
  intro pins s σ H x xs v us Q I rx rxs h
  obtain ⟨a, kvs, k, b, v0, rfl, rfl, ha, hb, hv, q1⟩ := h
  cases rx
  obtain ⟨u1, rfl, r1⟩ := vals1 rxs
  cases r1
  obtain ⟨z, hd, xs', rel, dd⟩ := dt_of I.hok ha
  have hz : xs'.length ≤ sizeLine := by rw [← Paired.length rel]; exact z
  obtain ⟨w', hw, rw'⟩ := RelO.some_of (v := v0) (o := (atKey xs' k).map (·.2)) (by rw [← hv]; exact rel.val k)
  obtain ⟨p, hp, hp2⟩ := Option.map_eq_some_iff.mp hw
  refine call_pop_heap (more := []) (knd := tupleKind (mixKind X.prog X.w)) (k := k) (.inl rfl) (PySem.F.args_dict_pop_2 _ _) (tupleKind_room_in1 (by omega)) (key_of I.hok hb) hd dd hp (fun h' dd' hs => ?_) hz
  obtain ⟨o, es, ep, hq, h2, h3, h4, _, h5⟩ := dd'
  have I2 : Inv X pins σ (upd H a (.dT (dropK kvs k))) { s with heap := h', toks := s.toks + (tupleKind (mixKind X.prog X.w)).draws k } :=
    d_write I (by rw [ha]; exact True.intro) hs ⟨o, hq⟩ ⟨Nat.le_trans (dropK_le kvs k) z, hd, _, (L2.DX.KT_drop k rel).keeps (fun c ys ec => (by rw [upd_ne (ne_of ec ha (fun z => nomatch z))]; exact ec)), o, es, ep, hq, h2, h3, h4, h5⟩
  show EP X pins σ Q p.2 _
  exact ⟨v0, _, I2, by rw [hp2]; exact rw', q1⟩
def oPopD : MD := fun x es μ q => match x, es with
  | .loc n, [.dat (.tuple ds)] => match μ[n]?, keysOf ds with
    | some (.dct kvs), some k => ∃ d, getD kvs k = some d ∧ q (.dat d) (μ.set n (.dct (dropD kvs k)))
    | _, _ => False
  | _, _ => False
theorem ms_popD {K : PySem.W.Frag} : MtS K rPopT1 oPopD := by
  intro s0 N0 s μ x xs ex es q Q R xt rx fx r h l
  unfold oPopD at h
  split at h
  · rename_i n ds
    split at h
    · rename_i kvs k hn hk
      obtain ⟨d, hg, h⟩ := h
      obtain ⟨hlt, rfl⟩ := rx
      obtain ⟨hf, ks, hH, ⟨hk1, hk2⟩, hd⟩ := R.cell n _ hn
      cases r with
      | cons ry fy rr =>
        cases rr
        rename_i y
        have ry' : DR K s.F y (.tuple ds) := ry
        cases ry' with
        | @tup b vs _ hb hs =>
          obtain ⟨rfl, rfl, hok⟩ := keysOf_ok hs hk
          obtain ⟨v, hv, rv⟩ := get_rel k hk1 hd hg
          obtain ⟨p1, p2⟩ := drop_rel k hk1 hd
          refine ⟨s.L n, ks, k, b, v, rfl, rfl, hH, R.sub _ _ hb, hv, ?_⟩
          obtain ⟨a1, a2⟩ := mut_c (c' := .dct (dropD kvs k)) (o := .dT (dropK ks k)) R xt hn hf ⟨hf, _, upd_same, ⟨p1, fun p hp => hk2 p (List.mem_filter.mp hp).1⟩, p2⟩
          exact l (.dat d) _ v _ h a2 a1 rv trivial
    · exact h.elim
  · exact h.elim
theorem c_popD {n : Nat} {ds : List PyData} {μ : Mu} {q : PQ} : oPopD (.loc n) [.dat (.tuple ds)] μ q = lcD μ[n]? fun kvs => keysK ds fun k => ∃ d, getD kvs k = some d ∧ q (.dat d) (μ.set n (.dct (dropD kvs k))) := by
  simp only [oPopD, lcD, keysK]
  all_goals (cases μ[n]? with
    | none => rfl
    | some c => cases c <;> first | rfl | (cases keysOf ds <;> rfl))
def lcD2 (c : Option Cell) : Prop := match c with
  | some (.dct _) => True
  | some (.dck _) => True
  | _ => False
theorem lcD2_d {kvs : List (List Key × PyData)} : lcD2 (some (.dct kvs)) = True := Eq.trans rfl rfl
theorem lcD2_k {kvs : List (Key × PyData)} : lcD2 (some (.dck kvs)) = True := Eq.trans rfl rfl
theorem c_isD {n : Nat} {μ : Mu} : isDctE (.loc n) μ = lcD2 μ[n]? := by
  simp only [isDctE, lcD2]
  all_goals (cases μ[n]? with
    | none => rfl
    | some c => cases c <;> rfl)
/-! ### len(d) -/
def rLenD (K : PySem.W.Frag) : List V → Hp → VK → Prop := fun xs H Q => (∃ x n, xs = [x] ∧ LenV K x H n ∧ Q (.int n) H) ∨ ∃ (p : Addr) (n : Nat), xs = [.ref p] ∧ ((∃ kvs : List (List Key × V), Rd H p (.dT kvs) ∧ n = kvs.length) ∨ ∃ kvs : List (Key × V), Rd H p (.dK kvs) ∧ n = kvs.length) ∧ Q (.int n) H
theorem call_lenD1 {X : Cx} : CallR X (.builtin "len") fun xs H Q => ∃ (p : Addr) (n : Nat), xs = [.ref p] ∧ ((∃ kvs : List (List Key × V), Rd H p (.dT kvs) ∧ n = kvs.length) ∨ ∃ kvs : List (Key × V), Rd H p (.dK kvs) ∧ n = kvs.length) ∧ Q (.int n) H := by
  intro pins s σ H xs us Q I r h
  obtain ⟨p, n, rfl, hp, q⟩ := h
  obtain ⟨u, rfl, rx⟩ := vals1 r
  obtain rfl : u = .ref p := rx
  rcases hp with ⟨kvs, hp, rfl⟩ | ⟨kvs, hp, rfl⟩
  · obtain ⟨z, hd, ys, rel, dd⟩ := dt_rd I.hok hp
    have hl : kvs.length = ys.length := Paired.length rel
    refine call_len_dictH hd dd (by rw [← hl]; rw [sizeLine_eq] at z; omega) ?_
    rw [← hl]
    exact ⟨.int ((kvs.length : Nat) : Int), H, I.tok _, ⟨_, rfl⟩, q⟩
  · exact d_len I hp fun t s' I' => ⟨.int ((kvs.length : Nat) : Int), H, I', ⟨_, rfl⟩, q⟩
theorem call_lenA {X : Cx} : CallR X (.builtin "len") (rLenD X.K) := call_len.or call_lenD1
def oLenD : CD := fun es μ q => match es with
  | [.dat (.dict d)] => q (.dat (.int d.length)) μ
  | [.loc n] => match μ[n]? with
    | some (.dct kvs) => q (.dat (.int kvs.length)) μ
    | some (.dck kvs) => q (.dat (.int kvs.length)) μ
    | _ => oLen [.loc n] μ q
  | es => oLen es μ q
theorem cs_lenD {K : PySem.W.Frag} : CallS K (rLenD K) oLenD := by
  intro s0 N0 s μ xs es q Q R xt r h l
  have low : ∀ {es}, VRs K s μ.length s0.H xs es → oLen es μ q → rLenD K xs s.H Q := fun r h => .inl (cs_len s0 N0 s μ xs _ q Q R xt r h l)
  unfold oLenD at h
  split at h
  · rename_i d
    cases r with
    | cons rx fx rr =>
      cases rr
      rename_i x
      have rd : DR K s.F x (.dict d) := rx
      cases rd with
      | dcT hF hk hs e =>
        subst e
        refine .inr ⟨_, _, rfl, .inl ⟨_, .inr ⟨_, R.sub _ _ hF⟩, rfl⟩, ?_⟩
        have e2 := congrArg List.length hk.1
        simp only [List.length_map] at e2
        rw [e2]
        have e3 : ∀ kvs : List (List Key × PyData), (kvT kvs).length = kvs.length := fun kvs => by simp [kvT]
        rw [e3] at h
        exact ans R xt l h (.int _)
      | dcK hF hk hs e ne =>
        subst e
        refine .inr ⟨_, _, rfl, .inr ⟨_, .inr ⟨_, R.sub _ _ hF⟩, rfl⟩, ?_⟩
        have e2 := congrArg List.length hk.1
        simp only [List.length_map] at e2
        rw [e2]
        have e3 : ∀ kvs : List (Key × PyData), (kvK kvs).length = kvs.length := fun kvs => by simp [kvK]
        rw [e3] at h
        exact ans R xt l h (.int _)
  · rename_i n
    split at h
    · rename_i kvs hn
      cases r with
      | cons rx fx rr =>
        cases rr
        obtain ⟨hlt, rfl⟩ := rx
        obtain ⟨hf, ks, hH, hk, hd⟩ := R.cell n _ hn
        refine .inr ⟨_, _, rfl, .inl ⟨_, .inl hH, rfl⟩, ?_⟩
        have e2 := congrArg List.length hk.1
        simp only [List.length_map] at e2
        rw [e2]
        exact ans R xt l h (.int _)
    · rename_i kvs hn
      cases r with
      | cons rx fx rr =>
        cases rr
        obtain ⟨hlt, rfl⟩ := rx
        obtain ⟨hf, ks, hH, hk, hd⟩ := R.cell n _ hn
        refine .inr ⟨_, _, rfl, .inr ⟨_, .inl hH, rfl⟩, ?_⟩
        have e2 := congrArg List.length hk.1
        simp only [List.length_map] at e2
        rw [e2]
        exact ans R xt l h (.int _)
    · exact low r h
  · exact low r h
section
variable {μ : Mu} {q : PQ} {xs : List PyData} {z : Str} {n : Nat}
theorem lnD_str : oLenD [.dat (.str z)] μ q = (z.length ≤ 100000 ∧ q (.dat (.int z.length)) μ) := Eq.trans rfl rfl
theorem lnD_tup : oLenD [.dat (.tuple xs)] μ q = q (.dat (.int xs.length)) μ := Eq.trans rfl rfl
theorem lnD_lst : oLenD [.dat (.list xs)] μ q = q (.dat (.int xs.length)) μ := Eq.trans rfl rfl
theorem lnD_new : oLenD [.new xs] μ q = q (.dat (.int xs.length)) μ := Eq.trans rfl rfl
theorem lnD_ro : oLenD [.ro xs] μ q = q (.dat (.int xs.length)) μ := Eq.trans rfl rfl
theorem lnD_d {d : List (PyData × PyData)} : oLenD [.dat (.dict d)] μ q = q (.dat (.int d.length)) μ := Eq.trans rfl rfl
def lnC (n : Nat) (μ : Mu) (q : PQ) (c : Option Cell) : Prop := match c with
  | some (.dct kvs) => q (.dat (.int kvs.length)) μ
  | some (.dck kvs) => q (.dat (.int kvs.length)) μ
  | _ => oLen [.loc n] μ q
theorem c_lenD : oLenD [.loc n] μ q = lnC n μ q μ[n]? := by
  simp only [oLenD, lnC]
theorem lnC_d {kvs : List (List Key × PyData)} : lnC n μ q (some (.dct kvs)) = q (.dat (.int kvs.length)) μ := Eq.trans rfl rfl
theorem lnC_k {kvs : List (Key × PyData)} : lnC n μ q (some (.dck kvs)) = q (.dat (.int kvs.length)) μ := Eq.trans rfl rfl
theorem lnC_l {xs : List PyData} : lnC n μ q (some (.lst xs)) = oLen [.loc n] μ q := Eq.trans rfl rfl
theorem lnC_f {xs : List PyData} : lnC n μ q (some (.frz xs)) = oLen [.loc n] μ q := Eq.trans rfl rfl
end
theorem eq_cN {n : Nat} {ys : List PyData} {μ : Mu} {q : PQ} : oEq (.loc n) (.new ys) μ q = lcR μ[n]? fun xs => (noD (.list xs) = true ∧ noD (.list ys) = true) ∧ min (PyData.depth (.list xs)) (PyData.depth (.list ys)) ≤ 64 ∧ q (.dat (.bool (PyData.eqv (.list xs) (.list ys)))) μ := by
  simp only [oEq, datOf, lstOf, lcR]
  all_goals (cases μ[n]? with
    | none => rfl
    | some c => cases c <;> rfl)
theorem eq_cD {n : Nat} {d : PyData} {μ : Mu} {q : PQ} : oEq (.loc n) (.dat d) μ q = lcR μ[n]? fun xs => (noD (.list xs) = true ∧ noD (d) = true) ∧ min (PyData.depth (.list xs)) (PyData.depth (d)) ≤ 64 ∧ q (.dat (.bool (PyData.eqv (.list xs) (d)))) μ := by
  simp only [oEq, datOf, lstOf, lcR]
  all_goals (cases μ[n]? with
    | none => rfl
    | some c => cases c <;> rfl)
theorem eq_Nc {n : Nat} {ys : List PyData} {μ : Mu} {q : PQ} : oEq (.new ys) (.loc n) μ q = lcR μ[n]? fun xs => (noD (.list ys) = true ∧ noD (.list xs) = true) ∧ min (PyData.depth (.list ys)) (PyData.depth (.list xs)) ≤ 64 ∧ q (.dat (.bool (PyData.eqv (.list ys) (.list xs)))) μ := by
  simp only [oEq, datOf, lstOf, lcR]
  all_goals (cases μ[n]? with
    | none => rfl
    | some c => cases c <;> rfl)
theorem eq_Dc {n : Nat} {d : PyData} {μ : Mu} {q : PQ} : oEq (.dat d) (.loc n) μ q = lcR μ[n]? fun xs => (noD (d) = true ∧ noD (.list xs) = true) ∧ min (PyData.depth (d)) (PyData.depth (.list xs)) ≤ 64 ∧ q (.dat (.bool (PyData.eqv (d) (.list xs)))) μ := by
  simp only [oEq, datOf, lstOf, lcR]
  all_goals (cases μ[n]? with
    | none => rfl
    | some c => cases c <;> rfl)
theorem ne_cN {n : Nat} {ys : List PyData} {μ : Mu} {q : PQ} : oNe (.loc n) (.new ys) μ q = lcR μ[n]? fun xs => (noD (.list xs) = true ∧ noD (.list ys) = true) ∧ min (PyData.depth (.list xs)) (PyData.depth (.list ys)) ≤ 64 ∧ q (.dat (.bool (!PyData.eqv (.list xs) (.list ys)))) μ := by
  simp only [oNe, datOf, lstOf, lcR]
  all_goals (cases μ[n]? with
    | none => rfl
    | some c => cases c <;> rfl)
theorem ne_cD {n : Nat} {d : PyData} {μ : Mu} {q : PQ} : oNe (.loc n) (.dat d) μ q = lcR μ[n]? fun xs => (noD (.list xs) = true ∧ noD (d) = true) ∧ min (PyData.depth (.list xs)) (PyData.depth (d)) ≤ 64 ∧ q (.dat (.bool (!PyData.eqv (.list xs) (d)))) μ := by
  simp only [oNe, datOf, lstOf, lcR]
  all_goals (cases μ[n]? with
    | none => rfl
    | some c => cases c <;> rfl)
theorem ne_Nc {n : Nat} {ys : List PyData} {μ : Mu} {q : PQ} : oNe (.new ys) (.loc n) μ q = lcR μ[n]? fun xs => (noD (.list ys) = true ∧ noD (.list xs) = true) ∧ min (PyData.depth (.list ys)) (PyData.depth (.list xs)) ≤ 64 ∧ q (.dat (.bool (!PyData.eqv (.list ys) (.list xs)))) μ := by
  simp only [oNe, datOf, lstOf, lcR]
  all_goals (cases μ[n]? with
    | none => rfl
    | some c => cases c <;> rfl)
theorem ne_Dc {n : Nat} {d : PyData} {μ : Mu} {q : PQ} : oNe (.dat d) (.loc n) μ q = lcR μ[n]? fun xs => (noD (d) = true ∧ noD (.list xs) = true) ∧ min (PyData.depth (d)) (PyData.depth (.list xs)) ≤ 64 ∧ q (.dat (.bool (!PyData.eqv (d) (.list xs)))) μ := by
  simp only [oNe, datOf, lstOf, lcR]
  all_goals (cases μ[n]? with
    | none => rfl
    | some c => cases c <;> rfl)
end DL

set_option Elab.async false
set_option linter.all false
set_option maxRecDepth 100000
set_option maxHeartbeats 4000000
namespace DL
open PySem PySem.Spec PyProof.Rows L2
/-! ### sorted(xs), xs of any data that compare -/
theorem each_of_vals {K : PySem.W.Frag} {H : Hp} {xs : List V} {us : List Value} {ds : List PyData} (rv : Vals xs us) : xs.length = ds.length → PySem.W.EachIs (fun v (b : V × PyData) => RelV b.1 v) us (xs.zip ds) := by
  induction rv generalizing ds with
  | nil => intro _; exact .nil
  | cons r t ih =>
    intro hl
    cases ds with
    | nil => simp at hl
    | cons d ds => exact .cons r (ih (by simpa using hl))
theorem each_reads {X : Cx} {pins : List (Addr × Obj)} {σ : L2.St} {H : Hp} {s : Shared} (I : Inv X pins σ H s) {xs : List V} {us : List Value} (rv : Vals xs us) : ∀ {ds : List PyData}, DpAll X.K H xs ds → PySem.W.EachIs (fun v (b : V × PyData) => ∃ as, Reads s.heap v b.2 as) us (xs.zip ds) := by
  induction rv with
  | nil => intro ds h; cases h; exact .nil
  | cons r t ih =>
    intro ds h
    cases h with
    | cons h1 h2 => exact .cons (Dp.reads I _ _ _ h1 r) (ih h2)
theorem vals_each {us : List Value} {bs : List (V × PyData)} (h : PySem.W.EachIs (fun v (b : V × PyData) => RelV b.1 v) us bs) : Vals (bs.map Prod.fst) us := by
  induction h with
  | nil => exact .nil
  | cons r t ih => exact .cons r ih
/-- the items of a list, sorted -/
def sortVD (xs : List V) (ds : List PyData) : List (V × PyData) := (xs.zip ds).mergeSort (PySem.W.dataLe false Prod.snd)
def rSortL (K : PySem.W.Frag) : List V → Hp → VK → Prop := fun vs H Q => ∃ (a : Addr) (xs : List V) (ds : List PyData), vs = [V.ref a] ∧ SqL K H a xs ∧ DpAll K H xs ds ∧ xs.length = ds.length ∧ PySem.W.AllAlike ds ∧ PySem.W.Sortable ds ∧ (∀ d ∈ ds, d.depth ≤ 60) ∧
  ∀ p, H p = none → Q (.ref p) (upd H p (.lst ((sortVD xs ds).map Prod.fst)))
theorem call_sortL {X : Cx} (hu : X.A.units + 64 < cLine) : CallR X (.builtin "sorted") (rSortL X.K) := by
  intro pins s σ H vs us Q I r h
  obtain ⟨a, xs, ds, rfl, hs, hd, hl0, hal, hk, hdep, q⟩ := h
  obtain ⟨its, rv, hl, hz⟩ := I.list hs
  obtain ⟨u, rfl, ru⟩ := vals1 r
  obtain rfl : u = Value.ref a := ru
  have hzl : (xs.zip ds).length = xs.length := by rw [List.length_zip, ← hl0, Nat.min_self]
  have e2 : (xs.zip ds).map Prod.snd = ds := List.map_snd_zip (by omega)
  refine PySem.W.sorted_data (enc := Prod.snd) hl.isList (each_of_vals (K := X.K) (H := H) rv hl0) (each_reads I rv hd) (by rw [e2]; exact hal) (by rw [e2]; exact hk) (by rw [hzl]; exact hz) (fun b hb => ?_) fun out ho eo => ?_
  · have := hdep b.2 (by rw [← e2]; exact List.mem_map_of_mem hb)
    omega
  · obtain ⟨ep, he'⟩ := PyProof.Rows.sortedAll_at s.heap its out.toArray
    have hv : Vals ((sortVD xs ds).map Prod.fst) out := vals_each eo
    refine ⟨.ref _, upd H (s.heap.objs.size + 1) (.lst ((sortVD xs ds).map Prod.fst)), I.laid (t' := s.toks) (fun _ _ => PyProof.Rows.sortedAll_old) (Nat.le_succ _) ⟨?_, out, ep, hv, he'⟩, rfl, q _ (I.hok.fresh (Nat.le_succ _))⟩
    rw [hv.length, ho, hzl]
    exact hz
/-! sorted(d), d with tuple keys -/
def rSortDT : List V → Hp → VK → Prop := fun vs H Q => ∃ (a : Addr) (kvs : List (List Key × V)), vs = [V.ref a] ∧ Rd H a (.dT kvs) ∧ PySem.W.AllAlike (kvs.map fun p => .tuple (p.1.map keyD)) ∧ PySem.W.Sortable (kvs.map fun p => .tuple (p.1.map keyD)) ∧
  ∀ (p : Addr) (L : List (Addr × List Key)), H p = none → L.map Prod.snd = kvs.map Prod.fst → (∀ e ∈ L, H e.1 = some (.tup (e.2.map kV))) →
    Q (.ref p) (upd H p (.lst ((L.mergeSort (PySem.W.dataLe false fun e => .tuple (e.2.map keyD))).map fun e => V.ref e.1)))
theorem dp_keys {K : PySem.W.Frag} {H : Hp} : ∀ k : List Key, DpAll K H (k.map kV) (k.map keyD)
  | [] => .nil
  | .inl i :: r => .cons (.int i) (dp_keys r)
  | .inr z :: r => .cons (.str z) (dp_keys r)
theorem dep_key (k : List Key) : (PyData.tuple (k.map keyD)).depth ≤ 1 := by
  rw [dep_tup]
  have := depA_map keyD (n := 0) (fun a => enc_key.dep a) k
  omega
theorem each_ks {X : Cx} {pins : List (Addr × Obj)} {σ : L2.St} {H : Hp} {s : Shared} (I : Inv X pins σ H s) : ∀ L : List (Addr × List Key), (∀ e ∈ L, H e.1 = some (.tup (e.2.map kV))) →
    PySem.W.EachIs (fun v (e : Addr × List Key) => v = .ref e.1) (L.map fun e => Value.ref e.1) L ∧ PySem.W.EachIs (fun v (e : Addr × List Key) => ∃ as, Reads s.heap v (.tuple (e.2.map keyD)) as) (L.map fun e => Value.ref e.1) L
  | [], _ => ⟨.nil, .nil⟩
  | e :: L, h => by
    obtain ⟨a1, a2⟩ := each_ks I L fun x hx => h x (List.mem_cons_of_mem _ hx)
    exact ⟨.cons rfl a1, .cons (Dp.reads I _ (.ref e.1) _ (.tup (SqT.of (h e (by simp))) (dp_keys e.2)) rfl) a2⟩
theorem vals_ks {us : List Value} {L : List (Addr × List Key)} (h : PySem.W.EachIs (fun v (e : Addr × List Key) => v = .ref e.1) us L) : Vals (L.map fun e => V.ref e.1) us := by
  induction h with
  | nil => exact .nil
  | cons r t ih =>
    subst r
    exact .cons rfl ih
theorem call_sortDT {X : Cx} (hc : X.calm = true) (hu : X.A.units + 64 < cLine) : CallR X (.builtin "sorted") rSortDT := by
  intro pins s σ H xs us Q I r h
  obtain ⟨d, kvs, rfl, hd, hal, hk, q⟩ := h
  obtain ⟨u, rfl, rx⟩ := vals1 r
  cases rx
  obtain ⟨z, lo, ks, pr, o, es, ep, ho, hx, hdt, he, his, hn⟩ := dt_rd I.hok hd
  have l1 : es.size = ks.length := size_of_entries he
  have l2 : kvs.length = ks.length := Paired.length pr
  refine Calls.call_function_entry PyProof.Rows.kind_sorted PyProof.Rows.plain_sorted PyProof.Rows.entry_sorted (PyProof.Rows.args_sorted1 _) ?_
  unfold Builtin.«sorted»
  refine wpAny_bind (m := checkCount "sorted" 1 1 _) (wpAny_pure ?_)
  refine wpAny_bind (PySem.W.kdu_collect (A := X.A.in1) (kdl_raw lo hx hdt) (I.ok.hd hc) ho (by omega) fun h' tk acc kp it => ?_)
  obtain ⟨L, hL⟩ : ∃ L : List (Addr × List Key), L = ks.map fun x => (x.2.1, x.1) := ⟨_, rfl⟩
  have ea : acc.toList = L.map fun e => Value.ref e.1 := by
    rw [hL, List.map_map]
    have hl : acc.toList.length = ks.length := by rw [Array.length_toList, it.1]; exact l1
    apply List.ext_getElem?
    intro j
    rw [List.getElem?_map]
    cases hj : acc.toList[j]? with
    | none =>
      have h1 := List.getElem?_eq_none_iff.mp hj
      rw [List.getElem?_eq_none (by omega)]
      all_goals rfl
    | some v =>
      obtain ⟨en, hen, hv⟩ := it.2 j v (by rw [← Array.getElem?_toList]; exact hj)
      have qe := entry_at he j
      rw [hen] at qe
      cases hb : ks[j]? with
      | none =>
        rw [hb] at qe
        exact nomatch (show some en = none from qe)
      | some b =>
        rw [hb] at qe
        have e2 : en = entryOfKey (tupleKind (mixKind X.prog X.w)) b := Option.some.inj qe
        rw [hv, e2]
        all_goals rfl
  have I1 : Inv X pins σ H { s with heap := h', toks := tk } := I.kept kp
  have hLl : L.length = kvs.length := by rw [hL, List.length_map, l2]
  have hLs : ∀ {ls : List (List Key × V)} {ms : List (List Key × Addr × Value)}, KT H ls ms → (ms.map fun x => x.1) = ls.map Prod.fst ∧ ∀ x ∈ ms, H x.2.1 = some (.tup (x.1.map kV)) := by
    intro ls ms g
    induction g with
    | nil => exact ⟨rfl, fun x hx => nomatch hx⟩
    | cons hq t ih =>
      refine ⟨by rw [List.map_cons, List.map_cons, ih.1, hq.1], fun x hx => ?_⟩
      rcases List.mem_cons.mp hx with rfl | hx
      · rw [← hq.1]; exact hq.2.1
      · exact ih.2 x hx
  obtain ⟨g1, g2⟩ := hLs pr
  have hk1 : L.map Prod.snd = kvs.map Prod.fst := by rw [hL, List.map_map, ← g1]; rfl
  have hk2 : ∀ e ∈ L, H e.1 = some (.tup (e.2.map kV)) := fun e he => by
    rw [hL] at he
    obtain ⟨x, hx, rfl⟩ := List.mem_map.mp he
    exact g2 x hx
  have hen : (L.map fun e => PyData.tuple (e.2.map keyD)) = kvs.map fun p => .tuple (p.1.map keyD) := by
    have e1 : (L.map fun e => PyData.tuple (e.2.map keyD)) = (L.map Prod.snd).map fun k => PyData.tuple (k.map keyD) := by rw [List.map_map]; rfl
    rw [e1, hk1, List.map_map]
    rfl
  obtain ⟨r1, r2⟩ := each_ks I1 L hk2
  rw [← ea] at r1 r2
  have hal' : acc.toList.length = L.length := by rw [ea, List.length_map]
  refine wpAny_bind (wpAny_newList ?_ (by rw [hal']; omega))
  have hoL : (h'.push (seqObj "list" acc.toList.toArray 0)).get? h'.objs.size = some (seqObj "list" acc.toList.toArray 0) := Heap.get?_push_size _ rfl
  show wpAny _ _ _ _ _ { s with heap := h'.push (seqObj "list" acc.toList.toArray 0), toks := tk }
  have old : ∀ b ob, h'.get? b = some ob → (PySem.W.sortingHeap (h'.push (seqObj "list" acc.toList.toArray 0)) h'.objs.size acc.toList).get? b = some ob := fun b ob hb =>
    PySem.W.sortingHeap_old (Nat.ne_of_lt (Heap.lt_size hb)) (Heap.get?_push_of_some _ hb)
  have r3 : PySem.W.EachIs (fun v (e : Addr × List Key) => ∃ as, Reads (PySem.W.sortingHeap (h'.push (seqObj "list" acc.toList.toArray 0)) h'.objs.size acc.toList) v (.tuple (e.2.map keyD)) as) acc.toList L := r2.mono fun _ _ ⟨as, rr⟩ => ⟨as, PyProof.Rows.Reads.keeps old rr⟩
  refine wpAny_bind (wpAny_holding (wpAny_call_entry PyProof.Rows.slot_list_sort ⟨_, hoL, rfl⟩ PyProof.Rows.entry_list_sort
    (PySem.W.list_sort_vals (κ := PySem.W.dataKind (PySem.W.sortingHeap (h'.push (seqObj "list" acc.toList.toArray 0)) h'.objs.size acc.toList) (L.map fun e => PyData.tuple (e.2.map keyD))) (s := { s with heap := h'.push (seqObj "list" acc.toList.toArray 0), toks := tk }) hoL
      (PySem.W.SortsAt.data (s := { s with heap := PySem.W.sortingHeap (h'.push (seqObj "list" acc.toList.toArray 0)) h'.objs.size acc.toList, toks := tk }) (PySem.W.each_map (R := fun v d => ∃ as, Reads (PySem.W.sortingHeap (h'.push (seqObj "list" acc.toList.toArray 0)) h'.objs.size acc.toList) v d as) _ r3) (by rw [hen]; exact hal) (by rw [hen]; exact hk) (fun dd hdd => ?_)) (by rw [hal']; omega) ⟨_, rfl, ?_⟩) (PyProof.Rows.args_list_sort _)))
  · obtain ⟨e, he, rfl⟩ := List.mem_map.mp hdd
    have := dep_key e.2
    show X.A.units + 2 + _ < cLine
    omega
  · have eo := PySem.W.sortVals_data (enc := fun e : Addr × List Key => PyData.tuple (e.2.map keyD)) false r1 r3 (by rw [hen]; exact hal)
    have hv := vals_ks eo
    generalize hout : PySem.W.sortVals _ false acc.toList acc.toList = out at eo hv
    have hout' := hout
    obtain ⟨e', he'⟩ := PyProof.Rows.sortedHeap_at (vs := acc.toList) (out := out.toArray) hoL
    have hlen : ((L.mergeSort (PySem.W.dataLe false fun e => .tuple (e.2.map keyD))).map fun e => V.ref e.1).length ≤ sizeLine := by
      rw [List.length_map, List.length_mergeSort]
      omega
    refine wpAny_pure ⟨_, rfl, .ref h'.objs.size, upd H h'.objs.size (.lst ((L.mergeSort (PySem.W.dataLe false fun e => .tuple (e.2.map keyD))).map fun e => V.ref e.1)), I1.laid (t' := tk) (fun b u e => ?_) (Nat.le_refl _)
      (show ObjOk X.prog X.w _ _ _ (.lst _) from ⟨hlen, out, e', hv, he'⟩), rfl, q _ L (I1.hok.fresh (Nat.le_refl _)) hk1 hk2⟩
    have hb : b < h'.objs.size := Heap.lt_size e
    rw [PyProof.Rows.sortedHeap_old (Nat.ne_of_lt hb) (by rw [size_push']; exact Nat.lt_succ_of_lt hb)]
    exact Heap.get?_push_of_some _ e
/-! ### .. by data -/
abbrev leD : PyData → PyData → Bool := PySem.W.dataLe false fun d => d
abbrev AlikeD (ds : List PyData) : Prop := PySem.W.AllAlike ds ∧ PySem.W.Sortable ds
def oSortD : CD := fun es μ q => match es with
  | [.dat (.dict d)] => (d.all fun p => isTupD p.1) = true ∧ AlikeD (d.map (·.1)) ∧ q (.new ((d.map (·.1)).mergeSort leD)) μ
  | [e] => match lstOf μ e with
    | some ds => (noDs ds = true ∧ ∀ d ∈ ds, d.depth ≤ 60) ∧ AlikeD ds ∧ q (.new (ds.mergeSort leD)) μ
    | none => match e with
      | .loc n => match μ[n]? with
        | some (.dct kvs) => AlikeD (kvs.map fun p => .tuple (p.1.map keyD)) ∧ q (.new ((kvs.map fun p => .tuple (p.1.map keyD)).mergeSort leD)) μ
        | _ => False
      | _ => False
  | _ => False
def rSortA (K : PySem.W.Frag) : List V → Hp → VK → Prop := fun xs H Q => rSortL K xs H Q ∨ rSortDT xs H Q
theorem call_sortA {X : Cx} (hc : X.calm = true) (hu : X.A.units + 64 < cLine) : CallR X (.builtin "sorted") (rSortA X.K) := (call_sortL hu).or (call_sortDT hc hu)
theorem drs_zip {K : PySem.W.Frag} {F : Hp} : ∀ {vs : List V} {ds : List PyData}, DRs K F vs ds → ∀ p ∈ vs.zip ds, DR K F p.1 p.2
  | _, _, .nil, p, hp => by simp at hp
  | _, _, .cons h hs, p, hp => by
    rw [List.zip_cons_cons] at hp
    rcases List.mem_cons.mp hp with rfl | hp
    · exact h
    · exact drs_zip hs p hp
theorem drs_of {K : PySem.W.Frag} {F : Hp} : ∀ {L : List (V × PyData)}, (∀ p ∈ L, DR K F p.1 p.2) → DRs K F (L.map Prod.fst) (L.map Prod.snd)
  | [], _ => .nil
  | p :: L, h => .cons (h p (by simp)) (drs_of fun q hq => h q (List.mem_cons_of_mem _ hq))
theorem drs_sort {K : PySem.W.Frag} {F : Hp} {vs : List V} {ds : List PyData} (h : DRs K F vs ds) : DRs K F ((sortVD vs ds).map Prod.fst) (ds.mergeSort leD) := by
  have e : (sortVD vs ds).map Prod.snd = ds.mergeSort leD := by
    unfold sortVD
    rw [List.map_mergeSort (r := PySem.W.dataLe false Prod.snd) (s := leD) (f := Prod.snd) fun _ _ _ _ => rfl, List.map_snd_zip (by rw [h.length]; exact Nat.le_refl _)]
  rw [← e]
  refine drs_of fun p hp => drs_zip h p ?_
  exact List.mem_mergeSort.mp hp
theorem sort_keys {L : List (Addr × List Key)} : (L.mergeSort (PySem.W.dataLe false fun e => .tuple (e.2.map keyD))).map (fun e => PyData.tuple (e.2.map keyD)) = (L.map fun e => PyData.tuple (e.2.map keyD)).mergeSort leD :=
  List.map_mergeSort fun _ _ _ _ => rfl
theorem cs_sortA {K : PySem.W.Frag} : CallS K (rSortA K) oSortD := by
  intro s0 N0 s μ xs es q Q R xt r h l
  have dct : ∀ {x : V} {a : Addr} {ks : List (List Key × V)} {kvs : List (List Key × PyData)}, x = .ref a → xs = [x] → Rd s.H a (.dT ks) → sameT ks kvs → AlikeD (kvs.map fun p => .tuple (p.1.map keyD)) → q (.new ((kvs.map fun p => .tuple (p.1.map keyD)).mergeSort leD)) μ → rSortA K xs s.H Q := by
    intro x a ks kvs ex exs rd hk al hq
    subst ex
    subst exs
    have e0 : (ks.map fun p => PyData.tuple (p.1.map keyD)) = kvs.map fun p => PyData.tuple (p.1.map keyD) := by
      have e1 : ∀ {α : Type} (l : List (List Key × α)), (l.map fun p => PyData.tuple (p.1.map keyD)) = (l.map (·.1)).map fun k => PyData.tuple (k.map keyD) := fun l => by rw [List.map_map]; rfl
      rw [e1, e1, hk.1]
    refine .inr ⟨a, ks, rfl, rd, by rw [e0]; exact al.1, by rw [e0]; exact al.2, fun p L hp hL1 hL2 => ?_⟩
    have okL : ∀ e ∈ L, ∀ x ∈ e.2, keyOk x := fun e he => by
      have h1 : e.2 ∈ kvs.map (·.1) := by
        rw [← hk.1]
        have : e.2 ∈ L.map Prod.snd := List.mem_map_of_mem he
        rw [hL1] at this
        exact this
      obtain ⟨p', hp', e'⟩ := List.mem_map.mp h1
      rw [← e']
      exact hk.2 p' hp'
    obtain ⟨M, hM⟩ : ∃ M, M = L.mergeSort (PySem.W.dataLe false fun e => .tuple (e.2.map keyD)) := ⟨_, rfl⟩
    have hMm : ∀ e ∈ M, e ∈ L := fun e he => by rw [hM] at he; exact List.mem_mergeSort.mp he
    have pr : ∀ M : List (Addr × List Key), (∀ e ∈ M, e ∈ L) → Paired (fun (p : List Key × V) b => s.H b = some (.tup (p.1.map kV))) (M.map fun e => (e.2, V.non)) (M.map Prod.fst) := fun M => by
      induction M with
      | nil => exact fun _ => .nil
      | cons e M ih => exact fun hm => .cons (hL2 e (hm e (by simp))) (ih fun x hx => hm x (List.mem_cons_of_mem _ hx))
    obtain ⟨F', f', R', x', r'⟩ := tups_still (s := s) (F1 := s.F) (pr M hMm) R (fun p hp => by
      obtain ⟨e, he, rfl⟩ := List.mem_map.mp hp
      exact okL e (hMm e he))
    have e3 : ((M.map fun e => (e.2, V.non)).map fun p : List Key × V => PyData.tuple (p.1.map keyD)) = (kvs.map fun p => .tuple (p.1.map keyD)).mergeSort leD := by
      rw [List.map_map, ← e0]
      have e4 : (L.map fun e => PyData.tuple (e.2.map keyD)) = ks.map fun p => PyData.tuple (p.1.map keyD) := by
        have e1 : (L.map fun e => PyData.tuple (e.2.map keyD)) = (L.map Prod.snd).map fun k => PyData.tuple (k.map keyD) := by rw [List.map_map]; rfl
        rw [e1, hL1, List.map_map]
        rfl
      rw [← e4, ← sort_keys, ← hM]
      rfl
    rw [e3] at r'
    have e5 : (M.map fun e => V.ref e.1) = (M.map Prod.fst).map V.ref := by rw [List.map_map]; rfl
    rw [← hM, e5]
    exact ans_new (s := { s with F := F' }) R' (xt.trans x' fun n hn => R.here hn) l hq r' hp
  unfold oSortD at h
  split at h
  · rename_i d
    obtain ⟨h1, h2, h3⟩ := h
    cases r with
    | cons rx fx rr =>
      cases rr
      rename_i x
      have rd : DR K s.F x (.dict d) := rx
      cases rd with
      | dcT hF hk hs e =>
        subst e
        have e1 : ∀ kvs : List (List Key × PyData), (kvT kvs).map (·.1) = kvs.map fun p => PyData.tuple (p.1.map keyD) := fun kvs => by simp [kvT]
        rw [e1] at h2 h3
        exact dct rfl rfl (.inr ⟨_, R.sub _ _ hF⟩) hk h2 h3
      | @dcK a od ks kvs _ hF hk hs e ne =>
        subst e
        cases kvs with
        | nil => exact absurd rfl ne
        | cons p r =>
          obtain ⟨k0, v0⟩ := p
          exfalso
          have : isTupD (keyD k0) = true := by
            simp only [kvK, List.map_cons, List.all_cons, Bool.and_eq_true] at h1
            exact h1.1
          cases k0 <;> simp [keyD, isTupD] at this
  · cases r with
    | cons rx fx rr =>
      cases rr
      split at h
      · rename_i ds hds
        obtain ⟨⟨h1, h2⟩, ⟨h3, h4⟩, h5⟩ := h
        obtain ⟨a, vs, rfl, hs, hv⟩ := lst_ok R rx hds
        exact .inl ⟨a, vs, ds, rfl, SqL.of hs, (hv.mono R.sub).dp h1, hv.length, h3, h4, h2, fun p hp => ans_new R xt l h5 (drs_sort hv) hp⟩
      · split at h
        · split at h
          · rename_i n _ _ _ kvs hn
            obtain ⟨hlt, rfl⟩ := rx
            obtain ⟨hf, ks, hH, hk, hd⟩ := R.cell n _ hn
            exact dct rfl rfl (.inl hH) hk h.1 h.2
          · exact h.elim
        · exact h.elim
  · exact h.elim
section
variable {μ : Mu} {q : PQ} {xs : List PyData} {n : Nat}
theorem srt_d {d : List (PyData × PyData)} : oSortD [.dat (.dict d)] μ q = ((d.all fun p => isTupD p.1) = true ∧ AlikeD (d.map (·.1)) ∧ q (.new ((d.map (·.1)).mergeSort leD)) μ) := Eq.trans rfl rfl
theorem srt_l : oSortD [.dat (.list xs)] μ q = ((noDs xs = true ∧ ∀ d ∈ xs, d.depth ≤ 60) ∧ AlikeD xs ∧ q (.new (xs.mergeSort leD)) μ) := Eq.trans rfl rfl
theorem srt_n : oSortD [.new xs] μ q = ((noDs xs = true ∧ ∀ d ∈ xs, d.depth ≤ 60) ∧ AlikeD xs ∧ q (.new (xs.mergeSort leD)) μ) := Eq.trans rfl rfl
def srtC (q : PQ) (μ : Mu) (c : Option Cell) : Prop := match c with
  | some (.lst xs) => (noDs xs = true ∧ ∀ d ∈ xs, d.depth ≤ 60) ∧ AlikeD xs ∧ q (.new (xs.mergeSort leD)) μ
  | some (.frz xs) => (noDs xs = true ∧ ∀ d ∈ xs, d.depth ≤ 60) ∧ AlikeD xs ∧ q (.new (xs.mergeSort leD)) μ
  | some (.dct kvs) => AlikeD (kvs.map fun p => .tuple (p.1.map keyD)) ∧ q (.new ((kvs.map fun p => .tuple (p.1.map keyD)).mergeSort leD)) μ
  | _ => False
theorem c_srt : oSortD [.loc n] μ q = srtC q μ μ[n]? := by
  simp only [oSortD, lstOf, srtC]
  all_goals (cases μ[n]? with
    | none => rfl
    | some c => cases c <;> rfl)
theorem srtC_l : srtC q μ (some (.lst xs)) = ((noDs xs = true ∧ ∀ d ∈ xs, d.depth ≤ 60) ∧ AlikeD xs ∧ q (.new (xs.mergeSort leD)) μ) := Eq.trans rfl rfl
theorem srtC_f : srtC q μ (some (.frz xs)) = ((noDs xs = true ∧ ∀ d ∈ xs, d.depth ≤ 60) ∧ AlikeD xs ∧ q (.new (xs.mergeSort leD)) μ) := Eq.trans rfl rfl
theorem srtC_d {kvs : List (List Key × PyData)} : srtC q μ (some (.dct kvs)) = (AlikeD (kvs.map fun p => .tuple (p.1.map keyD)) ∧ q (.new ((kvs.map fun p => .tuple (p.1.map keyD)).mergeSort leD)) μ) := Eq.trans rfl rfl
end
theorem sort_enc {α : Type} {as : List α} {en : α → PyData} {le : α → α → Bool} (h : ∀ a b, leD (en a) (en b) = le a b) : (as.map en).mergeSort leD = (as.mergeSort le).map en :=
  (List.map_mergeSort fun a _ b _ => (h a b).symm).symm
/-! places -/
def leP (a b : Pt) : Bool := decide (a.1 < b.1 ∨ (a.1 = b.1 ∧ a.2 ≤ b.2))
theorem leD_pt (a b : Pt) : leD (ptD a) (ptD b) = leP a b := by
  have e := congrFun (congrFun (PySem.W.dataLe_ii (fun p : Pt => p.1) fun p : Pt => p.2) a) b
  exact e
theorem sort_pt (as : List Pt) : (as.map ptD).mergeSort leD = (as.mergeSort leP).map ptD := sort_enc leD_pt
theorem alike_pt (as : List Pt) : AlikeD (as.map ptD) := ⟨PySem.W.AllAlike.of fun a b => by simp [ptD, PySem.W.alike, PySem.W.alikeAll], PySem.W.Sortable.tuples fun b => ⟨_, _, rfl⟩⟩
theorem dep_pts (as : List Pt) : ∀ d ∈ as.map ptD, d.depth ≤ 60 := fun d hd => by
  obtain ⟨a, _, rfl⟩ := List.mem_map.mp hd
  exact Nat.le_trans (enc_pt.dep a) (by decide)
end DL

set_option Elab.async false
set_option linter.all false
set_option maxRecDepth 100000
set_option maxHeartbeats 4000000
/-! ### enumerate(xs), enumerate(xs, k), xs a list or a tuple that is still -/
namespace DL
open PySem PySem.Spec PyProof.Rows L2
set_option maxHeartbeats 4000000 in
theorem meets_enum1 {v : Value} {o : Obj} {H : Heap → Prop} (B : Begins v o H) :
    Meets (Builtin.«enumerate.__new__» ⟨[.type "enumerate", v], []⟩) (fun _ R s => H s.heap ∧
      R (.ok (.ret (.ref (s.heap.push o).objs.size))) { s with heap := (s.heap.push o).push { cls := .type "enumerate", data := .fields #[.none, .bool false, .ref s.heap.objs.size, rawInt 0, .none, .none] } }) :=
  .of_wp fun prog w A R s h => by
    obtain ⟨hp, g, d, tk, os⟩ := s; obtain ⟨h1, h⟩ := h
    have hsub := sub_enumerate
    have q1 : ∀ {A' : Around} {E : Value → Shared → Prop} {Q : Value → Shared → Prop}, Q (.ref hp.objs.size) ⟨hp.push o, g, d, tk, os⟩ → wpAny (model prog w) A' (pyIter v) Q E ⟨hp, g, d, tk, os⟩ :=
      fun q => B.iter prog w _ _ ⟨hp, g, d, tk, os⟩ _ h1 q
    wp_walk using q1
    refine wpAny_stack_any fun st => wpAny_pure ?_
    split
    · rename_i c _ _ _ _ _
      cases (c == Value.type "enumerate")
      · wp_walk using q1
        exact ⟨_, rfl, h⟩
      · wp_walk using q1
        exact ⟨_, rfl, h⟩
    · wp_walk using q1
      exact ⟨_, rfl, h⟩
section
variable {prog : Program} {w : World} {A : Around} {E : Value → Shared → Prop} {s : Shared}
theorem enum_begins1 {v : Value} {o : Obj} {H : Heap → Prop} {Q : Value → Shared → Prop} (B : Begins v o H) (h1 : H s.heap)
    (h : ∀ h', IsEnum h' (s.heap.objs.size + 1) s.heap.objs.size 0 .none → h'.get? s.heap.objs.size = some o → h'.objs.size = s.heap.objs.size + 2 →
      (∀ b o, s.heap.get? b = some o → h'.get? b = some o) → Q (.ref (s.heap.objs.size + 1)) { s with heap := h' }) :
    wpAny (model prog w) A (call (.type "enumerate") [v]) Q E s := by
  refine callType_new F.called_enumerate (by decide) (F.typeCall_enumerate_1 _) (F.newCall_enumerate_1 _) (fun obj => F.args_object_init_2 obj _) F.entry_enumerate_new
    (meets_enum1 B) ⟨h1, ?_⟩
  have hz : (s.heap.push o).objs.size = s.heap.objs.size + 1 := Heap.size_push ..
  show _ ∧ _
  rw [hz]
  have he : IsEnum ((s.heap.push o).push { cls := .type "enumerate", data := .fields #[.none, .bool false, .ref s.heap.objs.size, rawInt 0, .none, .none] }) (s.heap.objs.size + 1) s.heap.objs.size 0 .none := by
    have := Heap.get?_push_size (s.heap.push o) (o := { cls := .type "enumerate", data := .fields #[.none, .bool false, .ref s.heap.objs.size, rawInt 0, .none, .none] }) rfl
    rw [hz] at this; exact this
  refine ⟨⟨_, he, rfl⟩, h _ he (Heap.get?_push_of_some _ (Heap.get?_push_size _ B.free)) (by rw [Heap.size_push, hz]) fun b o x => Heap.get?_push_of_some _ (Heap.get?_push_of_some _ x)⟩
end
/-- a still source -/
def Src (K : PySem.W.Frag) (tp : Bool) (H : Hp) (a : Addr) (xs : List V) : Prop := if tp then SqT K H a xs else SqL K H a xs
/-- the pairs of a count and an item -/
def Itn (K : PySem.W.Frag) (tp : Bool) (a : Addr) (k : Int) : It :=
  ⟨fun i H => ∃ (xs : List V) (x : V), Src K tp H a xs ∧ xs[i]? = some x, fun i H v H' => ∃ T x, v = .ref T ∧ H T = none ∧ H' = upd H T (.tup [.int (k + (i : Nat)), x]) ∧ ∀ xs, Src K tp H a xs → xs[i]? = some x, fun i H => ∃ xs : List V, Src K tp H a xs ∧ xs.length = i⟩
def IsIt (tp : Bool) (h : Heap) (it a : Addr) (i : Nat) : Prop := if tp then h.IsTupleIter it a i else h.IsListIter it a i
theorem turn_enumC {P : Program} {w : World} {K : PySem.W.Frag} {elts : List Expr} {kk : Nat} {tpos : Pos} (tp : Bool) (a e it : Addr) (k : Int) :
    Turn P w K (.Tuple elts kk tpos) (Itn K tp a k) [e, it] e (fun i h => (∃ old, IsEnum h e it (k + (i : Nat)) old) ∧ IsIt tp h it a i ∧ e ≠ it) where
  mem := by simp
  obj := fun i h st b hb => by
    obtain ⟨⟨old, he⟩, hi, _⟩ := st
    have e' : b = e ∨ b = it := by simpa using hb
    rcases e' with z | z
    · rw [z]; exact ⟨_, he, fun v q => nomatch q⟩
    · rw [z]
      cases tp with
      | true => obtain ⟨o, ho, hc, hd⟩ := hi; exact ⟨o, ho, fun v q => by rw [hd] at q; cases q⟩
      | false => obtain ⟨o, ho, hc, hd⟩ := hi; exact ⟨o, ho, fun v q => by rw [hd] at q; cases q⟩
  keep := fun i h h' st kp => let ⟨⟨old, he⟩, hi, hne⟩ := st; ⟨⟨old, kp e (by simp) _ he⟩, by
    cases tp with
    | true => exact Heap.IsTupleIter.at hi fun o q => kp it (by simp) o q
    | false => exact Heap.IsListIter.at hi fun o q => kp it (by simp) o q, hne⟩
  item := by
    intro X hP hw hK hc i pins s σ H E I hf st hg
    subst hP hw hK
    obtain ⟨⟨old, he⟩, hit, hne⟩ := st
    obtain ⟨xs, x, hq, hx⟩ := hg
    have hel : e < s.heap.objs.size := Heap.lt_size he
    have hil : it < s.heap.objs.size := by
      cases tp with
      | true => obtain ⟨_, q, _⟩ := hit; exact Heap.lt_size q
      | false => obtain ⟨_, q, _⟩ := hit; exact Heap.lt_size q
    have uniq : ∀ ys, Src X.K tp H a ys → ys = xs := fun ys hy => by
      cases tp with
      | true => exact I.tuple_inj hy hq
      | false => exact I.list_inj hy hq
    have fin : ∀ (u : Value) (h' : Heap) (tk : Tok), RelV x u → IsEnumOut h' e it (k + (i : Nat) + 1) u s.heap.objs.size → IsIt tp h' it a (i + 1) → h'.get? s.heap.objs.size = some { cls := .type "tuple", data := .seq #[.int (k + (i : Nat)) tk, u] } → h'.objs.size = s.heap.objs.size + 1 →
        (∀ b o, b ≠ e → b ≠ it → s.heap.get? b = some o → h'.get? b = some o) → ∃ u', some (Value.ref s.heap.objs.size) = some u' ∧ wpAny (model X.prog X.w) X.A (letOwnedTupleGo (.Tuple elts kk tpos) (.ref e) u') (fun _ s2 => ∃ x H', Inv X pins σ H' s2 ∧ RelV x u' ∧ (Itn X.K tp a k).yld i H x H' ∧ ((∃ old, IsEnum s2.heap e it (k + ((i + 1 : Nat) : Int)) old) ∧ IsIt tp s2.heap it a (i + 1) ∧ e ≠ it) ∧ ∀ b ∈ [e, it], H' b = none) E { s with heap := h', toks := tk + 1 } := by
      intro u h' tk ru ho hit' hT hsz hk
      refine ⟨_, rfl, wpAny_letOwnedTupleGo_enum (s := { s with heap := h', toks := tk + 1 }) ho fun h'' he' sb => ?_⟩
      have hT2 : h''.get? s.heap.objs.size = some { cls := .type "tuple", data := .seq #[.int (k + (i : Nat)) tk, u] } := (sb.2 _ (Nat.ne_of_gt hel)).trans hT
      have new : ObjOk X.prog X.w (upd H s.heap.objs.size (.tup [.int (k + (i : Nat)), x])) h'' s.heap.objs.size (.tup [.int (k + (i : Nat)), x]) :=
        ⟨by show 2 ≤ sizeLine; decide, [.int (k + (i : Nat)) tk, u], .cons ⟨_, rfl⟩ (.cons ru .nil), ⟨_, hT2, rfl, _, rfl⟩⟩
      have I1 : Inv X pins σ (upd H s.heap.objs.size (.tup [.int (k + (i : Nat)), x])) { s with heap := h'', toks := tk + 1 } :=
        I.turnedNew (ch := [e, it]) (fun b ob hb q => (sb.2 b (fun z => hb (by simp [z]))).trans (hk b ob (fun z => hb (by simp [z])) (fun z => hb (by simp [z])) q)) hf (Nat.le_refl _) new
      refine ⟨.ref s.heap.objs.size, _, I1, rfl, ⟨_, x, rfl, I.hok.fresh (Nat.le_refl _), rfl, fun ys hy => by rw [uniq ys hy]; exact hx⟩, ⟨⟨u, ?_⟩, ?_, hne⟩, fun b hb => ?_⟩
      · have e1 : k + ((i + 1 : Nat) : Int) = k + (i : Int) + 1 := by omega
        rw [e1]; exact he'
      · cases tp with
        | true => exact Heap.IsTupleIter.at hit' fun o q => (sb.2 it (Ne.symm hne)).trans q
        | false => exact Heap.IsListIter.at hit' fun o q => (sb.2 it (Ne.symm hne)).trans q
      · have hb' : b < s.heap.objs.size := by
          have e' : b = e ∨ b = it := by simpa using hb
          rcases e' with z | z
          · rw [z]; exact hel
          · rw [z]; exact hil
        rw [upd_ne (Nat.ne_of_lt hb')]
        exact (hf b hb).1
    cases tp with
    | true =>
      obtain ⟨its, rv, p, hz⟩ := I.tuple hq
      obtain ⟨u, hu, ru⟩ := rv.get hx
      have hea : ∀ b, b = e ∨ b = it → b ≠ a := fun b hb z => by
        obtain ⟨o, ho, hcl, n, hd⟩ := p
        rcases hb with rfl | rfl
        · rw [z] at he
          have : some o = _ := ho.symm.trans he
          cases this
          exact absurd (Value.type.inj hcl) (by decide)
        · rw [z] at hit
          obtain ⟨o2, ho2, hc2, hd2⟩ := hit
          have : some o = some o2 := ho.symm.trans ho2
          cases this
          rw [hcl] at hc2
          exact absurd (Value.type.inj hc2) (by decide)
      exact wpAny_pyNext_enum_itemC (Draws.tuple (A := X.A.in1) (I.ok.hd hc) it a (Ne.symm (hea it (.inr rfl))) its.toArray) he ⟨hit, p⟩ (by have := (List.getElem?_eq_some_iff.mp hu).1; simpa using this) hne (by simp [hne, hea e (.inl rfl)]) fun u2 h' tk hP ho st' hT hsz hk => by
        have hu2 : u2 = u := by
          have h1 : its[i]? = some u2 := by simpa using hP
          rw [hu] at h1
          exact (Option.some.inj h1).symm
        subst hu2
        exact fin u2 h' tk ru ho st'.1 hT hsz hk
    | false =>
      obtain ⟨its, rv, p, hz⟩ := I.list hq
      obtain ⟨u, hu, ru⟩ := rv.get hx
      have pl := p.isList
      have hea : ∀ b, b = e ∨ b = it → b ≠ a := fun b hb z => by
        obtain ⟨o, ho, hcl, n, hd⟩ := pl
        rcases hb with rfl | rfl
        · rw [z] at he
          have : some o = _ := ho.symm.trans he
          cases this
          exact absurd (Value.type.inj hcl) (by decide)
        · rw [z] at hit
          obtain ⟨o2, ho2, hc2, hd2⟩ := hit
          have : some o = some o2 := ho.symm.trans ho2
          cases this
          rw [hcl] at hc2
          exact absurd (Value.type.inj hc2) (by decide)
      exact wpAny_pyNext_enum_itemC (Draws.list (A := X.A.in1) (I.ok.hd hc) it a (Ne.symm (hea it (.inr rfl))) its.toArray) he ⟨hit, pl⟩ (by have := (List.getElem?_eq_some_iff.mp hu).1; simpa using this) hne (by simp [hne, hea e (.inl rfl)]) fun u2 h' tk hP ho st' hT hsz hk => by
        have hu2 : u2 = u := by
          have h1 : its[i]? = some u2 := by simpa using hP
          rw [hu] at h1
          exact (Option.some.inj h1).symm
        subst hu2
        exact fin u2 h' tk ru ho st'.1 hT hsz hk
  done := by
    intro X hP hw hK hc i pins s σ H E I hf st hg
    subst hP hw hK
    obtain ⟨⟨old, he⟩, hit, hne⟩ := st
    obtain ⟨xs, hq, hx⟩ := hg
    obtain ⟨f0, f1, f2, f3, f4, f5⟩ := hf it (by simp)
    have fin : ∀ h' : Heap, Heap.ExtBut it s.heap h' → (none : Option Value) = none ∧ Inv X pins σ H { s with heap := h' } := fun h' eb => ⟨rfl, I.turned (t' := s.toks) (fun b o hb q => eb b o hb q) f0 f1 f3 f4 f5⟩
    subst hx
    cases tp with
    | true =>
      obtain ⟨its, rv, p, hz⟩ := I.tuple hq
      have hea : a ≠ it := fun z => by
        obtain ⟨o, ho, hcl, n, hd⟩ := p
        obtain ⟨o2, ho2, hc2, hd2⟩ := hit
        rw [z] at ho
        have : some o = some o2 := ho.symm.trans ho2
        cases this
        rw [hcl] at hc2
        exact absurd (Value.type.inj hc2) (by decide)
      have e : xs.length = its.toArray.size := by rw [List.size_toArray]; exact rv.length
      rw [e] at hit he
      exact wpAny_pyNext_enum_endD (Draws.tuple (A := X.A.in1) (I.ok.hd hc) it a hea its.toArray) he ⟨hit, p⟩ fin
    | false =>
      obtain ⟨its, rv, p, hz⟩ := I.list hq
      have pl := p.isList
      have hea : a ≠ it := fun z => by
        obtain ⟨o, ho, hcl, n, hd⟩ := pl
        obtain ⟨o2, ho2, hc2, hd2⟩ := hit
        rw [z] at ho
        have : some o = some o2 := ho.symm.trans ho2
        cases this
        rw [hcl] at hc2
        exact absurd (Value.type.inj hc2) (by decide)
      have e : xs.length = its.toArray.size := by rw [List.size_toArray]; exact rv.length
      rw [e] at hit he
      exact wpAny_pyNext_enum_endD (Draws.list (A := X.A.in1) (I.ok.hd hc) it a hea its.toArray) he ⟨hit, pl⟩ fin
  self := fun A i s Q E st h => let ⟨⟨_, he⟩, _⟩ := st; wpAny_pyIter_enum he h

def iEnumC (K : PySem.W.Frag) (ta : TA) : TI := fun σ H R => ta σ H fun vs H1 => ∃ (tp : Bool) (a : Addr) (xs : List V) (k : Int), (vs = [.ref a] ∧ k = 0 ∨ vs = [.ref a, .int k]) ∧ (-(2 ^ 63) ≤ k ∧ k < 2 ^ 63) ∧ Src K tp H1 a xs ∧ R (Itn K tp a k) H1
theorem enum_go {X : Cx} {pins : List (Addr × Obj)} {σ : L2.St} {H1 : Hp} {s1 : Shared} {R : It → Hp → Prop} {elts : List Expr} {kk : Nat} {tpos : Pos} {tp : Bool} {a : Addr} {xs : List V} {k : Int} {us : List Value} (I1 : Inv X pins σ H1 s1) (hq : Src X.K tp H1 a xs) (q : R (Itn X.K tp a k) H1) (hk : -(2 ^ 63) ≤ k ∧ k < 2 ^ 63)
    (hus : (us = [.ref a] ∧ k = 0) ∨ ∃ t, us = [.ref a, .int k t]) : wpAny (model X.prog X.w) X.A (call (.type "enumerate") us) (fun v s2 => wpAny (model X.prog X.w) X.A (pyIter v) (PIE X pins σ (.Tuple elts kk tpos) R) X.xe s2) X.xe s1 := by
  have fin : ∀ (h' : Heap), IsEnum h' (s1.heap.objs.size + 1) s1.heap.objs.size k .none → IsIt tp h' s1.heap.objs.size a 0 → (∀ b o, s1.heap.get? b = some o → h'.get? b = some o) → wpAny (model X.prog X.w) X.A (pyIter (.ref (s1.heap.objs.size + 1))) (PIE X pins σ (.Tuple elts kk tpos) R) X.xe { s1 with heap := h' } := fun h' he hit hk => by
    refine wpAny_pyIter_enum he ?_
    have I2 : Inv X pins σ H1 { s1 with heap := h' } := I1.kept (t' := s1.toks) hk
    refine ⟨s1.heap.objs.size + 1, [s1.heap.objs.size + 1, s1.heap.objs.size], _, _, H1, rfl, I2, turn_enumC tp a (s1.heap.objs.size + 1) s1.heap.objs.size k, ⟨⟨.none, by simpa using he⟩, hit, Nat.succ_ne_self _⟩, fun b hb => ?_, q⟩
    have e' : b = s1.heap.objs.size + 1 ∨ b = s1.heap.objs.size := by simpa using hb
    have hle : s1.heap.objs.size ≤ b := by
      rcases e' with z | z
      · rw [z]; exact Nat.le_add_right _ _
      · rw [z]; exact Nat.le_refl _
    exact I1.fpOk hle (I1.hok.fresh hle)
  cases tp with
  | true =>
    obtain ⟨its, rv, p, hz⟩ := I1.tuple hq
    rcases hus with ⟨rfl, rfl⟩ | ⟨t, rfl⟩
    · exact enum_begins1 (begins_tuple a its.toArray) p fun h' he ho hsz hk => fin h' he ⟨_, ho, rfl, rfl⟩ hk
    · exact enum_begins (begins_tuple a its.toArray) p hk.1 hk.2 fun h' he ho hsz hk => fin h' he ⟨_, ho, rfl, rfl⟩ hk
  | false =>
    obtain ⟨its, rv, p, hz⟩ := I1.list hq
    rcases hus with ⟨rfl, rfl⟩ | ⟨t, rfl⟩
    · exact enum_begins1 (begins_list a its.toArray) p.isList fun h' he ho hsz hk => fin h' he ⟨_, ho, rfl, rfl⟩ hk
    · exact enum_begins (begins_list a its.toArray) p.isList hk.1 hk.2 fun h' he ho hsz hk => fin h' he ⟨_, ho, rfl, rfl⟩ hk
theorem pi_enumC1 {X : Cx} {e : Expr} {ta : TA} {p pos tpos : Pos} {elts : List Expr} {kk : Nat} (hg : Gl X "enumerate") (hm : X.mg "enumerate" = none) (ha : PA X [e] ta) (hs : starEach [e] X.env = [(false, eval e X.env)] := by rfl) :
    PI X (.Tuple elts kk tpos) (.Call (.Name "enumerate" p) [e] [] pos) (iEnumC X.K ta) := by
  refine ⟨fun pins s σ H R I h => ?_⟩
  refine Call_ (ld_blt I hg hm boot_enumerate (PyProof.Rows.callWith_type1 (thn (ha.run pos pins s σ H _ I h) fun us s1 ⟨vs, H1, I1, r1, q1⟩ => ?_) hs rfl))
  obtain ⟨tp, a, xs, k, ex, hk, hq, q⟩ := q1
  refine enum_go I1 hq q hk ?_
  rcases ex with ⟨rfl, rfl⟩ | rfl
  · obtain ⟨u, rfl, rx⟩ := vals1 r1
    obtain rfl : u = .ref a := rx
    exact .inl ⟨rfl, rfl⟩
  · obtain ⟨u1, u2, rfl, r2, r3⟩ := vals2 r1
    obtain rfl : u1 = .ref a := r2
    obtain ⟨t, rfl⟩ := r3
    exact .inr ⟨t, rfl⟩
theorem pi_enumC2 {X : Cx} {e f : Expr} {ta : TA} {p pos tpos : Pos} {elts : List Expr} {kk : Nat} (hg : Gl X "enumerate") (hm : X.mg "enumerate" = none) (ha : PA X [e, f] ta) (hs : starEach [e, f] X.env = (false, eval e X.env) :: starEach [f] X.env := by rfl) (hpl : (backTo pos (starEach [f] X.env)).any (·.1) = false := by rfl) :
    PI X (.Tuple elts kk tpos) (.Call (.Name "enumerate" p) [e, f] [] pos) (iEnumC X.K ta) := by
  refine ⟨fun pins s σ H R I h => ?_⟩
  refine Call_ (ld_blt I hg hm boot_enumerate (PyProof.Rows.callWith_type1 (thn (ha.run pos pins s σ H _ I h) fun us s1 ⟨vs, H1, I1, r1, q1⟩ => ?_) hs hpl))
  obtain ⟨tp, a, xs, k, ex, hk, hq, q⟩ := q1
  refine enum_go I1 hq q hk ?_
  rcases ex with ⟨rfl, rfl⟩ | rfl
  · obtain ⟨u, rfl, rx⟩ := vals1 r1
    obtain rfl : u = .ref a := rx
    exact .inl ⟨rfl, rfl⟩
  · obtain ⟨u1, u2, rfl, r2, r3⟩ := vals2 r1
    obtain rfl : u1 = .ref a := r2
    obtain ⟨t, rfl⟩ := r3
    exact .inr ⟨t, rfl⟩

def enumE (k : Int) (xs : List PyData) : List EV := xs.zipIdx.map fun p => .dat (.tuple [.int (k + (p.2 : Nat)), p.1])
theorem enumE_map {α : Type} (k : Int) (en : α → PyData) (as : List α) : enumE k (as.map en) = as.zipIdx.map fun p => EV.dat (.tuple [.int (k + (p.2 : Nat)), en p.1]) := by
  unfold enumE
  rw [List.zipIdx_map, List.map_map]
  rfl
theorem walk_enumC {K : PySem.W.Frag} {s0 : Wd} {N0 : Nat} {tp : Bool} {a : Addr} {k : Int} {vs : List V} {xs : List PyData} (hd : ∀ s (μ : Mu), Ext s0 N0 s μ.length → Rep K s μ → Src K tp s.H a vs ∧ DRs K s.F vs xs) :
    WalkS K (Itn K tp a k) s0 N0 (enumE k xs) fun _ => True := by
  intro n s μ x R _
  obtain ⟨hs, hv⟩ := hd s μ x R
  have hl : (enumE k xs).length = xs.length := by unfold enumE; rw [List.length_map, List.length_zipIdx]
  have l1 := hv.length
  refine ⟨fun hn => ⟨vs, vs[n]'(by omega), hs, by simp⟩, ⟨vs, hs, by omega⟩, fun v H' hn hy => ?_⟩
  obtain ⟨T, y, rfl, hT, rfl, e⟩ := hy
  obtain ⟨d1, f1, g1⟩ := hv.getV (e _ hs)
  have kF : Same s.F (upd s.F T (.tup [.int (k + (n : Nat)), y])) := fun a u q => by rw [upd_ne (ne_of_none q (R.notF hT))]; exact q
  refine ⟨{ s with H := upd s.H T (.tup [.int (k + (n : Nat)), y]), F := upd s.F T (.tup [.int (k + (n : Nat)), y]) }, .dat (.tuple [.int (k + (n : Nat)), d1]), rfl, ?_, rfl, (Ext.refl s μ.length).putF R hT, R.putF hT, .tup upd_same (.cons (.int _) (.cons (g1.mono kF) .nil))⟩
  unfold enumE
  rw [List.getElem?_map, List.getElem?_zipIdx, f1]
  simp
def enumK (r : RI) (es : List EV) (μ1 : Mu) : Prop := match es with
  | [.dat (.tuple xs)] => r (enumE 0 xs) (fun _ => True) μ1
  | [.dat (.list xs)] => r (enumE 0 xs) (fun _ => True) μ1
  | [.ro xs] => r (enumE 0 xs) (fun _ => True) μ1
  | [.dat (.tuple xs), .dat (.int k)] => (-1000000 ≤ k ∧ k ≤ 1000000) ∧ r (enumE k xs) (fun _ => True) μ1
  | [.dat (.list xs), .dat (.int k)] => (-1000000 ≤ k ∧ k ≤ 1000000) ∧ r (enumE k xs) (fun _ => True) μ1
  | _ => False
def iEnumD (t : TDA) : TDI := fun η μ r E => t η μ (fun es μ1 => enumK r es μ1) E
section
variable {t : TDA} {η : DEnv} {μ : Mu} {r : RI} {E : XQ} {xs : List PyData} {k : Int}
theorem x_iEnumD : iEnumD t η μ r E = t η μ (fun es μ1 => enumK r es μ1) E := Eq.trans rfl rfl
theorem enumK_t : enumK r [.dat (.tuple xs)] μ = r (enumE 0 xs) (fun _ => True) μ := Eq.trans rfl rfl
theorem enumK_l : enumK r [.dat (.list xs)] μ = r (enumE 0 xs) (fun _ => True) μ := Eq.trans rfl rfl
theorem enumK_r : enumK r [.ro xs] μ = r (enumE 0 xs) (fun _ => True) μ := Eq.trans rfl rfl
theorem enumK_tk : enumK r [.dat (.tuple xs), .dat (.int k)] μ = ((-1000000 ≤ k ∧ k ≤ 1000000) ∧ r (enumE k xs) (fun _ => True) μ) := Eq.trans rfl rfl
theorem enumK_lk : enumK r [.dat (.list xs), .dat (.int k)] μ = ((-1000000 ≤ k ∧ k ≤ 1000000) ∧ r (enumE k xs) (fun _ => True) μ) := Eq.trans rfl rfl
end
theorem enum_sem {K : PySem.W.Frag} {s s1 : Wd} {N : Nat} {μ1 : Mu} {es : List EV} {vs : List V} {r : RI} {R : It → Hp → Prop} (hk : enumK r es μ1) (x1 : Ext s N s1 μ1.length) (R1 : Rep K s1 μ1) (rs : VRs K s1 μ1.length s.H vs es)
    (l : ∀ (J : It) (items : List EV) (G : Mu → Prop) (μ' : Mu) (s' : Wd), r items G μ' → Ext s N s' μ'.length → Rep K s' μ' → WalkS K J s' μ'.length items G → R J s'.H) :
    ∃ (tp : Bool) (a : Addr) (xs : List V) (k : Int), (vs = [.ref a] ∧ k = 0 ∨ vs = [.ref a, .int k]) ∧ (-(2 ^ 63) ≤ k ∧ k < 2 ^ 63) ∧ Src K tp s1.H a xs ∧ R (Itn K tp a k) s1.H := by
  have tup : ∀ {x : V} {xs : List PyData} {k : Int}, DR K s1.F x (.tuple xs) → r (enumE k xs) (fun _ => True) μ1 → ∃ a ws, x = .ref a ∧ Src K true s1.H a ws ∧ R (Itn K true a k) s1.H := fun rx hr => by
    cases rx with
    | @tup a ws _ hb hs => exact ⟨a, ws, rfl, SqT.of (R1.sub _ _ hb), l _ _ _ μ1 s1 hr x1 R1 (walk_enumC (vs := ws) fun s2 μ2 x R2 => ⟨SqT.of (R2.sub _ _ (x.f _ _ hb)), hs.mono x.f⟩)⟩
  have lst : ∀ {x : V} {xs : List PyData} {k : Int}, DR K s1.F x (.list xs) → r (enumE k xs) (fun _ => True) μ1 → ∃ a ws, x = .ref a ∧ Src K false s1.H a ws ∧ R (Itn K false a k) s1.H := fun rx hr => by
    cases rx with
    | @lst a ws _ hb hs => exact ⟨a, ws, rfl, SqL.of (R1.sub _ _ hb), l _ _ _ μ1 s1 hr x1 R1 (walk_enumC (vs := ws) fun s2 μ2 x R2 => ⟨SqL.of (R2.sub _ _ (x.f _ _ hb)), hs.mono x.f⟩)⟩
  unfold enumK at hk
  split at hk
  · cases rs with
    | cons rx fx rr =>
      cases rr
      obtain ⟨a, ws, rfl, h1, h2⟩ := tup rx hk
      exact ⟨true, a, ws, 0, .inl ⟨rfl, rfl⟩, by decide, h1, h2⟩
  · cases rs with
    | cons rx fx rr =>
      cases rr
      obtain ⟨a, ws, rfl, h1, h2⟩ := lst rx hk
      exact ⟨false, a, ws, 0, .inl ⟨rfl, rfl⟩, by decide, h1, h2⟩
  · cases rs with
    | cons rx fx rr =>
      cases rr
      obtain ⟨a, ws, rfl, h1, h2⟩ := rx
      exact ⟨false, a, ws, 0, .inl ⟨rfl, rfl⟩, by decide, R1.sub.seq h1, l _ _ _ μ1 s1 hk x1 R1 (walk_enumC (vs := ws) fun s2 μ2 x R2 => ⟨R2.sub.seq (x.f.seq h1), h2.mono x.f⟩)⟩
  · cases rs with
    | cons rx fx rr =>
      cases rr with
      | cons ry fy rr =>
        cases rr
        obtain ⟨a, ws, rfl, h1, h2⟩ := tup rx hk.2
        rw [vr_i ry]
        exact ⟨true, a, ws, _, .inr rfl, ⟨by have := hk.1.1; omega, by have := hk.1.2; omega⟩, h1, h2⟩
  · cases rs with
    | cons rx fx rr =>
      cases rr with
      | cons ry fy rr =>
        cases rr
        obtain ⟨a, ws, rfl, h1, h2⟩ := lst rx hk.2
        rw [vr_i ry]
        exact ⟨false, a, ws, _, .inr rfl, ⟨by have := hk.1.1; omega, by have := hk.1.2; omega⟩, h1, h2⟩
  · exact hk.elim
theorem di_enum1 {X : Cx} {W : WX} {a : Expr} {t : TDA} {p pos tpos : Pos} {elts : List Expr} {kk : Nat} (hg : Gl X "enumerate") (hm : X.mg "enumerate" = none) (ha : DA X W [a] t) (hs : starEach [a] X.env = [(false, eval a X.env)] := by rfl) :
    DI X W (.Tuple elts kk tpos) (.Call (.Name "enumerate" p) [a] [] pos) (iEnumD t) := by
  obtain ⟨t1, p1, g1⟩ := ha.ex
  exact ⟨_, pi_enumC1 hg hm p1 hs, fun s σ η μ R r E S hq l lx => g1 s σ η μ _ _ E S hq (fun es μ1 vs s1 hk x1 R1 rs => enum_sem hk x1 R1 rs l) lx⟩
theorem di_enum2 {X : Cx} {W : WX} {a b : Expr} {t : TDA} {p pos tpos : Pos} {elts : List Expr} {kk : Nat} (hg : Gl X "enumerate") (hm : X.mg "enumerate" = none) (ha : DA X W [a, b] t) (hs : starEach [a, b] X.env = (false, eval a X.env) :: starEach [b] X.env := by rfl) (hpl : (backTo pos (starEach [b] X.env)).any (·.1) = false := by rfl) :
    DI X W (.Tuple elts kk tpos) (.Call (.Name "enumerate" p) [a, b] [] pos) (iEnumD t) := by
  obtain ⟨t1, p1, g1⟩ := ha.ex
  exact ⟨_, pi_enumC2 hg hm p1 hs hpl, fun s σ η μ R r E S hq l lx => g1 s σ η μ _ _ E S hq (fun es μ1 vs s1 hk x1 R1 rs => enum_sem hk x1 R1 rs l) lx⟩
end DL

set_option Elab.async false
set_option linter.all false
set_option maxRecDepth 100000
set_option maxHeartbeats 4000000
namespace DL
open PySem PySem.Spec PyProof.Rows L2
/-! ### x += y -/
def oIAdd : OD := fun x y μ q => match x, y with
  | .dat (.int i), .dat (.int j) => q (.dat (.int (i + j))) μ
  | .loc n, y => match μ[n]?, lstOf μ y with
    | some (.lst xs), some ys => xs.length + ys.length ≤ 100000 ∧ q (.loc n) (μ.set n (.lst (xs ++ ys)))
    | _, _ => False
  | _, _ => False
abbrev rIAdd : R2 := fun x y H Q => rI0 (fun i j => V.int (i + j)) x y H Q ∨ rExt2 x y H Q
theorem ip_addA {X : Cx} : PIp X .Add rIAdd := iop_add.or iop_ext
theorem os_iadd {K : PySem.W.Frag} : OpS K rIAdd oIAdd := by
  intro s0 N0 s μ x y ex ey q Q R xt rx fx ry fy h l
  unfold oIAdd at h
  split at h
  · exact .inl ⟨_, _, vr_i rx, vr_i ry, ans R xt l h (.int _)⟩
  · split at h
    · rename_i n _ _ xs ys hn hy
      obtain ⟨hlt, rfl⟩ := rx
      obtain ⟨hf, vs, hp, hv⟩ := R.cell n _ hn
      obtain ⟨b, ws, rfl, hb, hw⟩ := lst_ok R ry hy
      obtain ⟨a1, a2⟩ := mut_ok R xt hn (hv.append hw)
      exact .inr ⟨_, b, vs, ws, rfl, rfl, hp, hb, line_of (by rw [hv.length, hw.length]; exact h.1), l (.loc n) _ _ _ h.2 a2 a1 ⟨by rw [List.length_set]; exact hlt, rfl⟩ trivial⟩
    · exact h.elim
  · exact h.elim
theorem iadd_ii {i j : Int} {μ : Mu} {q : PQ} : oIAdd (.dat (.int i)) (.dat (.int j)) μ q = q (.dat (.int (i + j))) μ := Eq.trans rfl rfl
theorem c_iaddn {n : Nat} {ys : List PyData} {μ : Mu} {q : PQ} : oIAdd (.loc n) (.new ys) μ q = lcK μ[n]? fun xs => xs.length + ys.length ≤ 100000 ∧ q (.loc n) (μ.set n (.lst (xs ++ ys))) := by
  simp only [oIAdd, lstOf, lcK]
  all_goals (cases μ[n]? with
    | none => rfl
    | some c => cases c <;> rfl)
theorem c_iaddl {n : Nat} {ys : List PyData} {μ : Mu} {q : PQ} : oIAdd (.loc n) (.dat (.list ys)) μ q = lcK μ[n]? fun xs => xs.length + ys.length ≤ 100000 ∧ q (.loc n) (μ.set n (.lst (xs ++ ys))) := by
  simp only [oIAdd, lstOf, lcK]
  all_goals (cases μ[n]? with
    | none => rfl
    | some c => cases c <;> rfl)
/-! ### abs -/
def oAbs : CD := fun es μ q => match es with
  | [.dat (.int i)] => q (.dat (.int (if i < 0 then -i else i))) μ
  | _ => False
theorem cs_abs {K : PySem.W.Frag} : CallS K (fun xs H Q => ∃ i, xs = [.int i] ∧ Q (.int (if i < 0 then -i else i)) H) oAbs := by
  intro s0 N0 s μ xs es q Q R xt r h l
  unfold oAbs at h
  split at h
  · cases r with
    | cons rx fx rr =>
      cases rr
      exact ⟨_, by rw [vr_i rx], ans R xt l h (.int _)⟩
  · exact h.elim
theorem abs_i {i : Int} {μ : Mu} {q : PQ} : oAbs [.dat (.int i)] μ q = q (.dat (.int (if i < 0 then -i else i))) μ := Eq.trans rfl rfl
/-! ### xs[::-1] -/
def dRevL (t : TDE) : TDE := fun η μ q E => t η μ (fun e μ1 => match lstOf μ1 e with
  | some xs => q (.new xs.reverse) μ1
  | none => False) E
theorem DRs.reverse {K : PySem.W.Frag} {F : Hp} {vs : List V} {ds : List PyData} (h : DRs K F vs ds) : DRs K F vs.reverse ds.reverse := by
  induction vs generalizing ds with
  | nil => cases h; exact .nil
  | cons v vs ih =>
    cases h with
    | cons h hs =>
      rw [List.reverse_cons, List.reverse_cons]
      exact (ih hs).append (.cons h .nil)
theorem de_revL {X : Cx} {W : WX} {e : Expr} {te : TDE} {k : Nat} {p1 p2 p3 pos : Pos} (h : DE X W e te) : DE X W (.Subscript e (.Slice none none (some (.UnaryOp .USub (.Constant (.int 1) k p1) p2)) p3) pos) (dRevL te) := by
  obtain ⟨t, p, g⟩ := h.ex
  refine de_pe (pe_revL p) fun s σ η μ Q q E S hq l lx => g s σ η μ _ _ E S hq (fun ex μ1 x s1 hk x1 R1 r1 f1 => ?_) lx
  split at hk
  · rename_i xs hx
    obtain ⟨a, vs, rfl, hs, hv⟩ := lst_ok R1 r1 hx
    exact ⟨a, vs, rfl, SqL.of hs, fun p hp => ans_new R1 x1 l hk hv.reverse hp⟩
  · exact hk.elim
def revK (q : PQ) (μ1 : Mu) (e : EV) : Prop := match lstOf μ1 e with
  | some xs => q (.new xs.reverse) μ1
  | none => False
theorem x_dRevL {t : TDE} {η : DEnv} {μ : Mu} {q : PQ} {E : XQ} : dRevL t η μ q E = t η μ (fun e μ1 => revK q μ1 e) E := Eq.trans rfl rfl
theorem revK_n {q : PQ} {μ : Mu} {xs : List PyData} : revK q μ (.new xs) = q (.new xs.reverse) μ := Eq.trans rfl rfl
theorem revK_l {q : PQ} {μ : Mu} {xs : List PyData} : revK q μ (.dat (.list xs)) = q (.new xs.reverse) μ := Eq.trans rfl rfl
/-! ### xs.count(x), xs.index(x) -/
mutual
theorem plain_of : ∀ {d : PyData}, noD d = true → d.plain = true
  | .none, _ => by simp [PyData.plain]
  | .bool _, _ => by simp [PyData.plain]
  | .int _, _ => by simp [PyData.plain]
  | .str _, _ => by simp [PyData.plain]
  | .list xs, h => by simpa [PyData.plain] using plains_of (by simpa [noD] using h)
  | .tuple xs, h => by simpa [PyData.plain] using plains_of (by simpa [noD] using h)
  | .dict _, h => by simp [noD] at h
theorem plains_of : ∀ {ds : List PyData}, noDs ds = true → PyData.plainAll ds = true
  | [], _ => by simp [PyData.plainAll]
  | d :: ds, h => by
    simp [noDs] at h
    simp [PyData.plainAll, plain_of h.1, plains_of h.2]
end
def rCntD (K : PySem.W.Frag) : V → List V → Hp → VK → Prop := fun x xs H Q => ∃ (a : Addr) (ys : List V) (y : V) (ds : List PyData) (d : PyData), x = .ref a ∧ xs = [y] ∧ SqL K H a ys ∧ DpAll K H ys ds ∧ Dp K H y d ∧ noDs ds = true ∧ noD d = true ∧ d.depth ≤ 60 ∧ Q (.int (ds.countP fun z => PyData.eqv z d : Nat)) H
theorem mt_count {X : Cx} (hu : X.A.units + 64 < cLine) : MtR X "list.count" (rCntD X.K) := by
  intro pins s σ H x xs v us Q I rx rxs h
  obtain ⟨a, ys, y, ds, d, rfl, rfl, hs, h1, h2, n1, n2, hd, q⟩ := h
  cases rx
  obtain ⟨u, rfl, ru⟩ := rxs.one
  obtain ⟨its, rv, hl, hz⟩ := I.list hs
  obtain ⟨as, r1⟩ := Dp.readsAll I ds ys its h1 rv
  obtain ⟨bs, r2⟩ := Dp.reads I d y u h2 ru
  refine SeqAt.count_list_data hl.isList (xs := ds) (by simpa using r1) r2 (plains_of n1) (plain_of n2) (by omega) ?_
  exact ⟨.int (ds.countP fun z => PyData.eqv z d : Nat), H, I.tok _, ⟨_, rfl⟩, q⟩
def rIdxD (K : PySem.W.Frag) : V → List V → Hp → VK → Prop := fun x xs H Q => ∃ (a : Addr) (ys : List V) (y : V) (ds : List PyData) (d : PyData) (j : Nat), x = .ref a ∧ xs = [y] ∧ SqL K H a ys ∧ DpAll K H ys ds ∧ Dp K H y d ∧ noDs ds = true ∧ noD d = true ∧ d.depth ≤ 60 ∧ SeqAt.dataPlace ds d = some j ∧ Q (.int (j : Nat)) H
theorem mt_indexA {X : Cx} (hu : X.A.units + 64 < cLine) : MtR X "list.index" (rIdxD X.K) := by
  intro pins s σ H x xs v us Q I rx rxs h
  obtain ⟨a, ys, y, ds, d, j, rfl, rfl, hs, h1, h2, n1, n2, hd, hp, q⟩ := h
  cases rx
  obtain ⟨u, rfl, ru⟩ := rxs.one
  obtain ⟨its, rv, hl, hz⟩ := I.list hs
  obtain ⟨as, r1⟩ := Dp.readsAll I ds ys its h1 rv
  obtain ⟨bs, r2⟩ := Dp.reads I d y u h2 ru
  have r1' : ReadsAll s.heap its.toArray.toList ds as := by simpa using r1
  obtain ⟨⟨cls, dd, data, sl⟩, ho, hc, n, hd'⟩ := id hl.isList
  simp only at hc hd'
  subst hc hd'
  obtain ⟨hj, hit, hno⟩ := SeqAt.hit_at r1' (plains_of n1) hp
  have hsl := sizeLine_eq
  have hjl : j < its.length := by simpa using hj
  refine call_meets F.slot_list_index ⟨_, ho, rfl⟩ F.entry_list_index (F.args_list_index_2 _ _) (SeqAt.list_indexAt a its.toArray n dd sl u _ j hj (by have := rv.length; omega) hit hno) ⟨ho, SeqAt.items_plain r1' r2 (plains_of n1) (plain_of n2) (by omega), ?_⟩
  exact ⟨.int (j : Nat), H, I.tok _, ⟨_, rfl⟩, q⟩
def oCount : MD := fun x es μ q => match lstOf μ x, es with
  | some xs, [.dat d] => (noDs xs = true ∧ noD d = true) ∧ d.depth ≤ 60 ∧ q (.dat (.int (xs.countP fun z => PyData.eqv z d : Nat))) μ
  | _, _ => False
def oIndex : MD := fun x es μ q => match lstOf μ x, es with
  | some xs, [.dat d] => (noDs xs = true ∧ noD d = true) ∧ d.depth ≤ 60 ∧ ∃ j, SeqAt.dataPlace xs d = some j ∧ q (.dat (.int (j : Nat))) μ
  | _, _ => False
theorem ms_count {K : PySem.W.Frag} : MtS K (rCntD K) oCount := by
  intro s0 N0 s μ x xs ex es q Q R xt rx fx r h l
  unfold oCount at h
  split at h
  · rename_i ys d hy
    obtain ⟨a, vs, rfl, hs, hv⟩ := lst_ok R rx hy
    cases r with
    | cons ry fy rr =>
      cases rr
      rename_i y
      have ry' : DR K s.F y d := ry
      exact ⟨a, vs, y, ys, d, rfl, rfl, SqL.of hs, (hv.mono R.sub).dp h.1.1, (ry'.mono R.sub).dp h.1.2, h.1.1, h.1.2, h.2.1, ans R xt l h.2.2 (.int _)⟩
  · exact h.elim
theorem ms_index {K : PySem.W.Frag} : MtS K (rIdxD K) oIndex := by
  intro s0 N0 s μ x xs ex es q Q R xt rx fx r h l
  unfold oIndex at h
  split at h
  · rename_i ys d hy
    obtain ⟨a, vs, rfl, hs, hv⟩ := lst_ok R rx hy
    cases r with
    | cons ry fy rr =>
      cases rr
      rename_i y
      have ry' : DR K s.F y d := ry
      obtain ⟨j, hj, hq⟩ := h.2.2
      exact ⟨a, vs, y, ys, d, j, rfl, rfl, SqL.of hs, (hv.mono R.sub).dp h.1.1, (ry'.mono R.sub).dp h.1.2, h.1.1, h.1.2, h.2.1, hj, ans R xt l hq (.int _)⟩
  · exact h.elim
theorem cnt_n {xs : List PyData} {d : PyData} {μ : Mu} {q : PQ} : oCount (.new xs) [.dat d] μ q = ((noDs xs = true ∧ noD d = true) ∧ d.depth ≤ 60 ∧ q (.dat (.int (xs.countP fun z => PyData.eqv z d : Nat))) μ) := Eq.trans rfl rfl
theorem cnt_l {xs : List PyData} {d : PyData} {μ : Mu} {q : PQ} : oCount (.dat (.list xs)) [.dat d] μ q = ((noDs xs = true ∧ noD d = true) ∧ d.depth ≤ 60 ∧ q (.dat (.int (xs.countP fun z => PyData.eqv z d : Nat))) μ) := Eq.trans rfl rfl
theorem idx_l {xs : List PyData} {d : PyData} {μ : Mu} {q : PQ} : oIndex (.dat (.list xs)) [.dat d] μ q = ((noDs xs = true ∧ noD d = true) ∧ d.depth ≤ 60 ∧ ∃ j, SeqAt.dataPlace xs d = some j ∧ q (.dat (.int (j : Nat))) μ) := Eq.trans rfl rfl
theorem isLst_l {xs : List PyData} {μ : Mu} : isLstE (.dat (.list xs)) μ = True := eq_true rfl
theorem isLst_n {xs : List PyData} {μ : Mu} : isLstE (.new xs) μ = True := eq_true rfl

/-! stepping x op= e -/
def augK (c : Option (Option EV)) (k : EV → Prop) : Prop := match c with
  | some (some x) => k x
  | _ => False
theorem augK_s {x : EV} {k : EV → Prop} : augK (some (some x)) k = k x := Eq.trans rfl rfl
section
variable {i : Nat} {te : TDE} {o : OD} {v : TDS} {d : DEnds} {E : XQ} {η : DEnv} {μ : Mu}
theorem s_aug (h : augK η[i]? fun x => noNew x = true ∧ te η μ (fun y μ1 => o x y μ1 fun z μ2 => noNew z = true ∧ d.nx (η.set i (some z)) μ2) E) : sAug i te o d E η μ := by
  unfold sAug
  unfold augK at h
  exact h
theorem q_aug (h : augK η[i]? fun x => noNew x = true ∧ te η μ (fun y μ1 => o x y μ1 fun z μ2 => noNew z = true ∧ v d E (η.set i (some z)) μ2) E) : sSeq (sAug i te o) v d E η μ := s_aug (d := { d with nx := v d E }) h
end
end DL

set_option Elab.async false
set_option linter.all false
set_option maxRecDepth 100000
set_option maxHeartbeats 4000000
namespace DL
open PySem PySem.Spec PyProof.Rows L2
section
variable {X : Cx} {W : WX} {tA : TDT} {t u : TDS} {pos : Pos}
/-- an if as a try's block -/
theorem dsx_if {c : Expr} {a b : List Stmt} (hc : DT X W c tA) (ha : DSx X W a t) (hb : DSx X W b u) : DSx X W [.If c a b pos] (sIf tA t u) := by
  obtain ⟨tc, p1, g1⟩ := hc.ex
  obtain ⟨ta, pa, ga⟩ := ha.ex
  obtain ⟨tb, pb, gb⟩ := hb.ex
  refine ⟨_, pss_one (ps_if p1 pa pb), fun s σ η μ D d E S hq l lx => g1 s σ η μ _ _ E S hq (fun k μ1 s1 hk x R => ?_) lx⟩
  cases k with
  | true => exact ga s1 σ η μ1 D d E (S.go x R) hk (l.go x R) (lx.go x R)
  | false => exact gb s1 σ η μ1 D d E (S.go x R) hk (l.go x R) (lx.go x R)
end

section
variable {μ : Mu} {q : PQ} {xs : List PyData} {n : Nat}
theorem lsA_t : oListA [.dat (.tuple xs)] μ q = q (.new xs) μ := Eq.trans rfl rfl
theorem lsA_l : oListA [.dat (.list xs)] μ q = q (.new xs) μ := Eq.trans rfl rfl
theorem lsA_n : oListA [.new xs] μ q = q (.new xs) μ := Eq.trans rfl rfl
theorem lsA_r : oListA [.ro xs] μ q = q (.new xs) μ := Eq.trans rfl rfl
theorem c_lsA : oListA [.loc n] μ q = lcR μ[n]? fun xs => q (.new xs) μ := by
  simp only [oListA, oList, seqOf, tupOf, roOf, lstOf, lcR]
  all_goals (cases μ[n]? with
    | none => rfl
    | some c => cases c <;> rfl)
end

def isiB (l d : Bool) (μ : Mu) (q : PQ) (c : Option Cell) : Prop := match c with
  | some (.lst _) => q (.dat (.bool l)) μ
  | some (.frz _) => q (.dat (.bool l)) μ
  | some (.dct _) => q (.dat (.bool d)) μ
  | some (.dck _) => q (.dat (.bool d)) μ
  | _ => False
section
variable {μ : Mu} {q : PQ} {xs : List PyData} {n : Nat} {l d : Bool}
theorem isiB_l : isiB l d μ q (some (.lst xs)) = q (.dat (.bool l)) μ := Eq.trans rfl rfl
theorem isiB_f : isiB l d μ q (some (.frz xs)) = q (.dat (.bool l)) μ := Eq.trans rfl rfl
theorem isiB_d {kvs : List (List Key × PyData)} : isiB l d μ q (some (.dct kvs)) = q (.dat (.bool d)) μ := Eq.trans rfl rfl
theorem isiB_k {kvs : List (Key × PyData)} : isiB l d μ q (some (.dck kvs)) = q (.dat (.bool d)) μ := Eq.trans rfl rfl
theorem c_isi_list : oIsi [.loc n, .raw (.ty "list")] μ q = isiB true false μ q μ[n]? := by
  simp only [oIsi, tyE, isiB]
  cases μ[n]? with
  | none => simp
  | some c => cases c <;> simp [isT]
theorem c_isi_dict : oIsi [.loc n, .raw (.ty "dict")] μ q = isiB false true μ q μ[n]? := by
  simp only [oIsi, tyE, isiB]
  cases μ[n]? with
  | none => simp
  | some c => cases c <;> simp [isT]
theorem c_isi_tuple : oIsi [.loc n, .raw (.ty "tuple")] μ q = isiB false false μ q μ[n]? := by
  simp only [oIsi, tyE, isiB]
  cases μ[n]? with
  | none => simp
  | some c => cases c <;> simp [isT]
theorem isi_n_list : oIsi [.new xs, .raw (.ty "list")] μ q = q (.dat (.bool true)) μ := by simp [oIsi, tyE, isT]
theorem isi_n_tuple : oIsi [.new xs, .raw (.ty "tuple")] μ q = q (.dat (.bool false)) μ := by simp [oIsi, tyE, isT]
end
end DL

set_option Elab.async false
set_option linter.all false
set_option maxRecDepth 100000
set_option maxHeartbeats 4000000
namespace DL
open PySem PySem.Spec PyProof.Rows L2
/-! ### list(d.items()), d with tuple keys -/
section
variable {prog : Program} {w : World} {A : Around} {E : Value → Shared → Prop} {s : Shared} {r d : Addr} {es : Array DictEntry} {ep : Nat}
theorem kdI_init {R : Result → Shared → Prop} (hh : A.handled = none) (hv : s.heap.IsItemsView r d) (hm : DT.Raw s.heap d es ep) (S : Addr) (hSr : S ≠ r) (hSd : d ≠ S) (hS : s.heap.get? S = some { cls := .type "list", data := .seq #[] })
    (hR : ∀ h' tk acc c as, (∀ b o, b ≠ S → s.heap.get? b = some o → h'.get? b = some o) → h'.get? S = some { cls := .type "list", dict := none, data := .seq acc c, slots := #[] } → as.length = es.size → DT.Made es S h' as →
      acc.toList = as.map Value.ref → R (.ok (.ret .none)) { s with heap := h', toks := tk }) (hn : es.size ≤ sizeLine) :
    wpAny (model prog w) A.in1 (Builtin.«list.__init__» ⟨[.ref S, .ref r], []⟩)
      (fun fin s' => match fin with | .done f => R (.ok f) s' | .again c' => c'.quiet = true ∧ codeAny (model prog w) A c' R s') (fun e s' => R (.error e) s') s := by
  show wpAny _ _ (do let old ← Builtin.List.listItems (.ref S); Builtin.List.listUpdate (.ref S) (fun _ => #[]); letGo old.toList.reverse; Builtin.List.listExtendWith (.ref S) (.ref r) .none) _ _ s
  refine wpAny_bind ?_
  unfold Builtin.List.listItems
  refine wpAny_bind (wpAny_seqItems hS rfl (wpAny_pure ?_))
  show wpAny _ _ (updateSeq S (fun _ => #[]) >>= fun _ => letGo (#[] : Array Value).toList.reverse >>= fun _ => Builtin.List.listExtendWith (.ref S) (.ref r) .none) _ _ s
  refine wpAny_bind (wpAny_updateSeq hS rfl ?_)
  have hS₂ := Heap.get?_update_self (Obj.mapSeq (fun _ => (#[] : Array Value))) hS rfl
  have oth : ∀ b o, b ≠ S → s.heap.get? b = some o → (s.heap.update S (Obj.mapSeq (fun _ => (#[] : Array Value)))).get? b = some o :=
    fun b o hb e => (Heap.get?_update_other _ _ (Ne.symm hb)).trans e
  refine wpAny_bind (wpAny_letGo ?_)
  refine DT.extI (es := es) (ep := ep) hh (let ⟨o, ho, x⟩ := hv; ⟨o, oth r o hSr.symm ho, x⟩) (hm.at' fun o e => oth d o hSd e) S hSr hSd .none _ hS₂ (fun h' tk acc c as hk hS' hl hG hacc => ?_) hn
  exact hR h' tk acc c as (fun b o hb e => hk b o hb (oth b o hb e)) hS' hl (hG.low (Nat.le_of_lt (Heap.lt_size hS₂))) hacc
theorem kdI_call {Q : Value → Shared → Prop} (hh : A.handled = none) (hv : s.heap.IsItemsView r d) (hm : DT.Raw s.heap d es ep) (hn : es.size ≤ sizeLine)
    (hQ : ∀ h' tk acc c as, (∀ b o, s.heap.get? b = some o → h'.get? b = some o) → h'.get? s.heap.objs.size = some { cls := .type "list", dict := none, data := .seq acc c, slots := #[] } → as.length = es.size → DT.Made es s.heap.objs.size h' as →
      acc.toList = as.map Value.ref → Q (.ref s.heap.objs.size) { s with heap := h', toks := tk }) :
    wpAny (model prog w) A (call (.type "list") [.ref r]) Q E s := by
  refine callType_codes (Q₁ := fun obj s₁ => obj = .ref s.heap.objs.size ∧ s₁ = { s with heap := s.heap.push { cls := .type "list", data := .seq #[] } }) PySem.F.called_list (PySem.F.typeCall_list_1 _) PySem.F.entry_list_init
    (code_list_new _ ⟨rfl, rfl⟩) fun obj s₁ h₁ => ?_
  obtain ⟨rfl, rfl⟩ := h₁
  have hS : (s.heap.push { cls := .type "list", data := .seq #[] }).get? s.heap.objs.size = some { cls := .type "list", data := .seq #[] } := Heap.get?_push_size _ rfl
  have hr : r < s.heap.objs.size := let ⟨_, ho, _⟩ := hv; Heap.lt_size ho
  have hd : d < s.heap.objs.size := hm.lt
  refine ⟨⟨_, hS, rfl⟩, PySem.F.args_list_init_2 _ _, kdI_init (es := es) (ep := ep) (A := A.in1) hh (let ⟨o, ho, x⟩ := hv; ⟨o, Heap.get?_push_of_some _ ho, x⟩) (hm.push _) _ (Nat.ne_of_gt hr) (Nat.ne_of_lt hd) hS (fun h' tk acc c as hk hS' hl hG hacc => ?_) hn⟩
  exact ⟨rfl, hQ h' tk acc c as (fun b o e => hk b o (Nat.ne_of_lt (Heap.lt_size e)) (Heap.get?_push_of_some _ e)) hS' hl hG hacc⟩
end
/-- the pairs tracked at their addresses -/
def putP : Hp → List Addr → List (V × V) → Hp
  | H, a :: as, p :: ps => putP (upd H a (.tup [p.1, p.2])) as ps
  | H, _, _ => H
theorem putP_off {b : Addr} : ∀ (as : List Addr) (ps : List (V × V)) (H : Hp), b ∉ as → putP H as ps b = H b
  | [], _, _, _ => rfl
  | _ :: _, [], _, _ => rfl
  | a :: as, p :: ps, H, h => by
    show putP (upd H a (.tup [p.1, p.2])) as ps b = H b
    rw [putP_off as ps _ (fun z => h (List.mem_cons_of_mem _ z)), upd_ne (fun z => h (by rw [z]; exact List.mem_cons_self))]
theorem putP_at : ∀ (as : List Addr) (ps : List (V × V)) (H : Hp), as.length = ps.length → as.Nodup → Paired (fun (t : Addr) (p : V × V) => putP H as ps t = some (.tup [p.1, p.2])) as ps
  | [], [], _, _, _ => .nil
  | [], _ :: _, _, h, _ => by cases h
  | _ :: _, [], _, h, _ => by cases h
  | a :: as, p :: ps, H, h, hn => by
    have hn' := List.nodup_cons.mp hn
    have ih := putP_at as ps (upd H a (.tup [p.1, p.2])) (Nat.succ.inj h) hn'.2
    refine .cons ?_ ih
    show putP (upd H a (.tup [p.1, p.2])) as ps a = some (.tup [p.1, p.2])
    rw [putP_off as ps _ hn'.1, upd_same]
theorem pairs_laid {X : Cx} {pins : List (Addr × Obj)} {σ : L2.St} {H : Hp} {s : Shared} {h' : Heap} {tk : Nat} {ps : List (V × V)} {us : List (Value × Value)} {acc : Array Value} {c : Nat} {as : List Addr} (I : Inv X pins σ H s) (hz : ps.length ≤ sizeLine) (kv : Paired (fun (p : V × V) (u : Value × Value) => RelV p.1 u.1 ∧ RelV p.2 u.2) ps us)
    (hk : ∀ b o, s.heap.get? b = some o → h'.get? b = some o) (hS : h'.get? s.heap.objs.size = some { cls := .type "list", dict := none, data := .seq acc c, slots := #[] }) (hl : as.length = us.length) (rise : as.Pairwise (· < ·)) (above : ∀ a ∈ as, s.heap.objs.size < a)
    (pairs : ∀ (j : Nat) (a : Addr), as[j]? = some a → ∃ u : Value × Value, us[j]? = some u ∧ h'.get? a = some { cls := .type "tuple", data := .seq #[u.1, u.2] }) (hacc : acc.toList = as.map Value.ref) :
    ∃ H' : Hp, (∀ b o, H b = some o → H' b = some o) ∧ H s.heap.objs.size = none ∧ (∀ t ∈ as, H t = none) ∧ s.heap.objs.size ∉ as ∧ H' s.heap.objs.size = some (.lst (as.map V.ref)) ∧ Paired (fun (t : Addr) (q : V × V) => H' t = some (.tup [q.1, q.2])) as ps ∧ Inv X pins σ H' { s with heap := h', toks := tk } := by
  have lk : ps.length = us.length := Paired.length kv
  have hSn : s.heap.objs.size ∉ as := fun z => Nat.lt_irrefl _ (above _ z)
  have nd : as.Nodup := List.Pairwise.imp (fun {a b} (h : a < b) => Nat.ne_of_lt h) rise
  have new : ∀ t ∈ as, H t = none := fun t ht => I.hok.fresh (Nat.le_of_lt (above t ht))
  have newS : H s.heap.objs.size = none := I.hok.fresh (Nat.le_refl _)
  have atP := putP_at as ps (upd H s.heap.objs.size (.lst (as.map V.ref))) (by omega) nd
  have off : ∀ b, b ∉ as → b ≠ s.heap.objs.size → putP (upd H s.heap.objs.size (.lst (as.map V.ref))) as ps b = H b := fun b h1 h2 => by rw [putP_off as ps _ h1, upd_ne h2]
  have low : ∀ b o, s.heap.get? b = some o → b ∉ as ∧ b ≠ s.heap.objs.size := fun b o e => ⟨fun z => absurd (Heap.lt_size e) (Nat.not_lt.mpr (Nat.le_of_lt (above b z))), Nat.ne_of_lt (Heap.lt_size e)⟩
  have kp : ∀ b u, H b = some u → (putP (upd H s.heap.objs.size (.lst (as.map V.ref))) as ps) b = some u := fun b u e => by
    rw [off b (fun z => by rw [new b z] at e; cases e) (fun z => by rw [z, newS] at e; cases e)]
    exact e
  have eS : putP (upd H s.heap.objs.size (.lst (as.map V.ref))) as ps s.heap.objs.size = some (.lst (as.map V.ref)) := by rw [putP_off as ps _ hSn, upd_same]
  refine ⟨putP (upd H s.heap.objs.size (.lst (as.map V.ref))) as ps, kp, newS, new, hSn, eS, atP, ?_⟩
  refine I.call' (ch := []) rfl ⟨fun b o q _ _ _ => hk b o q, fun b o q _ _ _ => ⟨o.slots, hk b o q⟩, fun b o q n _ => ?_, fun b o q _ => ⟨o, hk b o q⟩, fun b xs q => kp b _ q, fun b o u q => kp b _ q, fun b ps q => ⟨#[], by rw [kp b _ q]; simp⟩⟩ (fun b u q => ?_) I.bare fun b z => by simp at z
  · obtain ⟨z1, z2⟩ := low b o q
    rw [off b z1 z2]
    exact n
  · by_cases hb : b ∈ as
    · obtain ⟨j, pk, e1, e2, e3⟩ := LiI.paired_ix atP hb
      rw [e3] at q
      cases q
      obtain ⟨u, f1, f3⟩ := pairs j b e1
      obtain ⟨qv, g1, g2, g3⟩ := LiI.paired_get kv e2
      rw [f1] at g1
      cases g1
      exact ⟨by show 2 ≤ sizeLine; decide, [u.1, u.2], .cons g2 (.cons g3 .nil), ⟨_, f3, rfl, _, rfl⟩⟩
    · by_cases hb2 : b = s.heap.objs.size
      · rw [hb2] at q ⊢
        rw [eS] at q
        cases q
        refine ⟨by rw [List.length_map]; omega, acc.toList, c, by rw [hacc]; exact LiI.vals_refs as, ?_⟩
        rw [Array.toArray_toList]
        exact hS
      · rw [off b hb hb2] at q
        exact (I.hok b u q).stay (fun d v _ y => hk d v y) (fun d y => kp d _ y) fun d xs y => kp d _ y
/-- the keys' tuples and the values, in order -/
def rItemsLT : V → Hp → VK → Prop := fun x H Q => ∃ (d : Addr) (kvs : List (List Key × V)), x = .ref d ∧ Rd H d (.dT kvs) ∧
  ∀ (H' : Hp) (p : Addr) (ts : List Addr) (bs : List Addr), (∀ b o, H b = some o → H' b = some o) → H p = none → (∀ t ∈ ts, H t = none) → p ∉ ts → H' p = some (.lst (ts.map V.ref)) → IsKeys H kvs bs →
    Paired (fun (t : Addr) (q : V × V) => H' t = some (.tup [q.1, q.2])) ts (bs.zipWith (fun b kv => (V.ref b, kv.2)) kvs) → Q (.ref p) H'
def tListItemsT (te : TE) : TE := fun σ H Q => te σ H fun x H1 => rItemsLT x H1 Q
theorem kt_pairs {H : Hp} {kvs : List (List Key × V)} {xs : List (List Key × Addr × Value)} (r : KT H kvs xs) : Paired (fun (p : V × V) (u : Value × Value) => RelV p.1 u.1 ∧ RelV p.2 u.2) ((xs.map fun x => x.2.1).zipWith (fun b kv => (V.ref b, kv.2)) kvs) (xs.map fun x => (Value.ref x.2.1, x.2.2)) := by
  induction r with
  | nil => exact .nil
  | cons h t ih => exact .cons ⟨rfl, h.2.2⟩ ih
theorem pe_listItemsT {X : Cx} {e : Expr} {te : TE} {p apos cpos pos : Pos} (hc : X.calm = true) (he : PE X e te) (hg : Gl X "list") (hm : X.mg "list" = none) (hv : bootBuiltins "list" = some (.type "list")) (hbase : attributeBase e "items" X.env (eval e X.env) = eval e X.env := by rfl) (hline : (apos.endLine == cpos.line) = true := by rfl)
    (hs : starEach [.Call (.Attribute e "items" apos) [] [] cpos] X.env = (false, eval (.Call (.Attribute e "items" apos) [] [] cpos) X.env) :: starEach [] X.env := by rfl) :
    PE X (.Call (.Name "list" p) [.Call (.Attribute e "items" apos) [] [] cpos] [] pos) (tListItemsT te) := by
  refine ⟨fun pins s σ H Q I hq => ?_⟩
  refine wpAny_Call_Name_kw (ld_blt I hg hm hv ?_)
  refine PyProof.Rows.callWith_type1 ?_ hs rfl
  rw [hs]
  show wpAny _ _ (spliced ((false, eval (.Call (.Attribute e "items" apos) [] [] cpos) X.env) :: backTo pos (starEach [] X.env))) _ _ s
  refine Calls.spliced_cons ?_
  refine wpAny_Call_method (T := "dict") (id := "dict.items") hbase rfl hline F.plainAttrs_dict F.slot_dict_items F.type_dict_items (thn (he.run pins s σ H _ I hq) fun u s1 ⟨x, H1, I1, rx, d, kvs, ex, hd, q⟩ => ?_)
  subst ex
  obtain rfl : u = Value.ref d := rx
  obtain ⟨hz, hs0, ks, kv, hdo⟩ := dt_rd I1.hok hd
  obtain ⟨o, es, ep, ho, hx, hdat, hes, his, hn⟩ := id hdo
  have raw : DT.Raw s1.heap d es ep := ⟨o, ho, hx, hdat⟩
  have l1 : es.size = ks.length := size_of_entries hes
  have l2 : kvs.length = ks.length := Paired.length kv
  have I2 : Inv X pins σ H1 { s1 with heap := s1.heap.push { cls := .type "dict_items", data := .fields #[.ref d] } } := I1.kept (t' := s1.toks) fun b ob q => Heap.get?_push_of_some _ q
  refine ⟨raw.typeIs, ?_, ?_⟩
  · exact dictOfH_noDict hdo
  show wpAny _ _ (callWith cpos (.builtin "dict.items") [.ref d] [] []) _ X.xe s1
  refine method_meetsIn F.slot_dict_items F.entry_dict_items rfl (PySem.evalArgs_none ⟨rfl, raw.typeIs, F.args_dict_items_1 _, _, DT.meetsItems (es := es) (ep := ep) hs0, raw, ?_⟩)
  refine Calls.spliced_nil ?_
  refine kdI_call (es := es) (ep := ep) (I1.ok.hd hc) ⟨_, Heap.get?_push_size _ rfl, rfl, rfl⟩ (raw.push _) (by omega) fun h' tk acc c as hk hS hl hG hacc => ?_
  obtain ⟨H', k1, k2, k3, k4, k5, k6, J⟩ := pairs_laid (tk := tk) I2 (us := ks.map fun x => (Value.ref x.2.1, x.2.2)) (ps := (ks.map fun x => x.2.1).zipWith (fun b kv => (V.ref b, kv.2)) kvs) (by rw [List.length_zipWith, List.length_map]; omega) (kt_pairs kv) hk hS (by rw [List.length_map]; omega) hG.rise hG.above (fun j a hj => by
    obtain ⟨en, e1, e2⟩ := hG.pairs j a hj
    have qe := entry_at hes j
    rw [e1] at qe
    cases hb : ks[j]? with
    | none => rw [hb] at qe; exact nomatch (show some en = none from qe)
    | some b =>
      rw [hb] at qe
      have e3 : en = entryOfKey (tupleKind (mixKind X.prog X.w)) b := Option.some.inj qe
      refine ⟨(Value.ref b.2.1, b.2.2), by rw [List.getElem?_map, hb]; rfl, ?_⟩
      rw [e2, e3]
      rfl) hacc
  exact ⟨.ref _, H', J, rfl, q H' _ as (ks.map fun x => x.2.1) k1 k2 k3 k4 k5 (isKeys_of kv) k6⟩

/-! .. by data -/
theorem Rep.grow {K : PySem.W.Frag} {s : Wd} {μ : Mu} {H' : Hp} (R : Rep K s μ) (h : ∀ b o, s.H b = some o → H' b = some o) : Rep K { s with H := H' } μ := by
  refine ⟨fun a o q => h a o (R.sub a o q), fun n c q => ?_, R.inj⟩
  have C := R.cell n c q
  cases c with
  | lst xs => obtain ⟨h1, vs, h2, h3⟩ := C; exact ⟨h1, vs, h _ _ h2, h3⟩
  | frz xs => exact C
  | dct kvs => obtain ⟨h1, ks, h2, h3, h4⟩ := C; exact ⟨h1, ks, h _ _ h2, h3, h4⟩
  | dck kvs => obtain ⟨h1, ks, h2, h3, h4⟩ := C; exact ⟨h1, ks, h _ _ h2, h3, h4⟩
  | abs P => obtain ⟨xs, hP, h1, vs, h2, h3⟩ := C; exact ⟨xs, hP, h1, vs, h _ _ h2, h3⟩
  | dead =>
    show H' (s.L n) ≠ none
    have C' : s.H (s.L n) ≠ none := C
    cases e : s.H (s.L n) with
    | none => exact absurd e C'
    | some o => rw [h _ _ e]; simp
theorem Ext.grow {s0 s : Wd} {N0 N : Nat} {H' : Hp} (x : Ext s0 N0 s N) (h : ∀ b o, s.H b = some o → H' b = some o) : Ext s0 N0 { s with H := H' } N :=
  ⟨x.f, x.l, x.le, fun a o q hn => h a o (x.keep a o q hn), x.fnew, x.lnew⟩
theorem items_still {K : PySem.W.Frag} {s : Wd} {μ : Mu} : ∀ {ts : List Addr} {ps : List (V × V)} {ds : List (PyData × PyData)} {F1 : Hp}, Paired (fun (t : Addr) (q : V × V) => s.H t = some (.tup [q.1, q.2])) ts ps → Rep K { s with F := F1 } μ → DRs K F1 (ps.map (·.1)) (ds.map (·.1)) → DRs K F1 (ps.map (·.2)) (ds.map (·.2)) →
    ∃ F', Same F1 F' ∧ Rep K { s with F := F' } μ ∧ Ext { s with F := F1 } μ.length { s with F := F' } μ.length ∧ DRs K F' (ts.map V.ref) (ds.map fun p => .tuple [p.1, p.2])
  | _, _, [], F1, .nil, R, _, _ => ⟨F1, fun _ _ z => z, R, Ext.refl _ _, .nil⟩
  | _, _, _ :: _, _, .nil, _, h, _ => by cases h
  | _, _, [], _, .cons _ _, _, h, _ => by cases h
  | _, _, d :: ds, F1, .cons hq t, R, .cons h1 h1s, .cons h2 h2s => by
    obtain ⟨F2, f2, R2, x2, r2⟩ := tup_still (s := { s with F := F1 }) R hq (.cons h1 (.cons h2 .nil))
    obtain ⟨F3, f3, R3, x3, r3⟩ := items_still t R2 (h1s.mono f2) (h2s.mono f2)
    exact ⟨F3, fun a o z => f3 a o (f2 a o z), R3, x2.trans x3 fun n hn => R2.here hn, .cons (r2.mono f3) r3⟩
def litK (q : PQ) (μ : Mu) (e : EV) : Prop := match e with
  | .dat (.dict d) => (d.all fun p => isTupD p.1) = true ∧ q (.new (d.map fun p => .tuple [p.1, p.2])) μ
  | _ => False
def dListIt (te : TDE) : TDE := fun η μ q E => te η μ (fun e μ1 => litK q μ1 e) E
theorem zip_fst {bs : List Addr} {kvs : List (List Key × V)} (h : bs.length = kvs.length) : (bs.zipWith (fun b kv => (V.ref b, kv.2)) kvs).map (·.1) = bs.map V.ref ∧ (bs.zipWith (fun b kv => (V.ref b, kv.2)) kvs).map (·.2) = kvs.map (·.2) := by
  induction bs generalizing kvs with
  | nil => cases kvs with
    | nil => exact ⟨rfl, rfl⟩
    | cons _ _ => simp at h
  | cons b bs ih => cases kvs with
    | nil => simp at h
    | cons kv kvs =>
      obtain ⟨h1, h2⟩ := ih (by simpa using h)
      simp only [List.zipWith_cons_cons, List.map_cons, h1, h2]
      exact ⟨trivial, trivial⟩
theorem de_listItems {X : Cx} {W : WX} {e : Expr} {te : TDE} {p apos cpos pos : Pos} (hc : X.calm = true) (he : DE X W e te) (hg : Gl X "list") (hm : X.mg "list" = none) (hv : bootBuiltins "list" = some (.type "list")) (hbase : attributeBase e "items" X.env (eval e X.env) = eval e X.env := by rfl) (hline : (apos.endLine == cpos.line) = true := by rfl)
    (hs : starEach [.Call (.Attribute e "items" apos) [] [] cpos] X.env = (false, eval (.Call (.Attribute e "items" apos) [] [] cpos) X.env) :: starEach [] X.env := by rfl) :
    DE X W (.Call (.Name "list" p) [.Call (.Attribute e "items" apos) [] [] cpos] [] pos) (dListIt te) := by
  obtain ⟨t, pr, g⟩ := he.ex
  refine de_pe (pe_listItemsT hc pr hg hm hv hbase hline hs) fun s σ η μ Q q E S hq l lx => g s σ η μ _ _ E S hq (fun ex μ1 x s1 hk x1 R1 r1 f1 => ?_) lx
  unfold litK at hk
  split at hk
  · rename_i d
    obtain ⟨h1, h2⟩ := hk
    have rd : DR X.K s1.F x (.dict d) := r1
    cases rd with
    | @dcT a od ks kvs _ hF hk hs e =>
      subst e
      refine ⟨a, ks, rfl, .inr ⟨_, R1.sub _ _ hF⟩, fun H' p ts bs hgr hp hts hpt hpl hb hpair => ?_⟩
      have hkk : ∀ p ∈ ks, ∀ x ∈ p.1, keyOk x := fun p hp => by
        have : p.1 ∈ kvs.map (·.1) := by rw [← hk.1]; exact List.mem_map_of_mem hp
        obtain ⟨p', hp', e⟩ := List.mem_map.mp this
        rw [← e]
        exact hk.2 p' hp'
      obtain ⟨F1, f1', R2, x2, rk⟩ := tups_still (s := s1) (F1 := s1.F) hb R1 hkk
      have R3 := R2.grow (H' := H') hgr
      have hlb : bs.length = ks.length := (Paired.length hb).symm
      obtain ⟨z1, z2⟩ := zip_fst hlb
      obtain ⟨ds, hds⟩ : ∃ ds : List (PyData × PyData), ds = kvT kvs := ⟨_, rfl⟩
      have e1 : ds.map (·.1) = ks.map fun p => .tuple (p.1.map keyD) := by
        have e1 : ((kvT kvs).map (·.1)) = (kvs.map (·.1)).map fun k => PyData.tuple (k.map keyD) := by simp [kvT]
        rw [hds, e1, ← hk.1, List.map_map]
        rfl
      have e2 : ds.map (·.2) = kvs.map (·.2) := by rw [hds]; simp [kvT]
      obtain ⟨F2, f2', R4, x4, ri⟩ := items_still (s := { s1 with H := H' }) (ds := ds) hpair R3 (by rw [z1, e1]; exact rk) (by rw [z2, e2]; exact hs.mono f1')
      have xg : Ext s μ.length { s1 with F := F1, H := H' } μ1.length := (x1.trans x2 fun n hn => R1.here hn).grow hgr
      have xa : Ext s μ.length { s1 with F := F2, H := H' } μ1.length := xg.trans x4 fun n hn => R3.here hn
      have np : F1 p = none := by
        cases q : F1 p with
        | none => rfl
        | some o => have := R2.sub p o q; rw [hp] at this; cases this
      have nl : ∀ m, m < μ1.length → s1.L m ≠ p := fun m hm e => R1.here hm (by rw [e]; exact hp)
      have nF : F2 p = none := x4.fnew p np nl (by show H' p ≠ none; rw [hpl]; simp) (by intro vs z; have z' : H' p = some (.tup vs) := z; rw [hpl] at z'; cases z')
      rw [← hds] at h2
      exact l (.new _) μ1 (.ref p) { s1 with F := F2, H := H' } h2 xa R4 ⟨p, ts.map V.ref, rfl, hpl, nF, nl, ri⟩ (fun y hy => by cases hy; exact x1.fresh R1 hp)
    | @dcK a od ks kvs _ hF hk hs e ne =>
      subst e
      cases kvs with
      | nil => exact absurd rfl ne
      | cons p r =>
        obtain ⟨k0, v0⟩ := p
        exfalso
        have : isTupD (keyD k0) = true := by
          simp only [kvK, List.map_cons, List.all_cons, Bool.and_eq_true] at h1
          exact h1.1
        cases k0 <;> simp [keyD, isTupD] at this
  · exact hk.elim
theorem x_dListIt {te : TDE} {η : DEnv} {μ : Mu} {q : PQ} {E : XQ} : dListIt te η μ q E = te η μ (fun e μ1 => litK q μ1 e) E := Eq.trans rfl rfl
theorem litK_d {q : PQ} {μ : Mu} {d : List (PyData × PyData)} : litK q μ (.dat (.dict d)) = ((d.all fun p => isTupD p.1) = true ∧ q (.new (d.map fun p => .tuple [p.1, p.2])) μ) := Eq.trans rfl rfl

theorem s_par {i j : Nat} {ta : TDA} {d : DEnds} {E : XQ} {η : DEnv} {μ : Mu} (h : ta η μ (fun es μ1 => match es with
  | [e1, e2] => noNew e1 = true ∧ noNew e2 = true ∧ d.nx ((η.set i (some e1)).set j (some e2)) μ1
  | _ => False) E) : sPar i j ta d E η μ := h
end DL


set_option Elab.async false
set_option linter.all false
set_option maxRecDepth 100000
set_option maxHeartbeats 4000000
namespace B
open PySem L2 DL
def top (i : Nat) : Stmt := PySem.Challenge.pw_boardlay_k14_whole_sheets_go_on.main.body.getD i (.Pass ⟨0, 0, 0, 0⟩)
abbrev s_is_number : Stmt := top 4
abbrev s_nothing : Stmt := top 6
abbrev s_is_place : Stmt := top 7
abbrev s_sheet_of : Stmt := top 8
abbrev s_has : Stmt := top 9
abbrev s_places : Stmt := top 10
abbrev s_count : Stmt := top 11
abbrev s_joined : Stmt := top 12
abbrev s_common : Stmt := top 13
abbrev s_without : Stmt := top 14
abbrev s_moved : Stmt := top 15
abbrev s_grown : Stmt := top 16
abbrev s_spread : Stmt := top 17
abbrev s_flood : Stmt := top 18
abbrev s_turned_sheet : Stmt := top 19
abbrev s_mirrored : Stmt := top 20
abbrev s_law_cell_at : Stmt := top 22
abbrev s_law_state : Stmt := top 23
abbrev s_law_next : Stmt := top 24
abbrev s_law_floor : Stmt := top 25
abbrev s_law_sheet : Stmt := top 26
abbrev s_law_same : Stmt := top 27
abbrev s_law_size : Stmt := top 28
abbrev s_law_cells : Stmt := top 29
abbrev s_law_near : Stmt := top 30
abbrev s_law_come_to : Stmt := top 31
abbrev s_law_all_in : Stmt := top 32
abbrev s_law_two_done : Stmt := top 33
abbrev s_law_done : Stmt := top 34
abbrev s_law_back : Stmt := top 35
abbrev s_law : Stmt := top 36
structure Top (K : PySem.W.Frag) (mg : Str → Option Value) where
  a_is_number : Addr
  fd_is_number : FuncData
  F_is_number : Fun K "is_number" "is_number" s_is_number a_is_number fd_is_number
  m_is_number : mg "is_number" = some (.ref a_is_number)
  b_is_number : Binds K fd_is_number ["thing", "least", "most"] []
  a_nothing : Addr
  fd_nothing : FuncData
  F_nothing : Fun K "nothing" "nothing" s_nothing a_nothing fd_nothing
  m_nothing : mg "nothing" = some (.ref a_nothing)
  b_nothing : Binds K fd_nothing ["size"] []
  a_is_place : Addr
  fd_is_place : FuncData
  F_is_place : Fun K "is_place" "is_place" s_is_place a_is_place fd_is_place
  m_is_place : mg "is_place" = some (.ref a_is_place)
  b_is_place : Binds K fd_is_place ["size", "thing"] []
  a_sheet_of : Addr
  fd_sheet_of : FuncData
  F_sheet_of : Fun K "sheet_of" "sheet_of" s_sheet_of a_sheet_of fd_sheet_of
  m_sheet_of : mg "sheet_of" = some (.ref a_sheet_of)
  b_sheet_of : Binds K fd_sheet_of ["size", "some"] []
  a_has : Addr
  fd_has : FuncData
  F_has : Fun K "has" "has" s_has a_has fd_has
  m_has : mg "has" = some (.ref a_has)
  b_has : Binds K fd_has ["sheet", "x", "y"] []
  a_places : Addr
  fd_places : FuncData
  F_places : Fun K "places" "places" s_places a_places fd_places
  m_places : mg "places" = some (.ref a_places)
  b_places : Binds K fd_places ["sheet"] []
  a_count : Addr
  fd_count : FuncData
  F_count : Fun K "count" "count" s_count a_count fd_count
  m_count : mg "count" = some (.ref a_count)
  b_count : Binds K fd_count ["sheet"] []
  a_joined : Addr
  fd_joined : FuncData
  F_joined : Fun K "joined" "joined" s_joined a_joined fd_joined
  m_joined : mg "joined" = some (.ref a_joined)
  b_joined : Binds K fd_joined ["one", "other"] []
  a_common : Addr
  fd_common : FuncData
  F_common : Fun K "common" "common" s_common a_common fd_common
  m_common : mg "common" = some (.ref a_common)
  b_common : Binds K fd_common ["one", "other"] []
  a_without : Addr
  fd_without : FuncData
  F_without : Fun K "without" "without" s_without a_without fd_without
  m_without : mg "without" = some (.ref a_without)
  b_without : Binds K fd_without ["one", "other"] []
  a_moved : Addr
  fd_moved : FuncData
  F_moved : Fun K "moved" "moved" s_moved a_moved fd_moved
  m_moved : mg "moved" = some (.ref a_moved)
  b_moved : Binds K fd_moved ["size", "sheet", "dx", "dy"] []
  a_grown : Addr
  fd_grown : FuncData
  F_grown : Fun K "grown" "grown" s_grown a_grown fd_grown
  m_grown : mg "grown" = some (.ref a_grown)
  b_grown : Binds K fd_grown ["size", "sheet", "gap"] []
  a_spread : Addr
  fd_spread : FuncData
  F_spread : Fun K "spread" "spread" s_spread a_spread fd_spread
  m_spread : mg "spread" = some (.ref a_spread)
  b_spread : Binds K fd_spread ["size", "sheet"] []
  a_flood : Addr
  fd_flood : FuncData
  F_flood : Fun K "flood" "flood" s_flood a_flood fd_flood
  m_flood : mg "flood" = some (.ref a_flood)
  b_flood : Binds K fd_flood ["size", "sheet", "x", "y"] []
  a_turned_sheet : Addr
  fd_turned_sheet : FuncData
  F_turned_sheet : Fun K "turned_sheet" "turned_sheet" s_turned_sheet a_turned_sheet fd_turned_sheet
  m_turned_sheet : mg "turned_sheet" = some (.ref a_turned_sheet)
  b_turned_sheet : Binds K fd_turned_sheet ["size", "sheet"] []
  a_mirrored : Addr
  fd_mirrored : FuncData
  F_mirrored : Fun K "mirrored" "mirrored" s_mirrored a_mirrored fd_mirrored
  m_mirrored : mg "mirrored" = some (.ref a_mirrored)
  b_mirrored : Binds K fd_mirrored ["size", "sheet"] []
  a_law_cell_at : Addr
  fd_law_cell_at : FuncData
  F_law_cell_at : Fun K "_law_cell_at" "_law_cell_at" s_law_cell_at a_law_cell_at fd_law_cell_at
  m_law_cell_at : mg "_law_cell_at" = some (.ref a_law_cell_at)
  b_law_cell_at : Binds K fd_law_cell_at ["_law_script", "_law_k"] []
  a_law_state : Addr
  fd_law_state : FuncData
  F_law_state : Fun K "_law_state" "_law_state" s_law_state a_law_state fd_law_state
  m_law_state : mg "_law_state" = some (.ref a_law_state)
  b_law_state : Binds K fd_law_state ["_law_cell", "_law_k"] []
  a_law_next : Addr
  fd_law_next : FuncData
  F_law_next : Fun K "_law_next" "_law_next" s_law_next a_law_next fd_law_next
  m_law_next : mg "_law_next" = some (.ref a_law_next)
  b_law_next : Binds K fd_law_next ["_law_state_here", "_law_size_here"] []
  a_law_floor : Addr
  fd_law_floor : FuncData
  F_law_floor : Fun K "_law_floor" "_law_floor" s_law_floor a_law_floor fd_law_floor
  m_law_floor : mg "_law_floor" = some (.ref a_law_floor)
  b_law_floor : Binds K fd_law_floor ["_law_size_here"] []
  a_law_sheet : Addr
  fd_law_sheet : FuncData
  F_law_sheet : Fun K "_law_sheet" "_law_sheet" s_law_sheet a_law_sheet fd_law_sheet
  m_law_sheet : mg "_law_sheet" = some (.ref a_law_sheet)
  b_law_sheet : Binds K fd_law_sheet ["_law_size_here", "_law_cells_here"] []
  a_law_same : Addr
  fd_law_same : FuncData
  F_law_same : Fun K "_law_same" "_law_same" s_law_same a_law_same fd_law_same
  m_law_same : mg "_law_same" = some (.ref a_law_same)
  b_law_same : Binds K fd_law_same ["_law_found", "_law_due"] []
  a_law_size : Addr
  fd_law_size : FuncData
  F_law_size : Fun K "_law_size" "_law_size" s_law_size a_law_size fd_law_size
  m_law_size : mg "_law_size" = some (.ref a_law_size)
  b_law_size : Binds K fd_law_size ["_law_state_here"] []
  a_law_cells : Addr
  fd_law_cells : FuncData
  F_law_cells : Fun K "_law_cells" "_law_cells" s_law_cells a_law_cells fd_law_cells
  m_law_cells : mg "_law_cells" = some (.ref a_law_cells)
  b_law_cells : Binds K fd_law_cells ["_law_state_here", "_law_size_here"] []
  a_law_near : Addr
  fd_law_near : FuncData
  F_law_near : Fun K "_law_near" "_law_near" s_law_near a_law_near fd_law_near
  m_law_near : mg "_law_near" = some (.ref a_law_near)
  b_law_near : Binds K fd_law_near ["_law_cells_here", "_law_size_here", "_law_gap"] []
  a_law_come_to : Addr
  fd_law_come_to : FuncData
  F_law_come_to : Fun K "_law_come_to" "_law_come_to" s_law_come_to a_law_come_to fd_law_come_to
  m_law_come_to : mg "_law_come_to" = some (.ref a_law_come_to)
  b_law_come_to : Binds K fd_law_come_to ["_law_cells_here", "_law_first"] []
  a_law_all_in : Addr
  fd_law_all_in : FuncData
  F_law_all_in : Fun K "_law_all_in" "_law_all_in" s_law_all_in a_law_all_in fd_law_all_in
  m_law_all_in : mg "_law_all_in" = some (.ref a_law_all_in)
  b_law_all_in : Binds K fd_law_all_in ["_law_size_here", "_law_some"] []
  a_law_two_done : Addr
  fd_law_two_done : FuncData
  F_law_two_done : Fun K "_law_two_done" "_law_two_done" s_law_two_done a_law_two_done fd_law_two_done
  m_law_two_done : mg "_law_two_done" = some (.ref a_law_two_done)
  b_law_two_done : Binds K fd_law_two_done ["_law_way", "_law_size_here", "_law_sheet_here", "_law_cells_here", "_law_state_here"] []
  a_law_done : Addr
  fd_law_done : FuncData
  F_law_done : Fun K "_law_done" "_law_done" s_law_done a_law_done fd_law_done
  m_law_done : mg "_law_done" = some (.ref a_law_done)
  b_law_done : Binds K fd_law_done ["_law_size_here", "_law_sheet_here", "_law_cells_here", "_law_state_here"] []
  a_law_back : Addr
  fd_law_back : FuncData
  F_law_back : Fun K "_law_back" "_law_back" s_law_back a_law_back fd_law_back
  m_law_back : mg "_law_back" = some (.ref a_law_back)
  b_law_back : Binds K fd_law_back ["_law_size_here", "_law_sheet_here"] []
  a_law : Addr
  fd_law : FuncData
  F_law : Fun K "law" "law" s_law a_law fd_law
  m_law : mg "law" = some (.ref a_law)
  b_law : Binds K fd_law ["_law_script"] []
  n_abs : mg "abs" = none
  n_bool : mg "bool" = none
  n_dict : mg "dict" = none
  n_enumerate : mg "enumerate" = none
  n_int : mg "int" = none
  n_isinstance : mg "isinstance" = none
  n_len : mg "len" = none
  n_list : mg "list" = none
  n_range : mg "range" = none
  n_sorted : mg "sorted" = none
  n_sum : mg "sum" = none
  n_tuple : mg "tuple" = none
  n_zip : mg "zip" = none
  c_NoSpot : Addr
  gx_NoSpot : mg "NoSpot" = some (.ref c_NoSpot)
  xx_NoSpot : PySem.W.excIn K c_NoSpot [.type "ValueError", .type "Exception", .type "BaseException", .type "object"] "ValueError.__new__" = true
  xk_NoSpot : PySem.W.keepIn K (.ref c_NoSpot) = true
  xb_NoSpot : PySem.W.subIn K (.ref c_NoSpot) (.type "BaseException") = some true
  xt_NoSpot : PySem.W.typeIn K (.ref c_NoSpot) = some (.type "type")
theorem sc_is_number : FnScope ["thing", "least", "most"] ["thing", "least", "most"] (defScope s_is_number) := ⟨rfl, rfl, rfl, by decide +kernel, rfl, by decide +kernel, by decide +kernel⟩
theorem sc_nothing : FnScope ["size"] ["size"] (defScope s_nothing) := ⟨rfl, rfl, rfl, by decide +kernel, rfl, by decide +kernel, by decide +kernel⟩
theorem sc_is_place : FnScope ["size", "thing"] ["size", "thing"] (defScope s_is_place) := ⟨rfl, rfl, rfl, by decide +kernel, rfl, by decide +kernel, by decide +kernel⟩
theorem sc_sheet_of : FnScope ["size", "some", "rows", "place"] ["size", "some"] (defScope s_sheet_of) := ⟨rfl, rfl, rfl, by decide +kernel, rfl, by decide +kernel, by decide +kernel⟩
theorem sc_has : FnScope ["sheet", "x", "y"] ["sheet", "x", "y"] (defScope s_has) := ⟨rfl, rfl, rfl, by decide +kernel, rfl, by decide +kernel, by decide +kernel⟩
theorem sc_places : FnScope ["sheet", "found", "y", "row", "x"] ["sheet"] (defScope s_places) := ⟨rfl, rfl, rfl, by decide +kernel, rfl, by decide +kernel, by decide +kernel⟩
theorem sc_count : FnScope ["sheet", "found", "row"] ["sheet"] (defScope s_count) := ⟨rfl, rfl, rfl, by decide +kernel, rfl, by decide +kernel, by decide +kernel⟩
theorem sc_joined : FnScope ["one", "other", "row", "more"] ["one", "other"] (defScope s_joined) := ⟨rfl, rfl, rfl, by decide +kernel, rfl, by decide +kernel, by decide +kernel⟩
theorem sc_common : FnScope ["one", "other", "row", "more"] ["one", "other"] (defScope s_common) := ⟨rfl, rfl, rfl, by decide +kernel, rfl, by decide +kernel, by decide +kernel⟩
theorem sc_without : FnScope ["one", "other", "row", "more"] ["one", "other"] (defScope s_without) := ⟨rfl, rfl, rfl, by decide +kernel, rfl, by decide +kernel, by decide +kernel⟩
theorem sc_moved : FnScope ["size", "sheet", "dx", "dy", "most", "found", "y", "row"] ["size", "sheet", "dx", "dy"] (defScope s_moved) := ⟨rfl, rfl, rfl, by decide +kernel, rfl, by decide +kernel, by decide +kernel⟩
theorem sc_grown : FnScope ["size", "sheet", "gap", "found", "turn", "wider"] ["size", "sheet", "gap"] (defScope s_grown) := ⟨rfl, rfl, rfl, by decide +kernel, rfl, by decide +kernel, by decide +kernel⟩
theorem sc_spread : FnScope ["size", "sheet", "found", "dx", "dy"] ["size", "sheet"] (defScope s_spread) := ⟨rfl, rfl, rfl, by decide +kernel, rfl, by decide +kernel, by decide +kernel⟩
theorem sc_flood : FnScope ["size", "sheet", "x", "y", "found", "wider"] ["size", "sheet", "x", "y"] (defScope s_flood) := ⟨rfl, rfl, rfl, by decide +kernel, rfl, by decide +kernel, by decide +kernel⟩
theorem sc_turned_sheet : FnScope ["size", "sheet", "x", "y"] ["size", "sheet"] (defScope s_turned_sheet) := ⟨rfl, rfl, rfl, by decide +kernel, rfl, by decide +kernel, by decide +kernel⟩
theorem sc_mirrored : FnScope ["size", "sheet", "x", "y"] ["size", "sheet"] (defScope s_mirrored) := ⟨rfl, rfl, rfl, by decide +kernel, rfl, by decide +kernel, by decide +kernel⟩
theorem sc_law_cell_at : FnScope ["_law_script", "_law_k"] ["_law_script", "_law_k"] (defScope s_law_cell_at) := ⟨rfl, rfl, rfl, by decide +kernel, rfl, by decide +kernel, by decide +kernel⟩
theorem sc_law_state : FnScope ["_law_cell", "_law_k", "_law_drawn"] ["_law_cell", "_law_k"] (defScope s_law_state) := ⟨rfl, rfl, rfl, by decide +kernel, rfl, by decide +kernel, by decide +kernel⟩
theorem sc_law_next : FnScope ["_law_state_here", "_law_size_here", "_law_found", "_law_mixed"] ["_law_state_here", "_law_size_here"] (defScope s_law_next) := ⟨rfl, rfl, rfl, by decide +kernel, rfl, by decide +kernel, by decide +kernel⟩
theorem sc_law_floor : FnScope ["_law_size_here", "_law_found", "_law_x", "_law_y"] ["_law_size_here"] (defScope s_law_floor) := ⟨rfl, rfl, rfl, by decide +kernel, rfl, by decide +kernel, by decide +kernel⟩
theorem sc_law_sheet : FnScope ["_law_size_here", "_law_cells_here", "_law_rows", "_law_y", "_law_x"] ["_law_size_here", "_law_cells_here"] (defScope s_law_sheet) := ⟨rfl, rfl, rfl, by decide +kernel, rfl, by decide +kernel, by decide +kernel⟩
theorem sc_law_same : FnScope ["_law_found", "_law_due", "_law_row"] ["_law_found", "_law_due"] (defScope s_law_same) := ⟨rfl, rfl, rfl, by decide +kernel, rfl, by decide +kernel, by decide +kernel⟩
theorem sc_law_size : FnScope ["_law_state_here"] ["_law_state_here"] (defScope s_law_size) := ⟨rfl, rfl, rfl, by decide +kernel, rfl, by decide +kernel, by decide +kernel⟩
theorem sc_law_cells : FnScope ["_law_state_here", "_law_size_here", "_law_kind", "_law_parts", "_law_found", "_law_x", "_law_y"] ["_law_state_here", "_law_size_here"] (defScope s_law_cells) := ⟨rfl, rfl, rfl, by decide +kernel, rfl, by decide +kernel, by decide +kernel⟩
theorem sc_law_near : FnScope ["_law_cells_here", "_law_size_here", "_law_gap", "_law_found", "_law_x", "_law_y", "_law_cell"] ["_law_cells_here", "_law_size_here", "_law_gap"] (defScope s_law_near) := ⟨rfl, rfl, rfl, by decide +kernel, rfl, by decide +kernel, by decide +kernel⟩
theorem sc_law_come_to : FnScope ["_law_cells_here", "_law_first", "_law_found", "_law_waiting", "_law_x", "_law_y"] ["_law_cells_here", "_law_first"] (defScope s_law_come_to) := ⟨rfl, rfl, rfl, by decide +kernel, rfl, by decide +kernel, by decide +kernel⟩
theorem sc_law_all_in : FnScope ["_law_size_here", "_law_some", "_law_x", "_law_y"] ["_law_size_here", "_law_some"] (defScope s_law_all_in) := ⟨rfl, rfl, rfl, by decide +kernel, rfl, by decide +kernel, by decide +kernel⟩
theorem sc_law_two_done : FnScope ["_law_way", "_law_size_here", "_law_sheet_here", "_law_cells_here", "_law_state_here", "_law_more", "_law_other", "_law_cell"] ["_law_way", "_law_size_here", "_law_sheet_here", "_law_cells_here", "_law_state_here"] (defScope s_law_two_done) := ⟨rfl, rfl, rfl, by decide +kernel, rfl, by decide +kernel, by decide +kernel⟩
theorem sc_law_done : FnScope ["_law_size_here", "_law_sheet_here", "_law_cells_here", "_law_state_here", "_law_way", "_law_dx", "_law_dy", "_law_gap", "_law_x", "_law_y", "_law_other"] ["_law_size_here", "_law_sheet_here", "_law_cells_here", "_law_state_here"] (defScope s_law_done) := ⟨rfl, rfl, rfl, by decide +kernel, rfl, by decide +kernel, by decide +kernel⟩
theorem sc_law_back : FnScope ["_law_size_here", "_law_sheet_here", "_law_found", "_law_here", "_law_turn"] ["_law_size_here", "_law_sheet_here"] (defScope s_law_back) := ⟨rfl, rfl, rfl, by decide +kernel, rfl, by decide +kernel, by decide +kernel⟩
theorem sc_law : FnScope ["_law_script", "_law_state_here", "_law_size_here", "_law_cells_here", "_law_sheet_here", "_law_held", "_law_k", "_law_cell", "_law_draw", "_law_due", "_law_x", "_law_y", "_law_one"] ["_law_script"] (defScope s_law) := ⟨rfl, rfl, rfl, by decide +kernel, rfl, by decide +kernel, by decide +kernel⟩
local macro_rules | `(tactic| walk_at "dx") => `(tactic| simp (disch := first | assumption | omega) only [↓dVar_0, ↓dVar_1, ↓dVar_2, ↓dVar_3, ↓dVar_4, ↓dVar_5, ↓dVar_6, ↓dVar_7, ↓dVar_8, ↓dVar_9, ↓dVar_10, ↓dVar_11, ↓dVar_12, ↓dVar_13, ↓dVar_14, ↓dVar_15, ↓old_dat, ↓old_loc, ↓old_raw, ↓old_exc, ↓old_ro, ↓wDs_nil, ↓wDs_cons, ↓x_dC, ↓x_dRaw, ↓x_dFrz, ↓x_dCell, ↓x_dStl, ↓x_aNil, ↓x_aCons, ↓x_dLst, ↓x_dTup, ↓x_tVal, ↓x_tAndD, ↓x_tOrD, ↓x_tNotD, ↓x_tYesD, ↓x_dAndV, ↓x_dOrV, ↓x_dNotV, ↓x_dIfE, ↓x_dOp, ↓x_dUn, ↓x_dCB, ↓x_dChain, ↓intK_i, ↓x_oNo, ↓x_oSome, ↓x_dSl, ↓x_gNm, ↓x_gNl0, ↓x_gCn, ↓x_gTp, ↓x_gSb, ↓x_dCall, ↓seqK_tup, ↓seqK_lst, ↓seqK_new, ↓seqK_ro, ↓seqK_str, ↓rng1_i, ↓rng2_i, ↓x_iSeq, ↓x_iRange1, ↓x_iRange2, ↓x_dBM, ↓x_dBM0, ↓x_isStr, ↓bools_k, ↓ints_k, ↓strs_k, ↓lstK_lst, ↓lstK_new, ↓sqK_lst, ↓sqK_new, ↓sqK_tup, ↓sqK_ro, ↓x_oAll, ↓x_oSum, ↓x_oJoin, ↓x_oList, ↓x_oTuple, ↓x_oIsN, ↓x_oNotN, ↓x_lc, ↓int_i, ↓int_b, ↓mem_l, ↓mem_t, ↓mem_n, ↓x_srtS, ↓mul_ni, ↓mul_li, ↓wD_dat, ↓wD_new, ↓wB_b, ↓nN_dat, ↓nN_loc, ↓nN_raw, ↓nN_ro, ↓nN_exc, ↓aO_nil, ↓aO_cons, ↓stl_dat, ↓stl_new, ↓stl_loc, ↓stl_raw, ↓stl_ro, ↓stl_exc, ↓cel_dat, ↓cel_new, ↓cel_loc, ↓cel_raw, ↓cel_ro, ↓add_int, ↓add_strD, ↓add_tup, ↓add_ll, ↓add_ln, ↓add_nl, ↓add_nn, ↓oI_ii, ↓oI0_ii, ↓neg_i, ↓inv_i, ↓mul_int, ↓eq_dd, ↓ne_dd, ↓eq_nd, ↓ne_nd, ↓eq_dn, ↓ne_dn, ↓eq_nn, ↓ne_nn, ↓sign_ss, ↓ix_s, ↓ix_tupD, ↓ix_lstD, ↓ix_new, ↓ix_ro, ↓sl_s, ↓sl_tupD, ↓sl_lstD, ↓sl_new, ↓sl_ro, ↓len_str, ↓len_tup, ↓len_lst, ↓len_new, ↓len_ro, ↓max_ii, ↓min_ii, ↓isi_int, ↓isi_bool, ↓isi_str, ↓isi_list, ↓isi_tuple, ↓isi_dict, ↓exitQ_dat, ↓exitQ_new, ↓exitQ_raw, ↓cl_nil, ↓cl_none, ↓cl_dat, ↓cl_ro, ↓cl_raw, ↓cl_odat, ↓dVar_16, ↓dVar_17, ↓dVar_18, ↓dVar_19, ↓dVar_20, ↓dVar_21, ↓dVar_22, ↓dVar_23, ↓dVar_24, ↓dVar_25, ↓dVar_26, ↓dVar_27, ↓dVar_28, ↓dVar_29, ↓dVar_30, ↓dVar_31, ↓dVar_32, ↓dVar_33, ↓dVar_34, ↓dVar_35, ↓noD_n, ↓noD_b, ↓noD_i, ↓noD_s, ↓noD_l, ↓noD_t, ↓noDs_nil, ↓noDs_cons, ↓noDs_app, ↓noDs_i, ↓noDs_s, ↓noDs_b, ↓exC_k, ↓isIntD_none, ↓isIntD_bool, ↓isIntD_int, ↓isIntD_str, ↓isIntD_list, ↓isIntD_tuple, ↓isIntD_dict, ↓isBoolD_none, ↓isBoolD_bool, ↓isBoolD_int, ↓isBoolD_str, ↓isBoolD_list, ↓isBoolD_tuple, ↓isBoolD_dict, ↓isStrD_none, ↓isStrD_bool, ↓isStrD_int, ↓isStrD_str, ↓isStrD_list, ↓isStrD_tuple, ↓isStrD_dict, ↓isListD_none, ↓isListD_bool, ↓isListD_int, ↓isListD_str, ↓isListD_list, ↓isListD_tuple, ↓isListD_dict, ↓isTupD_none, ↓isTupD_bool, ↓isTupD_int, ↓isTupD_str, ↓isTupD_list, ↓isTupD_tuple, ↓isTupD_dict, ↓isDictD_none, ↓isDictD_bool, ↓isDictD_int, ↓isDictD_str, ↓isDictD_list, ↓isDictD_tuple, ↓isDictD_dict, ↓neg_i2, ↓inv_i2, ↓x_iSeqD, ↓seqDK_d, ↓seqDK_t, ↓seqDK_l, ↓seqDK_s, ↓seqDK_n, ↓seqDK_r, ↓seqDK_c, ↓x_iZipD, ↓zipK_t, ↓zipK_l, ↓x_dNewD, ↓lcD_d, ↓keysK_nil, ↓keysK_i, ↓keysK_s, ↓keysP_nil, ↓keysP_i, ↓keysP_s, ↓c_setD, ↓memA_dict, ↓memA_l, ↓memA_t, ↓memA_n, ↓c_memA, ↓memC_d, ↓memC_l, ↓memC_f, ↓cell_nd, ↓cell_nk, ↓stl_nd, ↓stl_nk, ↓ex_nd, ↓ex_nk, ↓x_dCellA, ↓cellA_new, ↓nextA_eq, ↓stateA_eq, ↓cellA_eq, ↓fg_nil, ↓fg_cons, ↓lcR_l, ↓lcR_f, ↓lcK_l, ↓c_len, ↓c_ix, ↓c_ixC, ↓c_app, ↓c_set, ↓c_isL, ↓c_lstK, ↓c_sqK, ↓c_mem, ↓c_addn, ↓c_addl, ↓c_sl, ↓c_seqK, ↓seqC_l, ↓seqC_f, ↓c_wD, ↓wdC_l, ↓wdC_f, ↓exC_l, ↓exC_f, ↓exC_d, ↓cellK_new, ↓cellK_dat, ↓cellK_loc, ↓get_a0, ↓get_a1, ↓get_a2, ↓get_a3, ↓set_a0, ↓set_a1, ↓set_a2, ↓set_a3, ↓lnD_str, ↓lnD_tup, ↓lnD_lst, ↓lnD_new, ↓lnD_ro, ↓lnD_d, ↓c_lenD, ↓lnC_d, ↓lnC_k, ↓lnC_l, ↓lnC_f, ↓eq_cN, ↓eq_cD, ↓eq_Nc, ↓eq_Dc, ↓ne_cN, ↓ne_cD, ↓ne_Nc, ↓ne_Dc, ↓x_iEnumD, ↓enumK_t, ↓enumK_l, ↓enumK_r, ↓enumK_tk, ↓enumK_lk, ↓srt_d, ↓srt_l, ↓srt_n, ↓c_srt, ↓srtC_l, ↓srtC_f, ↓srtC_d, ↓lsA_t, ↓lsA_l, ↓lsA_n, ↓lsA_r, ↓c_lsA, ↓c_isi_list, ↓c_isi_dict, ↓c_isi_tuple, ↓isiB_l, ↓isiB_f, ↓isiB_d, ↓isiB_k, ↓isi_n_list, ↓isi_n_tuple, ↓x_dListIt, ↓litK_d, ↓augK_s, ↓iadd_ii, ↓c_iaddn, ↓c_iaddl, ↓abs_i, ↓x_dRevL, ↓revK_n, ↓revK_l, ↓cnt_n, ↓cnt_l, ↓idx_l, ↓isLst_l, ↓isLst_n, ↓c_pop, ↓c_popD, ↓c_isD, ↓lcD2_d, ↓lcD2_k, ↓tk_0, ↓tk_a0, ↓tk_a1, ↓tk_a2, ↓tk_a3, ↓tk_a4, dVar_0, dVar_1, dVar_2, dVar_3, dVar_4, dVar_5, dVar_6, dVar_7, dVar_8, dVar_9, dVar_10, dVar_11, dVar_12, dVar_13, dVar_14, dVar_15, old_dat, old_loc, old_raw, old_exc, old_ro, wDs_nil, wDs_cons, x_dC, x_dRaw, x_dFrz, x_dCell, x_dStl, x_aNil, x_aCons, x_dLst, x_dTup, x_tVal, x_tAndD, x_tOrD, x_tNotD, x_tYesD, x_dAndV, x_dOrV, x_dNotV, x_dIfE, x_dOp, x_dUn, x_dCB, x_dChain, intK_i, x_oNo, x_oSome, x_dSl, x_gNm, x_gNl0, x_gCn, x_gTp, x_gSb, x_dCall, seqK_tup, seqK_lst, seqK_new, seqK_ro, seqK_str, rng1_i, rng2_i, x_iSeq, x_iRange1, x_iRange2, x_dBM, x_dBM0, x_isStr, bools_k, ints_k, strs_k, lstK_lst, lstK_new, sqK_lst, sqK_new, sqK_tup, sqK_ro, x_oAll, x_oSum, x_oJoin, x_oList, x_oTuple, x_oIsN, x_oNotN, x_lc, int_i, int_b, mem_l, mem_t, mem_n, x_srtS, mul_ni, mul_li, wD_dat, wD_new, wB_b, nN_dat, nN_loc, nN_raw, nN_ro, nN_exc, aO_nil, aO_cons, stl_dat, stl_new, stl_loc, stl_raw, stl_ro, stl_exc, cel_dat, cel_new, cel_loc, cel_raw, cel_ro, add_int, add_strD, add_tup, add_ll, add_ln, add_nl, add_nn, oI_ii, oI0_ii, neg_i, inv_i, mul_int, eq_dd, ne_dd, eq_nd, ne_nd, eq_dn, ne_dn, eq_nn, ne_nn, sign_ss, ix_s, ix_tupD, ix_lstD, ix_new, ix_ro, sl_s, sl_tupD, sl_lstD, sl_new, sl_ro, len_str, len_tup, len_lst, len_new, len_ro, max_ii, min_ii, isi_int, isi_bool, isi_str, isi_list, isi_tuple, isi_dict, exitQ_dat, exitQ_new, exitQ_raw, cl_nil, cl_none, cl_dat, cl_ro, cl_raw, cl_odat, dVar_16, dVar_17, dVar_18, dVar_19, dVar_20, dVar_21, dVar_22, dVar_23, dVar_24, dVar_25, dVar_26, dVar_27, dVar_28, dVar_29, dVar_30, dVar_31, dVar_32, dVar_33, dVar_34, dVar_35, noD_n, noD_b, noD_i, noD_s, noD_l, noD_t, noDs_nil, noDs_cons, noDs_app, noDs_i, noDs_s, noDs_b, exC_k, isIntD_none, isIntD_bool, isIntD_int, isIntD_str, isIntD_list, isIntD_tuple, isIntD_dict, isBoolD_none, isBoolD_bool, isBoolD_int, isBoolD_str, isBoolD_list, isBoolD_tuple, isBoolD_dict, isStrD_none, isStrD_bool, isStrD_int, isStrD_str, isStrD_list, isStrD_tuple, isStrD_dict, isListD_none, isListD_bool, isListD_int, isListD_str, isListD_list, isListD_tuple, isListD_dict, isTupD_none, isTupD_bool, isTupD_int, isTupD_str, isTupD_list, isTupD_tuple, isTupD_dict, isDictD_none, isDictD_bool, isDictD_int, isDictD_str, isDictD_list, isDictD_tuple, isDictD_dict, neg_i2, inv_i2, x_iSeqD, seqDK_d, seqDK_t, seqDK_l, seqDK_s, seqDK_n, seqDK_r, seqDK_c, x_iZipD, zipK_t, zipK_l, x_dNewD, lcD_d, keysK_nil, keysK_i, keysK_s, keysP_nil, keysP_i, keysP_s, c_setD, memA_dict, memA_l, memA_t, memA_n, c_memA, memC_d, memC_l, memC_f, cell_nd, cell_nk, stl_nd, stl_nk, ex_nd, ex_nk, x_dCellA, cellA_new, nextA_eq, stateA_eq, cellA_eq, fg_nil, fg_cons, lcR_l, lcR_f, lcK_l, c_len, c_ix, c_ixC, c_app, c_set, c_isL, c_lstK, c_sqK, c_mem, c_addn, c_addl, c_sl, c_seqK, seqC_l, seqC_f, c_wD, wdC_l, wdC_f, exC_l, exC_f, exC_d, cellK_new, cellK_dat, cellK_loc, get_a0, get_a1, get_a2, get_a3, set_a0, set_a1, set_a2, set_a3, lnD_str, lnD_tup, lnD_lst, lnD_new, lnD_ro, lnD_d, c_lenD, lnC_d, lnC_k, lnC_l, lnC_f, eq_cN, eq_cD, eq_Nc, eq_Dc, ne_cN, ne_cD, ne_Nc, ne_Dc, x_iEnumD, enumK_t, enumK_l, enumK_r, enumK_tk, enumK_lk, srt_d, srt_l, srt_n, c_srt, srtC_l, srtC_f, srtC_d, lsA_t, lsA_l, lsA_n, lsA_r, c_lsA, c_isi_list, c_isi_dict, c_isi_tuple, isiB_l, isiB_f, isiB_d, isiB_k, isi_n_list, isi_n_tuple, x_dListIt, litK_d, augK_s, iadd_ii, c_iaddn, c_iaddl, abs_i, x_dRevL, revK_n, revK_l, cnt_n, cnt_l, idx_l, isLst_l, isLst_n, c_pop, c_popD, c_isD, lcD2_d, lcD2_k, tk_0, tk_a0, tk_a1, tk_a2, tk_a3, tk_a4, isR_h, isR_app, isR_last, exitQ_ge, exitQ_lt, cl_loc, nle_h, nlt_h, ile_h, ilt_h, cmul_l, cmul_r, cdiv_h, cpow_h, csh_h, csh_0, oLt, oLe, oGt, oGe, oSub, oMod, oDiv, oPow, oShl, oShr, oAnd, oOr, oXor, isRaw, isNon, startD, List.length_map, decide_eq_true_eq, List.map_cons, List.map_nil, List.length_cons, List.length_nil, List.cons_append, List.nil_append, List.append_nil, List.replicate, List.getElem?_cons_zero, List.getElem?_cons_succ, List.set_cons_zero, List.set_cons_succ, List.take_length, true_and, and_true, eqv_int, eqv_bool, eqv_str, dep_int, dep_bool, dep_str, dep_none, min0l, min0r, Option.map_some, Option.map_none, if_true, if_false, Bool.and_true, Bool.true_and, Bool.false_eq_true, Bool.not_true, Bool.not_false, reduceIte, wipeD, List.append_assoc, at_nn, Option.some.injEq, exists_eq_left, exists_eq_left', Int.reduceToNat, Int.reduceLE, Int.reduceLT, List.length_set, Nat.reduceAdd, Nat.reduceLeDiff, Nat.reduceSub, dat_dat, dat_new, lst_lst, lst_new, seq_tup, seq_lst, seq_new, seq_ro, List.length_append, Nat.zero_add, eqv_tup, eqv_lst, eqvA_nn, eqvA_cc, eqvA_nc, eqvA_cn, dep_tup, dep_lst, depA_nil, depA_cons, Nat.max_zero, Nat.zero_max, Nat.lt_add_one, forall_const, oShlA, rng_c, Int.toNat_natCast, List.flatten_nil, decide_true, decide_false])
local macro_rules | `(tactic| walk_at "st1") => `(tactic| (first | refine s_par ?_ | refine q_aug ?_ | refine s_aug ?_ | refine q_augS ?_ | refine s_augS ?_ | refine q_next ?_ | refine q_when ?_ | refine q_if ?_ | refine q_ret ?_ | refine q_retN ?_ | refine q_set ?_ | refine q_asg ?_ | refine q_par ?_ | refine q_drop ?_ | refine q_forF ?_ | refine q_wipe ?_ | refine s_next ?_ | refine s_when ?_ | refine s_if ?_ | refine s_ret ?_ | refine s_retN ?_ | refine s_set ?_ | refine s_asg ?_ | refine s_drop ?_ | refine s_forF ?_ | refine s_wipe ?_ | refine s_raise ?_ | refine q_raise ?_) <;> (try walk_at "dx"))
local macro_rules | `(tactic| walk_at "st") => `(tactic| first | walk_at "st1" | skip)
local macro_rules | `(tactic| walk_at "run") => `(tactic| ((try walk_at "dx"); repeat walk_at "st1"))
local macro_rules | `(tactic| walk_at "ok") => `(tactic| repeat (with_reducible refine And.intro ?_ ?_; focus (first | assumption | omega | decide | trivial | (simp only [List.length_map, List.length_append, List.length_cons, List.length_nil, List.length_range, List.length_replicate]; omega))))

section
variable {P : Program} {w : World} {K : PySem.W.Frag} {mg : Str → Option Value} {base : Heap}

abbrev sp_law_cell_at := sp_cell
abbrev sp_law_state := sp_state
abbrev sp_law_next := sp_next
theorem okC_law_cell_at (T : Top K mg) : DefAt P w K mg base "_law_cell_at" 1 ["_law_script", "_law_k"] [] [] sp_law_cell_at := by
  refine def_ok sp_law_cell_at T.F_law_cell_at sc_law_cell_at T.m_law_cell_at T.b_law_cell_at (fun cdv A outer s H E hr tk pw => (dss_cons (ds_if (dt_cmp op_lt os_lt (dv 1) (de_callB call_lenA cs_lenD (by rfl) T.n_len bb_len (da_cons (dv 0) da_nil)) (nomark _)) (dss_one (ds_ret (de_ix ix_seq os_ix (dv 0) (dv 1) (fun _ _ => rfl)))) dss_nil)
    (dss_one (ds_ret de_int)))) ?_
  rintro es μ q x - ⟨ns, k, rfl, h0, h1, hl, h⟩
  refine q_whenB (decide (k < ns.length)) (fun K hK => ?_) (fun hb => ?_) (fun hb => ?_)
  · walk_at "dx"
    simpa using hK
  · walk_at "st"
    simp only [decide_eq_true_eq] at hb
    obtain ⟨j, rfl⟩ : ∃ j : Nat, k = j := ⟨k.toNat, by omega⟩
    have hj : j < ns.length := by omega
    exact ⟨.int ns[j], by simp [hj], h _⟩
  · walk_at "st"
    exact h 0
theorem ok_law_cell_at (T : Top K mg) : DefAt P w K mg base "_law_cell_at" 1 ["_law_script", "_law_k"] [] [] sp_cellA := (okC_law_cell_at T).imp cell_abs
theorem okC_law_state (T : Top K mg) : DefAt P w K mg base "_law_state" 1 ["_law_cell", "_law_k"] [] [] sp_law_state := by
  refine def_ok sp_law_state T.F_law_state sc_law_state T.m_law_state T.b_law_state (fun cdv A outer s H E hr tk pw => (dss_cons (ds_set (i := 2) sc_law_state.nd rfl (by first | exact Or.inl rfl | exact Or.inr rfl) (de_stl (de_op op_mod os_mod (de_op opA_mul os_mul (de_op opA_add os_add (de_op opA_add os_add (dv 0) (de_op opA_mul os_mul de_int (dv 1))) de_int) de_int) de_int)))
    (dss_one (ds_ret (de_lst (da_cons (de_frz (de_op op_mod os_mod (de_op opA_add os_add (de_op opA_add os_add (de_op opA_mul os_mul (dv 2) (dv 2)) (de_op opA_mul os_mul de_int (dv 2))) (dv 1)) de_int)) (da_cons (de_frz (de_op op_sub os_sub (dv 0) (de_op op_pow os_pow de_int de_int))) da_nil))))))) ?_
  rintro es μ q x - ⟨c, k, rfl, h0, h1, h⟩
  walk_at "st"
  have hm := Int.emod_nonneg ((c + 7919 * k + 1) * 48271) (show (2147483647 : Int) ≠ 0 by decide)
  have hm2 := Int.emod_lt_of_pos ((c + 7919 * k + 1) * 48271) (show (0 : Int) < 2147483647 by decide)
  generalize (c + 7919 * k + 1) * 48271 % 2147483647 = z at hm hm2
  walk_at "st"
  exact h _ _ (by omega) (by omega)
theorem ok_law_state (T : Top K mg) : DefAt P w K mg base "_law_state" 1 ["_law_cell", "_law_k"] [] [] sp_stateA := (okC_law_state T).imp state_abs
theorem okC_law_next (T : Top K mg) : DefAt P w K mg base "_law_next" 1 ["_law_state_here", "_law_size_here"] [] [] sp_law_next := by
  refine def_ok sp_law_next T.F_law_next sc_law_next T.m_law_next T.b_law_next (fun cdv A outer s H E hr tk pw => (dss_cons (ds_if (dt_cmp op_gt os_gt (de_ix ix_seq os_ix (dv 0) de_int (fun _ _ => rfl)) de_int (nomark _)) (dss_cons (ds_set (i := 2) sc_law_next.nd rfl (by first | exact Or.inl rfl | exact Or.inr rfl) (de_stl (de_op op_mod os_mod (de_ix ix_seq os_ix (dv 0) de_int (fun _ _ => rfl)) (dv 1))))
    (dss_cons (ds_asg (de_frz (de_op op_fdiv os_div (de_ix ix_seq os_ix (dv 0) de_int (fun _ _ => rfl)) (dv 1))) (dg_sub (W := WF) (dv 0) de_int set_list ss_list))
    (dss_one (ds_ret (dv 2))))) dss_nil)
    (dss_cons (ds_asg (de_frz (de_op op_mod os_mod (de_op opA_add os_add (de_op opA_mul os_mul (de_ix ix_seq os_ix (dv 0) de_int (fun _ _ => rfl)) de_int) de_int) de_int)) (dg_sub (W := WF) (dv 0) de_int set_list ss_list))
    (dss_cons (ds_set (i := 3) sc_law_next.nd rfl (by first | exact Or.inl rfl | exact Or.inr rfl) (de_stl (de_op op_mod os_mod (de_op opA_mul os_mul (de_ix ix_seq os_ix (dv 0) de_int (fun _ _ => rfl)) (de_ix ix_seq os_ix (dv 0) de_int (fun _ _ => rfl))) de_int)))
    (dss_one (ds_ret (de_op op_mod os_mod (de_op op_fdiv os_div (dv 3) de_int) (dv 1)))))))) ?_
  rintro es μ q x - ⟨n, k, rfl, ⟨a, b, hn, ha, hb⟩, h0, h1, h⟩
  have hlt := get_lt hn
  refine q_whenB (decide (1 < b)) (fun K hK => ?_) (fun hb1 => ?_) (fun hb1 => ?_)
  · walk_at "dx"
    simp only [hn]
    walk_at "dx"
    exact hK
  · walk_at "st"
    simp only [hn]
    walk_at "dx"
    walk_at "st1"
    simp only [hn]
    walk_at "dx"
    simp only [hn]
    walk_at "dx"
    refine ⟨1, rfl, ?_⟩
    walk_at "st"
    have st : Stp μ n (μ.set n (.lst [.int a, .int (b / k)])) := ⟨a, _, rfl, ha, hb⟩
    rw [st.take]
    exact h _ _ (Int.emod_nonneg _ (by omega)) (Int.emod_lt_of_pos _ h0) st
  · walk_at "st1"
    simp only [hn]
    walk_at "dx"
    simp only [hn]
    walk_at "dx"
    refine ⟨0, rfl, ?_⟩
    have hm := Int.emod_nonneg (a * 69621 + 11) (show (2147483629 : Int) ≠ 0 by decide)
    have hm2 := Int.emod_lt_of_pos (a * 69621 + 11) (show (0 : Int) < 2147483629 by decide)
    generalize (a * 69621 + 11) % 2147483629 = z at hm hm2
    have st : Stp μ n (μ.set n (.lst [.int z, .int b])) := ⟨z, _, rfl, hm, by omega⟩
    have hn2 : (μ.set n (.lst [.int z, .int b]))[n]? = some (.lst [.int z, .int b]) := List.getElem?_set_self hlt
    walk_at "st1"
    simp only [hn2]
    walk_at "dx"
    walk_at "st"
    rw [st.take]
    exact h _ _ (Int.emod_nonneg _ (by omega)) (Int.emod_lt_of_pos _ h0) st
theorem ok_law_next (T : Top K mg) : DefAt P w K mg base "_law_next" 1 ["_law_state_here", "_law_size_here"] [] [] sp_nextA := (okC_law_next T).abs next_abs

theorem band {a b : Nat} : Builtin.bitAnd (a : Int) (b : Int) = ((a &&& b : Nat) : Int) := by
  rw [PyProof.Rows.bitAnd_pp (Int.natCast_nonneg _) (Int.natCast_nonneg _)]
  simp
theorem bor {a b : Nat} : Builtin.bitOr (a : Int) (b : Int) = ((a ||| b : Nat) : Int) := by
  have e : Builtin.bitOr (a : Int) (b : Int) = Builtin.bitNot (Builtin.bitAnd (Builtin.bitNot a) (Builtin.bitNot b)) := rfl
  rw [e, PyProof.Rows.bitAnd_nn (by unfold Builtin.bitNot; omega) (by unfold Builtin.bitNot; omega), PyProof.Rows.bitNot_bitNot, PyProof.Rows.bitNot_bitNot, PyProof.Rows.bitNot_bitNot]
  simp
/-- a row of bits -/
def rowB : Nat → (Nat → Bool) → Nat
  | 0, _ => 0
  | w + 1, f => rowB w f + (if f w then 2 ^ w else 0)
theorem rowB_lt (f : Nat → Bool) : ∀ w, rowB w f < 2 ^ w
  | 0 => by simp [rowB]
  | w + 1 => by
    have := rowB_lt f w
    unfold rowB
    rw [Nat.pow_succ]
    split <;> omega
theorem rowB_bit (f : Nat → Bool) : ∀ w x, (rowB w f).testBit x = (decide (x < w) && f x)
  | 0, x => by simp [rowB]
  | w + 1, x => by
    unfold rowB
    have ih := rowB_bit f w x
    have hl := rowB_lt f w
    by_cases hf : f w = true
    · rw [if_pos hf, Nat.add_comm]
      by_cases hx : x = w
      · subst hx
        rw [Nat.testBit_two_pow_add_eq, Nat.testBit_lt_two_pow hl]
        simp [hf]
      · by_cases hlt : x < w
        · rw [Nat.testBit_two_pow_add_gt hlt, ih]
          simp [hlt, show x < w + 1 by omega]
        · have h2 : 2 ^ w + rowB w f < 2 ^ x := by
            have : 2 ^ (w + 1) ≤ 2 ^ x := Nat.pow_le_pow_right (by decide) (by omega)
            rw [Nat.pow_succ] at this
            omega
          rw [Nat.testBit_lt_two_pow h2]
          simp [show ¬ x < w + 1 by omega]
    · rw [if_neg hf, Nat.add_zero, ih]
      by_cases hx : x = w
      · subst hx
        simp [hf]
      · by_cases hlt : x < w
        · simp [hlt, show x < w + 1 by omega]
        · simp [hlt, show ¬ x < w + 1 by omega]
theorem row_ext {w a : Nat} (f : Nat → Bool) (h : ∀ x, a.testBit x = (decide (x < w) && f x)) : a = rowB w f := Nat.eq_of_testBit_eq fun x => by rw [h, rowB_bit]
theorem rowB_congr {w : Nat} {f g : Nat → Bool} (h : ∀ x, x < w → f x = g x) : rowB w f = rowB w g := row_ext g fun x => by
  rw [rowB_bit]
  by_cases hx : x < w
  · simp [hx, h x hx]
  · simp [hx]
/-- a sheet -/
def sheetB (w h : Nat) (c : Int → Int → Bool) : List Nat := (List.range h).map fun y : Nat => rowB w fun x : Nat => c (x : Int) (y : Int)
def shD (s : List Nat) : PyData := .tuple (s.map fun n : Nat => .int (n : Int))
theorem enc_nat : Enc (fun n : Nat => PyData.int (n : Int)) 0 := ⟨fun _ => noD_i, fun a b => by rw [eqv_int, decide_eq_true_eq]; omega, fun a => by rw [dep_int]; omega⟩
theorem enc_sh : Enc shD 1 := enc_nat.tup
theorem shD_inj {a b : List Nat} : (shD a = shD b) = (a = b) := enc_sh.eq
theorem shD_eq {s : List Nat} : EV.dat (shD s) = .dat (.tuple (s.map fun n : Nat => .int (n : Int))) := rfl
/-- whether a cell is in it -/
def bitS (s : List Nat) (x y : Int) : Bool := decide (0 ≤ x ∧ 0 ≤ y) && ((s[y.toNat]?).getD 0).testBit x.toNat
def okS (w : Nat) (s : List Nat) : Prop := ∀ r ∈ s, r < 2 ^ w
theorem sheetB_ok (w h : Nat) (c : Int → Int → Bool) : okS w (sheetB w h c) := by
  intro r hr
  obtain ⟨y, _, rfl⟩ := List.mem_map.mp hr
  exact rowB_lt _ _
theorem sheetB_len (w h : Nat) (c : Int → Int → Bool) : (sheetB w h c).length = h := by simp [sheetB]
theorem sheetB_bit (w h : Nat) (c : Int → Int → Bool) (x y : Int) : bitS (sheetB w h c) x y = (decide (0 ≤ x ∧ x < w ∧ 0 ≤ y ∧ y < h) && c x y) := by
  unfold bitS sheetB
  by_cases h0 : 0 ≤ x ∧ 0 ≤ y
  · obtain ⟨hx, hy⟩ := h0
    obtain ⟨m, rfl⟩ : ∃ m : Nat, x = m := ⟨x.toNat, by omega⟩
    obtain ⟨n, rfl⟩ : ∃ n : Nat, y = n := ⟨y.toNat, by omega⟩
    by_cases hn : n < h
    · simp [hn, rowB_bit]
    · simp [hn]
  · rw [Bool.eq_iff_iff]
    simp
    omega
theorem sheet_ext {w h : Nat} {s : List Nat} (c : Int → Int → Bool) (hl : s.length = h) (hs : okS w s) (hb : ∀ x y : Int, 0 ≤ x → x < w → 0 ≤ y → y < h → bitS s x y = c x y) : s = sheetB w h c := by
  refine List.ext_getElem (by rw [hl, sheetB_len]) fun n h1 h2 => ?_
  simp only [sheetB, List.getElem_map, List.getElem_range]
  refine row_ext _ fun x => ?_
  by_cases hx : x < w
  · have := hb x n (by omega) (by omega) (by omega) (by omega)
    simp [bitS, List.getElem?_eq_getElem h1] at this
    simpa [hx, List.getElem?_eq_getElem h1] using this
  · simp only [hx, decide_false, Bool.false_and]
    refine Nat.testBit_lt_two_pow (Nat.lt_of_lt_of_le (hs _ (List.getElem_mem h1)) (Nat.pow_le_pow_right (by decide) (by omega)))
theorem sheetB_congr {w h : Nat} {c d : Int → Int → Bool} (hb : ∀ x y : Int, 0 ≤ x → x < w → 0 ≤ y → y < h → c x y = d x y) : sheetB w h c = sheetB w h d :=
  sheet_ext d (sheetB_len _ _ _) (sheetB_ok _ _ _) fun x y h1 h2 h3 h4 => by rw [sheetB_bit, hb x y h1 h2 h3 h4]; simp [h1, h2, h3, h4]
def orS (a b : List Nat) : List Nat := List.zipWith (fun x y => x ||| y) a b
theorem orS_len {a b : List Nat} (h : a.length = b.length) : (orS a b).length = a.length := by simp [orS, h]
theorem orS_ok {w : Nat} {a b : List Nat} (ha : okS w a) (hb : okS w b) : okS w (orS a b) := by
  intro r hr
  unfold orS at hr
  rw [List.mem_iff_getElem] at hr
  obtain ⟨n, hn, rfl⟩ := hr
  simp only [List.getElem_zipWith]
  exact Nat.or_lt_two_pow (ha _ (List.getElem_mem _)) (hb _ (List.getElem_mem _))
theorem orS_bit {a b : List Nat} (h : a.length = b.length) (x y : Int) : bitS (orS a b) x y = (bitS a x y || bitS b x y) := by
  unfold bitS orS
  by_cases hy : y.toNat < a.length
  · have h1 := hy
    rw [h] at h1
    rw [List.getElem?_eq_getElem (by simp; omega), List.getElem?_eq_getElem hy, List.getElem?_eq_getElem h1]
    simp [Nat.testBit_or, Bool.and_or_distrib_left]
  · rw [List.getElem?_eq_none (by simp; omega), List.getElem?_eq_none (by omega), List.getElem?_eq_none (by omega)]
    simp
theorem pw1 (w : Nat) : (1 * 2 ^ w - 1 : Int) = ((2 ^ w - 1 : Nat) : Int) := by
  have := Nat.two_pow_pos w
  have e : ((2 ^ w : Nat) : Int) = (2 : Int) ^ w := by simp
  rw [Int.one_mul, ← e]
  omega

def szD (w h : Nat) : PyData := .tuple [.int w, .int h]
theorem szD_eq {w h : Nat} : EV.dat (szD w h) = .dat (.tuple [.int w, .int h]) := rfl
theorem ix_sz {w h : Nat} {y : EV} {μ : Mu} {q : PQ} : oIx (.dat (szD w h)) y μ q = oIx (.dat (.tuple [.int w, .int h])) y μ q := Eq.trans rfl rfl
theorem szD_inj {a b c d : Nat} : (szD a b = szD c d) = (a = c ∧ b = d) := by
  refine propext ⟨fun e => ?_, fun ⟨e, f⟩ => by rw [e, f]⟩
  simp only [szD, PyData.tuple.injEq, List.cons.injEq, PyData.int.injEq, and_true] at e
  omega
theorem zipW {a b : List Nat} : (((a.map fun n : Nat => PyData.int (n : Int)).zip (b.map fun n : Nat => PyData.int (n : Int))).map fun p => EV.dat (.tuple [p.1, p.2])) = ((a.zip b).map fun p : Nat × Nat => PyData.tuple [.int p.1, .int p.2]).map .dat := by
  rw [List.zip_map, List.map_map, List.map_map]
  rfl

def sp_joined : SpD := fun es μ q x => ∃ (a : List Nat) (b : List Nat), es = [.dat (shD a), .dat (shD b)] ∧ (a.length = b.length ∧ a.length ≤ 1000 ∧ q (.dat (shD (orS a b))) μ)
theorem e_joined {a : List Nat} {b : List Nat} {μ : Mu} {q : PQ} {x : XQ} : sp_joined [.dat (shD a), .dat (shD b)] μ q x = (a.length = b.length ∧ a.length ≤ 1000 ∧ q (.dat (shD (orS a b))) μ) := by
  refine propext ⟨fun hyp0 => ?_, fun hyp0 => ⟨a, b, rfl, hyp0⟩⟩
  obtain ⟨a', b', eq0, hyp0⟩ := hyp0
  simp only [List.cons.injEq, Exn.mk.injEq, EV.dat.injEq, EV.loc.injEq, EV.new.injEq, EV.ro.injEq, EV.exc.injEq, PyData.int.injEq, PyData.str.injEq, PyData.bool.injEq, PyData.list.injEq, PyData.tuple.injEq, and_true, true_and, and_assoc, map_int_inj, shD_inj] at eq0
  obtain ⟨rfl, rfl⟩ := eq0
  exact hyp0
theorem ok_joined (T : Top K mg) : DefAt P w K mg base "joined" 1 ["one", "other"] [] [] sp_joined := by
  refine def_ok sp_joined T.F_joined sc_joined T.m_joined T.b_joined (fun cdv A outer s H E hr tk pw => (dss_one (ds_ret (de_callTy call_tuple_of cs_tuple (by rfl) T.n_tuple bt_tuple (da_cons (de_lc (own := [("row", 2), ("more", 3)]) rfl sc_joined.nd (di_zip (by rfl) T.n_zip (da_cons (de_stl (dv 0)) (da_cons (de_stl (dv 1)) da_nil))) (blkOk_by (N := ["one", "other", "row", "more"]) (sc := defScope s_joined) (by decide +kernel)) (by decide) (fun _ _ _ _ _ => (dg_tup (n := 2) rfl (dgs_cons (dg_name (i := 2) sc_joined.nd rfl (by first | exact Or.inl rfl | exact Or.inr rfl)) (dgs_cons (dg_name (i := 3) sc_joined.nd rfl (by first | exact Or.inl rfl | exact Or.inr rfl)) dgs_nil)))) (fun _ _ _ _ _ => dts_nil) (fun _ _ _ _ _ => (de_op op_or os_or (dv 2) (dv 3)))) da_nil))))) ?_
  rintro es μ q x - ⟨a, b, rfl, hl, hz, h⟩
  simp only [shD_eq]
  walk_at "run"
  refine ⟨hl, ?_⟩
  rw [zipW]
  refine lc_mapD (f := ?f) (by simp; omega) trivial (fun p K hp hK => ?e) ?_
  case e => (try walk_at "dx"); rw [bor]; exact hK
  (try walk_at "dx")
  have e : ((a.zip b).map fun p : Nat × Nat => PyData.int ((p.1 ||| p.2 : Nat) : Int)) = (orS a b).map fun n : Nat => .int (n : Int) := by
    rw [List.map_zip_eq_zipWith, orS, List.map_zipWith]
    rfl
  rw [e]
  exact h
local macro_rules | `(tactic| walk_at "dx") => `(tactic| simp (disch := first | assumption | omega) only [↓e_joined, ↓dVar_0, ↓dVar_1, ↓dVar_2, ↓dVar_3, ↓dVar_4, ↓dVar_5, ↓dVar_6, ↓dVar_7, ↓dVar_8, ↓dVar_9, ↓dVar_10, ↓dVar_11, ↓dVar_12, ↓dVar_13, ↓dVar_14, ↓dVar_15, ↓old_dat, ↓old_loc, ↓old_raw, ↓old_exc, ↓old_ro, ↓wDs_nil, ↓wDs_cons, ↓x_dC, ↓x_dRaw, ↓x_dFrz, ↓x_dCell, ↓x_dStl, ↓x_aNil, ↓x_aCons, ↓x_dLst, ↓x_dTup, ↓x_tVal, ↓x_tAndD, ↓x_tOrD, ↓x_tNotD, ↓x_tYesD, ↓x_dAndV, ↓x_dOrV, ↓x_dNotV, ↓x_dIfE, ↓x_dOp, ↓x_dUn, ↓x_dCB, ↓x_dChain, ↓intK_i, ↓x_oNo, ↓x_oSome, ↓x_dSl, ↓x_gNm, ↓x_gNl0, ↓x_gCn, ↓x_gTp, ↓x_gSb, ↓x_dCall, ↓seqK_tup, ↓seqK_lst, ↓seqK_new, ↓seqK_ro, ↓seqK_str, ↓rng1_i, ↓rng2_i, ↓x_iSeq, ↓x_iRange1, ↓x_iRange2, ↓x_dBM, ↓x_dBM0, ↓x_isStr, ↓bools_k, ↓ints_k, ↓strs_k, ↓lstK_lst, ↓lstK_new, ↓sqK_lst, ↓sqK_new, ↓sqK_tup, ↓sqK_ro, ↓x_oAll, ↓x_oSum, ↓x_oJoin, ↓x_oList, ↓x_oTuple, ↓x_oIsN, ↓x_oNotN, ↓x_lc, ↓int_i, ↓int_b, ↓mem_l, ↓mem_t, ↓mem_n, ↓x_srtS, ↓mul_ni, ↓mul_li, ↓wD_dat, ↓wD_new, ↓wB_b, ↓nN_dat, ↓nN_loc, ↓nN_raw, ↓nN_ro, ↓nN_exc, ↓aO_nil, ↓aO_cons, ↓stl_dat, ↓stl_new, ↓stl_loc, ↓stl_raw, ↓stl_ro, ↓stl_exc, ↓cel_dat, ↓cel_new, ↓cel_loc, ↓cel_raw, ↓cel_ro, ↓add_int, ↓add_strD, ↓add_tup, ↓add_ll, ↓add_ln, ↓add_nl, ↓add_nn, ↓oI_ii, ↓oI0_ii, ↓neg_i, ↓inv_i, ↓mul_int, ↓eq_dd, ↓ne_dd, ↓eq_nd, ↓ne_nd, ↓eq_dn, ↓ne_dn, ↓eq_nn, ↓ne_nn, ↓sign_ss, ↓ix_s, ↓ix_tupD, ↓ix_lstD, ↓ix_new, ↓ix_ro, ↓sl_s, ↓sl_tupD, ↓sl_lstD, ↓sl_new, ↓sl_ro, ↓len_str, ↓len_tup, ↓len_lst, ↓len_new, ↓len_ro, ↓max_ii, ↓min_ii, ↓isi_int, ↓isi_bool, ↓isi_str, ↓isi_list, ↓isi_tuple, ↓isi_dict, ↓exitQ_dat, ↓exitQ_new, ↓exitQ_raw, ↓cl_nil, ↓cl_none, ↓cl_dat, ↓cl_ro, ↓cl_raw, ↓cl_odat, ↓dVar_16, ↓dVar_17, ↓dVar_18, ↓dVar_19, ↓dVar_20, ↓dVar_21, ↓dVar_22, ↓dVar_23, ↓dVar_24, ↓dVar_25, ↓dVar_26, ↓dVar_27, ↓dVar_28, ↓dVar_29, ↓dVar_30, ↓dVar_31, ↓dVar_32, ↓dVar_33, ↓dVar_34, ↓dVar_35, ↓noD_n, ↓noD_b, ↓noD_i, ↓noD_s, ↓noD_l, ↓noD_t, ↓noDs_nil, ↓noDs_cons, ↓noDs_app, ↓noDs_i, ↓noDs_s, ↓noDs_b, ↓exC_k, ↓isIntD_none, ↓isIntD_bool, ↓isIntD_int, ↓isIntD_str, ↓isIntD_list, ↓isIntD_tuple, ↓isIntD_dict, ↓isBoolD_none, ↓isBoolD_bool, ↓isBoolD_int, ↓isBoolD_str, ↓isBoolD_list, ↓isBoolD_tuple, ↓isBoolD_dict, ↓isStrD_none, ↓isStrD_bool, ↓isStrD_int, ↓isStrD_str, ↓isStrD_list, ↓isStrD_tuple, ↓isStrD_dict, ↓isListD_none, ↓isListD_bool, ↓isListD_int, ↓isListD_str, ↓isListD_list, ↓isListD_tuple, ↓isListD_dict, ↓isTupD_none, ↓isTupD_bool, ↓isTupD_int, ↓isTupD_str, ↓isTupD_list, ↓isTupD_tuple, ↓isTupD_dict, ↓isDictD_none, ↓isDictD_bool, ↓isDictD_int, ↓isDictD_str, ↓isDictD_list, ↓isDictD_tuple, ↓isDictD_dict, ↓neg_i2, ↓inv_i2, ↓x_iSeqD, ↓seqDK_d, ↓seqDK_t, ↓seqDK_l, ↓seqDK_s, ↓seqDK_n, ↓seqDK_r, ↓seqDK_c, ↓x_iZipD, ↓zipK_t, ↓zipK_l, ↓x_dNewD, ↓lcD_d, ↓keysK_nil, ↓keysK_i, ↓keysK_s, ↓keysP_nil, ↓keysP_i, ↓keysP_s, ↓c_setD, ↓memA_dict, ↓memA_l, ↓memA_t, ↓memA_n, ↓c_memA, ↓memC_d, ↓memC_l, ↓memC_f, ↓cell_nd, ↓cell_nk, ↓stl_nd, ↓stl_nk, ↓ex_nd, ↓ex_nk, ↓x_dCellA, ↓cellA_new, ↓nextA_eq, ↓stateA_eq, ↓cellA_eq, ↓fg_nil, ↓fg_cons, ↓lcR_l, ↓lcR_f, ↓lcK_l, ↓c_len, ↓c_ix, ↓c_ixC, ↓c_app, ↓c_set, ↓c_isL, ↓c_lstK, ↓c_sqK, ↓c_mem, ↓c_addn, ↓c_addl, ↓c_sl, ↓c_seqK, ↓seqC_l, ↓seqC_f, ↓c_wD, ↓wdC_l, ↓wdC_f, ↓exC_l, ↓exC_f, ↓exC_d, ↓cellK_new, ↓cellK_dat, ↓cellK_loc, ↓get_a0, ↓get_a1, ↓get_a2, ↓get_a3, ↓set_a0, ↓set_a1, ↓set_a2, ↓set_a3, ↓lnD_str, ↓lnD_tup, ↓lnD_lst, ↓lnD_new, ↓lnD_ro, ↓lnD_d, ↓c_lenD, ↓lnC_d, ↓lnC_k, ↓lnC_l, ↓lnC_f, ↓eq_cN, ↓eq_cD, ↓eq_Nc, ↓eq_Dc, ↓ne_cN, ↓ne_cD, ↓ne_Nc, ↓ne_Dc, ↓x_iEnumD, ↓enumK_t, ↓enumK_l, ↓enumK_r, ↓enumK_tk, ↓enumK_lk, ↓srt_d, ↓srt_l, ↓srt_n, ↓c_srt, ↓srtC_l, ↓srtC_f, ↓srtC_d, ↓lsA_t, ↓lsA_l, ↓lsA_n, ↓lsA_r, ↓c_lsA, ↓c_isi_list, ↓c_isi_dict, ↓c_isi_tuple, ↓isiB_l, ↓isiB_f, ↓isiB_d, ↓isiB_k, ↓isi_n_list, ↓isi_n_tuple, ↓x_dListIt, ↓litK_d, ↓augK_s, ↓iadd_ii, ↓c_iaddn, ↓c_iaddl, ↓abs_i, ↓x_dRevL, ↓revK_n, ↓revK_l, ↓cnt_n, ↓cnt_l, ↓idx_l, ↓isLst_l, ↓isLst_n, ↓c_pop, ↓c_popD, ↓c_isD, ↓lcD2_d, ↓lcD2_k, ↓tk_0, ↓tk_a0, ↓tk_a1, ↓tk_a2, ↓tk_a3, ↓tk_a4, dVar_0, dVar_1, dVar_2, dVar_3, dVar_4, dVar_5, dVar_6, dVar_7, dVar_8, dVar_9, dVar_10, dVar_11, dVar_12, dVar_13, dVar_14, dVar_15, old_dat, old_loc, old_raw, old_exc, old_ro, wDs_nil, wDs_cons, x_dC, x_dRaw, x_dFrz, x_dCell, x_dStl, x_aNil, x_aCons, x_dLst, x_dTup, x_tVal, x_tAndD, x_tOrD, x_tNotD, x_tYesD, x_dAndV, x_dOrV, x_dNotV, x_dIfE, x_dOp, x_dUn, x_dCB, x_dChain, intK_i, x_oNo, x_oSome, x_dSl, x_gNm, x_gNl0, x_gCn, x_gTp, x_gSb, x_dCall, seqK_tup, seqK_lst, seqK_new, seqK_ro, seqK_str, rng1_i, rng2_i, x_iSeq, x_iRange1, x_iRange2, x_dBM, x_dBM0, x_isStr, bools_k, ints_k, strs_k, lstK_lst, lstK_new, sqK_lst, sqK_new, sqK_tup, sqK_ro, x_oAll, x_oSum, x_oJoin, x_oList, x_oTuple, x_oIsN, x_oNotN, x_lc, int_i, int_b, mem_l, mem_t, mem_n, x_srtS, mul_ni, mul_li, wD_dat, wD_new, wB_b, nN_dat, nN_loc, nN_raw, nN_ro, nN_exc, aO_nil, aO_cons, stl_dat, stl_new, stl_loc, stl_raw, stl_ro, stl_exc, cel_dat, cel_new, cel_loc, cel_raw, cel_ro, add_int, add_strD, add_tup, add_ll, add_ln, add_nl, add_nn, oI_ii, oI0_ii, neg_i, inv_i, mul_int, eq_dd, ne_dd, eq_nd, ne_nd, eq_dn, ne_dn, eq_nn, ne_nn, sign_ss, ix_s, ix_tupD, ix_lstD, ix_new, ix_ro, sl_s, sl_tupD, sl_lstD, sl_new, sl_ro, len_str, len_tup, len_lst, len_new, len_ro, max_ii, min_ii, isi_int, isi_bool, isi_str, isi_list, isi_tuple, isi_dict, exitQ_dat, exitQ_new, exitQ_raw, cl_nil, cl_none, cl_dat, cl_ro, cl_raw, cl_odat, dVar_16, dVar_17, dVar_18, dVar_19, dVar_20, dVar_21, dVar_22, dVar_23, dVar_24, dVar_25, dVar_26, dVar_27, dVar_28, dVar_29, dVar_30, dVar_31, dVar_32, dVar_33, dVar_34, dVar_35, noD_n, noD_b, noD_i, noD_s, noD_l, noD_t, noDs_nil, noDs_cons, noDs_app, noDs_i, noDs_s, noDs_b, exC_k, isIntD_none, isIntD_bool, isIntD_int, isIntD_str, isIntD_list, isIntD_tuple, isIntD_dict, isBoolD_none, isBoolD_bool, isBoolD_int, isBoolD_str, isBoolD_list, isBoolD_tuple, isBoolD_dict, isStrD_none, isStrD_bool, isStrD_int, isStrD_str, isStrD_list, isStrD_tuple, isStrD_dict, isListD_none, isListD_bool, isListD_int, isListD_str, isListD_list, isListD_tuple, isListD_dict, isTupD_none, isTupD_bool, isTupD_int, isTupD_str, isTupD_list, isTupD_tuple, isTupD_dict, isDictD_none, isDictD_bool, isDictD_int, isDictD_str, isDictD_list, isDictD_tuple, isDictD_dict, neg_i2, inv_i2, x_iSeqD, seqDK_d, seqDK_t, seqDK_l, seqDK_s, seqDK_n, seqDK_r, seqDK_c, x_iZipD, zipK_t, zipK_l, x_dNewD, lcD_d, keysK_nil, keysK_i, keysK_s, keysP_nil, keysP_i, keysP_s, c_setD, memA_dict, memA_l, memA_t, memA_n, c_memA, memC_d, memC_l, memC_f, cell_nd, cell_nk, stl_nd, stl_nk, ex_nd, ex_nk, x_dCellA, cellA_new, nextA_eq, stateA_eq, cellA_eq, fg_nil, fg_cons, lcR_l, lcR_f, lcK_l, c_len, c_ix, c_ixC, c_app, c_set, c_isL, c_lstK, c_sqK, c_mem, c_addn, c_addl, c_sl, c_seqK, seqC_l, seqC_f, c_wD, wdC_l, wdC_f, exC_l, exC_f, exC_d, cellK_new, cellK_dat, cellK_loc, get_a0, get_a1, get_a2, get_a3, set_a0, set_a1, set_a2, set_a3, lnD_str, lnD_tup, lnD_lst, lnD_new, lnD_ro, lnD_d, c_lenD, lnC_d, lnC_k, lnC_l, lnC_f, eq_cN, eq_cD, eq_Nc, eq_Dc, ne_cN, ne_cD, ne_Nc, ne_Dc, x_iEnumD, enumK_t, enumK_l, enumK_r, enumK_tk, enumK_lk, srt_d, srt_l, srt_n, c_srt, srtC_l, srtC_f, srtC_d, lsA_t, lsA_l, lsA_n, lsA_r, c_lsA, c_isi_list, c_isi_dict, c_isi_tuple, isiB_l, isiB_f, isiB_d, isiB_k, isi_n_list, isi_n_tuple, x_dListIt, litK_d, augK_s, iadd_ii, c_iaddn, c_iaddl, abs_i, x_dRevL, revK_n, revK_l, cnt_n, cnt_l, idx_l, isLst_l, isLst_n, c_pop, c_popD, c_isD, lcD2_d, lcD2_k, tk_0, tk_a0, tk_a1, tk_a2, tk_a3, tk_a4, isR_h, isR_app, isR_last, exitQ_ge, exitQ_lt, cl_loc, nle_h, nlt_h, ile_h, ilt_h, cmul_l, cmul_r, cdiv_h, cpow_h, csh_h, csh_0, oLt, oLe, oGt, oGe, oSub, oMod, oDiv, oPow, oShl, oShr, oAnd, oOr, oXor, isRaw, isNon, startD, List.length_map, decide_eq_true_eq, List.map_cons, List.map_nil, List.length_cons, List.length_nil, List.cons_append, List.nil_append, List.append_nil, List.replicate, List.getElem?_cons_zero, List.getElem?_cons_succ, List.set_cons_zero, List.set_cons_succ, List.take_length, true_and, and_true, eqv_int, eqv_bool, eqv_str, dep_int, dep_bool, dep_str, dep_none, min0l, min0r, Option.map_some, Option.map_none, if_true, if_false, Bool.and_true, Bool.true_and, Bool.false_eq_true, Bool.not_true, Bool.not_false, reduceIte, wipeD, List.append_assoc, at_nn, Option.some.injEq, exists_eq_left, exists_eq_left', Int.reduceToNat, Int.reduceLE, Int.reduceLT, List.length_set, Nat.reduceAdd, Nat.reduceLeDiff, Nat.reduceSub, dat_dat, dat_new, lst_lst, lst_new, seq_tup, seq_lst, seq_new, seq_ro, List.length_append, Nat.zero_add, eqv_tup, eqv_lst, eqvA_nn, eqvA_cc, eqvA_nc, eqvA_cn, dep_tup, dep_lst, depA_nil, depA_cons, Nat.max_zero, Nat.zero_max, Nat.lt_add_one, forall_const, oShlA, rng_c, Int.toNat_natCast, List.flatten_nil, decide_true, decide_false])

theorem mov_pos {w d r : Nat} : Builtin.bitAnd ((r : Int) * 2 ^ d) (1 * 2 ^ w - 1) = ((rowB w fun x => decide (d ≤ x) && r.testBit (x - d) : Nat) : Int) := by
  have e : ((r : Int) * 2 ^ d) = ((r <<< d : Nat) : Int) := by rw [Nat.shiftLeft_eq]; simp
  rw [pw1, e, band]
  congr 1
  refine row_ext _ fun x => ?_
  rw [Nat.testBit_and, Nat.testBit_shiftLeft, Nat.testBit_two_pow_sub_one, Bool.and_comm]
theorem mov_neg {w d r : Nat} : Builtin.bitAnd ((r : Int) / 2 ^ d) (1 * 2 ^ w - 1) = ((rowB w fun x => r.testBit (x + d) : Nat) : Int) := by
  have e : ((r : Int) / 2 ^ d) = ((r >>> d : Nat) : Int) := by rw [Nat.shiftRight_eq_div_pow]; simp
  rw [pw1, e, band]
  congr 1
  refine row_ext _ fun x => ?_
  rw [Nat.testBit_and, Nat.testBit_shiftRight, Nat.testBit_two_pow_sub_one, Bool.and_comm, Nat.add_comm]
def movS (w h : Nat) (s : List Nat) (dx dy : Int) : List Nat := sheetB w h fun x y => bitS s (x - dx) (y - dy)
def movR (w : Nat) (s : List Nat) (dx dy : Int) (i : Nat) : Nat := rowB w fun x => bitS s (x - dx) (i - dy)
theorem movS_eq (w h : Nat) (s : List Nat) (dx dy : Int) : movS w h s dx dy = (List.range h).map (movR w s dx dy) := rfl
theorem mov_row {w : Nat} {s : List Nat} {dx dy : Int} {i r : Nat} (hs : okS w s) (hr : r = if (0 ≤ (i : Int) - dy ∧ (i : Int) - dy < s.length) ∧ -(w : Int) < dx ∧ dx < w then (s[((i : Int) - dy).toNat]?).getD 0 else 0) :
    (0 < dx → Builtin.bitAnd ((r : Int) * 2 ^ dx.toNat) (1 * 2 ^ w - 1) = ((movR w s dx dy i : Nat) : Int)) ∧ (¬ 0 < dx → Builtin.bitAnd ((r : Int) / 2 ^ (-dx).toNat) (1 * 2 ^ w - 1) = ((movR w s dx dy i : Nat) : Int)) := by
  have big : ∀ m : Nat, w ≤ m → ((s[((i : Int) - dy).toNat]?).getD 0).testBit m = false := fun m hm => by
    cases hg : s[((i : Int) - dy).toNat]? with
    | none => simp
    | some v =>
      rw [Option.getD_some]
      exact Nat.testBit_lt_two_pow (Nat.lt_of_lt_of_le (hs v (List.mem_of_getElem? hg)) (Nat.pow_le_pow_right (by decide) hm))
  have out : ¬ (i : Int) - dy < s.length → ((s[((i : Int) - dy).toNat]?).getD 0) = 0 := fun hn => by
    rw [List.getElem?_eq_none (by omega)]
    rfl
  refine ⟨fun hd => ?_, fun hd => ?_⟩
  · rw [mov_pos]
    congr 1
    refine rowB_congr fun x hx => ?_
    unfold bitS
    subst hr
    by_cases h1 : 0 ≤ (i : Int) - dy
    · by_cases h2 : (i : Int) - dy < s.length
      · by_cases h3 : dx < w
        · rw [if_pos ⟨⟨h1, h2⟩, by omega, h3⟩]
          by_cases h4 : dx.toNat ≤ x
          · rw [show ((x : Int) - dx).toNat = x - dx.toNat by omega, decide_eq_true h4, decide_eq_true (show 0 ≤ (x : Int) - dx ∧ 0 ≤ (i : Int) - dy by omega)]
          · rw [decide_eq_false h4, decide_eq_false (show ¬ (0 ≤ (x : Int) - dx ∧ 0 ≤ (i : Int) - dy) by omega), Bool.false_and, Bool.false_and]
        · rw [if_neg (by omega), decide_eq_false (show ¬ (0 ≤ (x : Int) - dx ∧ 0 ≤ (i : Int) - dy) by omega)]
          simp
      · rw [if_neg (by omega), out h2]
        simp
    · rw [if_neg (by omega), decide_eq_false (show ¬ (0 ≤ (x : Int) - dx ∧ 0 ≤ (i : Int) - dy) by omega)]
      simp
  · rw [mov_neg]
    congr 1
    refine rowB_congr fun x hx => ?_
    unfold bitS
    subst hr
    have e : ((x : Int) - dx).toNat = x + (-dx).toNat := by omega
    by_cases h1 : 0 ≤ (i : Int) - dy
    · by_cases h2 : (i : Int) - dy < s.length
      · by_cases h3 : -(w : Int) < dx
        · rw [if_pos ⟨⟨h1, h2⟩, h3, by omega⟩, e, decide_eq_true (show 0 ≤ (x : Int) - dx ∧ 0 ≤ (i : Int) - dy by omega), Bool.true_and]
        · rw [if_neg (by omega), e, big _ (by omega)]
          simp
      · rw [if_neg (by omega), out h2]
        simp
    · rw [if_neg (by omega), decide_eq_false (show ¬ (0 ≤ (x : Int) - dx ∧ 0 ≤ (i : Int) - dy) by omega)]
      simp
def sp_moved : SpD := fun es μ q x => ∃ (w : Nat) (h : Nat) (s : List Nat) (dx : Int) (dy : Int), es = [.dat (szD w h), .dat (shD s), .dat (.int dx), .dat (.int dy)] ∧ (s.length = h ∧ okS w s ∧ w ≤ 10 ∧ h ≤ 10 ∧ q (.dat (shD (movS w h s dx dy))) μ)
theorem e_moved {w : Nat} {h : Nat} {s : List Nat} {dx : Int} {dy : Int} {μ : Mu} {q : PQ} {x : XQ} : sp_moved [.dat (szD w h), .dat (shD s), .dat (.int dx), .dat (.int dy)] μ q x = (s.length = h ∧ okS w s ∧ w ≤ 10 ∧ h ≤ 10 ∧ q (.dat (shD (movS w h s dx dy))) μ) := by
  refine propext ⟨fun hyp0 => ?_, fun hyp0 => ⟨w, h, s, dx, dy, rfl, hyp0⟩⟩
  obtain ⟨w', h', s', dx', dy', eq0, hyp0⟩ := hyp0
  simp only [List.cons.injEq, Exn.mk.injEq, EV.dat.injEq, EV.loc.injEq, EV.new.injEq, EV.ro.injEq, EV.exc.injEq, PyData.int.injEq, PyData.str.injEq, PyData.bool.injEq, PyData.list.injEq, PyData.tuple.injEq, and_true, true_and, and_assoc, map_int_inj, szD_inj, shD_inj] at eq0
  obtain ⟨rfl, rfl, rfl, rfl, rfl⟩ := eq0
  exact hyp0
theorem ok_moved (T : Top K mg) : DefAt P w K mg base "moved" 1 ["size", "sheet", "dx", "dy"] [] [] sp_moved := by
  refine def_ok sp_moved T.F_moved sc_moved T.m_moved T.b_moved (fun cdv A outer s H E hr tk pw => (dss_cons (ds_set (i := 4) sc_moved.nd rfl (by first | exact Or.inl rfl | exact Or.inr rfl) (de_stl (de_op op_sub os_sub (de_op opA_shl os_shlA de_int (de_ix ix_seq os_ix (dv 0) de_int (fun _ _ => rfl))) de_int)))
    (dss_cons (ds_set (i := 5) sc_moved.nd rfl (by first | exact Or.inl rfl | exact Or.inr rfl) (de_cell (de_lst da_nil)))
    (dss_cons (ds_forF [6, 7] pw rfl (di_range1 (by rfl) T.n_range (da_cons (de_ix ix_seq os_ix (dv 0) de_int (fun _ _ => rfl)) da_nil)) (dg_name (i := 6) sc_moved.nd rfl (by first | exact Or.inl rfl | exact Or.inr rfl)) (dss_cons (ds_set (i := 7) sc_moved.nd rfl (by first | exact Or.inl rfl | exact Or.inr rfl) de_int)
    (dss_cons (ds_if (dw_and (dt_chain op_le os_le op_lt os_lt de_int (de_op op_sub os_sub (dv 6) (dv 3)) (de_ix ix_seq os_ix (dv 0) de_int (fun _ _ => rfl))) (dw_and1 (dt_chain op_lt os_lt op_lt os_lt (de_un un_neg us_neg (de_ix ix_seq os_ix (dv 0) de_int (fun _ _ => rfl))) (dv 2) (de_ix ix_seq os_ix (dv 0) de_int (fun _ _ => rfl))))).dt (dss_one (ds_set (i := 7) sc_moved.nd rfl (by first | exact Or.inl rfl | exact Or.inr rfl) (de_stl (de_ix ix_seq os_ix (dv 1) (de_op op_sub os_sub (dv 6) (dv 3)) (fun _ _ => rfl))))) dss_nil)
    (dss_one (ds_expr (de_bm PySem.F.plainAttrs_list PySem.F.slot_list_append PySem.F.type_list_append mt_append rc_lst ms_append (dv 5) (da_cons (de_frz (de_op op_and os_and (de_ifExp (dt_cmp op_gt os_gt (dv 2) de_int (nomark _)) (de_op opA_shl os_shlA (dv 7) (dv 2)) (de_op op_shr os_shr (dv 7) (de_un un_neg us_neg (dv 2)))) (dv 4))) da_nil)))))))
    (dss_one (ds_ret (de_callTy call_tuple_of cs_tuple (by rfl) T.n_tuple bt_tuple (da_cons (dv 5) da_nil)))))))) ?_
  rintro es μ q x - ⟨w, h, s, dx, dy, rfl, hl, hs, hw, hh, k⟩
  simp only [szD_eq, shD_eq]
  walk_at "run"
  refine for_stR (fun i (n : Nat) => n = i) (fun η _ => η) (fun _ n => μ ++ [.lst ((List.range n).map fun y => .int ((movR w s dx dy y : Nat) : Int))]) 0 rfl rfl rfl (fun _ => trivial) ?_ ?_
  · rintro i n J hi rfl hJ
    (try walk_at "dx")
    walk_at "st1"
    refine q_whenR (fun η' μ' => μ' = (μ ++ [Cell.lst ((List.range n).map fun y => .int ((movR w s dx dy y : Nat) : Int))]) ∧ ∃ r : Nat, (r = if (0 ≤ (n : Int) - dy ∧ (n : Int) - dy < s.length) ∧ -(w : Int) < dx ∧ dx < w then (s[((n : Int) - dy).toNat]?).getD 0 else 0) ∧
      η' = [some (.dat (.tuple [.int w, .int h])), some (.dat (.tuple (s.map fun n : Nat => .int (n : Int)))), some (.dat (.int dx)), some (.dat (.int dy)), some (.dat (.int (1 * 2 ^ w - 1))), some (.loc μ.length), some (.dat (.int (0 + (n : Int)))), some (.dat (.int r))]) ?_ (fun R => ?_)
    · rintro η' μ' ⟨rfl, r, hr, rfl⟩
      obtain ⟨m1, m2⟩ := mov_row hs hr
      have hc : 0 < dx → CSh (r : Int) dx := fun hd => by
        by_cases h3 : dx < w
        · have hr2 : r < 2 ^ 10 := by
            have : r < 2 ^ w := by
              subst hr
              split
              · cases hg : s[((n : Int) - dy).toNat]? with
                | none => exact Nat.two_pow_pos w
                | some v => exact hs v (List.mem_of_getElem? hg)
              · exact Nat.two_pow_pos w
            exact Nat.lt_of_lt_of_le this (Nat.pow_le_pow_right (by decide) hw)
          exact of_eq_true (csh_h (by omega) (by omega) (by omega) (by omega))
        · rw [if_neg (by omega)] at hr
          subst hr
          exact .inr ⟨rfl, by omega⟩
      walk_at "run"
      split
      · rename_i hd
        refine ⟨hc hd, ?_⟩
        (try walk_at "dx")
        rw [m1 hd]
        (try walk_at "ok")
        (have j := hJ (n + 1) rfl; simp only [List.range_succ, List.map_append, List.map_cons, List.map_nil, fg_cons, fg_nil, List.set_cons_succ, List.set_cons_zero] at j; exact j)
      · rename_i hd
        (try walk_at "dx")
        rw [m2 hd]
        (try walk_at "ok")
        (have j := hJ (n + 1) rfl; simp only [List.range_succ, List.map_append, List.map_cons, List.map_nil, fg_cons, fg_nil, List.set_cons_succ, List.set_cons_zero] at j; exact j)
    · (try walk_at "dx")
      split
      · split
        · split
          · split
            · rename_i h1 h2 h3 h4
              have hlt : ((n : Int) - dy).toNat < s.length := by omega
              walk_at "run"
              refine ⟨.int (s[((n : Int) - dy).toNat] : Nat), ?_, ?_⟩
              · rw [Int.zero_add, List.getElem?_map, List.getElem?_eq_getElem hlt]
                rfl
              · (try walk_at "dx")
                refine R _ _ ⟨rfl, s[((n : Int) - dy).toNat], ?_, rfl⟩
                rw [if_pos (by omega), List.getElem?_eq_getElem hlt]
                rfl
            · exact R _ _ ⟨rfl, 0, by rw [if_neg (by omega)], rfl⟩
          · exact R _ _ ⟨rfl, 0, by rw [if_neg (by omega)], rfl⟩
        · exact R _ _ ⟨rfl, 0, by rw [if_neg (by omega)], rfl⟩
      · exact R _ _ ⟨rfl, 0, by rw [if_neg (by omega)], rfl⟩
  · rintro n rfl
    walk_at "run"
    have e : ((List.range n).map fun y => PyData.int ((movR w s dx dy y : Nat) : Int)) = (movS w n s dx dy).map fun n : Nat => .int (n : Int) := by
      rw [movS_eq, List.map_map]
      rfl
    rw [e]
    exact k
theorem movS_len (w h : Nat) (s : List Nat) (dx dy : Int) : (movS w h s dx dy).length = h := sheetB_len _ _ _
theorem movS_ok (w h : Nat) (s : List Nat) (dx dy : Int) : okS w (movS w h s dx dy) := sheetB_ok _ _ _
local macro_rules | `(tactic| walk_at "dx") => `(tactic| simp (disch := first | assumption | omega) only [↓e_joined, ↓e_moved, ↓dVar_0, ↓dVar_1, ↓dVar_2, ↓dVar_3, ↓dVar_4, ↓dVar_5, ↓dVar_6, ↓dVar_7, ↓dVar_8, ↓dVar_9, ↓dVar_10, ↓dVar_11, ↓dVar_12, ↓dVar_13, ↓dVar_14, ↓dVar_15, ↓old_dat, ↓old_loc, ↓old_raw, ↓old_exc, ↓old_ro, ↓wDs_nil, ↓wDs_cons, ↓x_dC, ↓x_dRaw, ↓x_dFrz, ↓x_dCell, ↓x_dStl, ↓x_aNil, ↓x_aCons, ↓x_dLst, ↓x_dTup, ↓x_tVal, ↓x_tAndD, ↓x_tOrD, ↓x_tNotD, ↓x_tYesD, ↓x_dAndV, ↓x_dOrV, ↓x_dNotV, ↓x_dIfE, ↓x_dOp, ↓x_dUn, ↓x_dCB, ↓x_dChain, ↓intK_i, ↓x_oNo, ↓x_oSome, ↓x_dSl, ↓x_gNm, ↓x_gNl0, ↓x_gCn, ↓x_gTp, ↓x_gSb, ↓x_dCall, ↓seqK_tup, ↓seqK_lst, ↓seqK_new, ↓seqK_ro, ↓seqK_str, ↓rng1_i, ↓rng2_i, ↓x_iSeq, ↓x_iRange1, ↓x_iRange2, ↓x_dBM, ↓x_dBM0, ↓x_isStr, ↓bools_k, ↓ints_k, ↓strs_k, ↓lstK_lst, ↓lstK_new, ↓sqK_lst, ↓sqK_new, ↓sqK_tup, ↓sqK_ro, ↓x_oAll, ↓x_oSum, ↓x_oJoin, ↓x_oList, ↓x_oTuple, ↓x_oIsN, ↓x_oNotN, ↓x_lc, ↓int_i, ↓int_b, ↓mem_l, ↓mem_t, ↓mem_n, ↓x_srtS, ↓mul_ni, ↓mul_li, ↓wD_dat, ↓wD_new, ↓wB_b, ↓nN_dat, ↓nN_loc, ↓nN_raw, ↓nN_ro, ↓nN_exc, ↓aO_nil, ↓aO_cons, ↓stl_dat, ↓stl_new, ↓stl_loc, ↓stl_raw, ↓stl_ro, ↓stl_exc, ↓cel_dat, ↓cel_new, ↓cel_loc, ↓cel_raw, ↓cel_ro, ↓add_int, ↓add_strD, ↓add_tup, ↓add_ll, ↓add_ln, ↓add_nl, ↓add_nn, ↓oI_ii, ↓oI0_ii, ↓neg_i, ↓inv_i, ↓mul_int, ↓eq_dd, ↓ne_dd, ↓eq_nd, ↓ne_nd, ↓eq_dn, ↓ne_dn, ↓eq_nn, ↓ne_nn, ↓sign_ss, ↓ix_s, ↓ix_tupD, ↓ix_lstD, ↓ix_new, ↓ix_ro, ↓sl_s, ↓sl_tupD, ↓sl_lstD, ↓sl_new, ↓sl_ro, ↓len_str, ↓len_tup, ↓len_lst, ↓len_new, ↓len_ro, ↓max_ii, ↓min_ii, ↓isi_int, ↓isi_bool, ↓isi_str, ↓isi_list, ↓isi_tuple, ↓isi_dict, ↓exitQ_dat, ↓exitQ_new, ↓exitQ_raw, ↓cl_nil, ↓cl_none, ↓cl_dat, ↓cl_ro, ↓cl_raw, ↓cl_odat, ↓dVar_16, ↓dVar_17, ↓dVar_18, ↓dVar_19, ↓dVar_20, ↓dVar_21, ↓dVar_22, ↓dVar_23, ↓dVar_24, ↓dVar_25, ↓dVar_26, ↓dVar_27, ↓dVar_28, ↓dVar_29, ↓dVar_30, ↓dVar_31, ↓dVar_32, ↓dVar_33, ↓dVar_34, ↓dVar_35, ↓noD_n, ↓noD_b, ↓noD_i, ↓noD_s, ↓noD_l, ↓noD_t, ↓noDs_nil, ↓noDs_cons, ↓noDs_app, ↓noDs_i, ↓noDs_s, ↓noDs_b, ↓exC_k, ↓isIntD_none, ↓isIntD_bool, ↓isIntD_int, ↓isIntD_str, ↓isIntD_list, ↓isIntD_tuple, ↓isIntD_dict, ↓isBoolD_none, ↓isBoolD_bool, ↓isBoolD_int, ↓isBoolD_str, ↓isBoolD_list, ↓isBoolD_tuple, ↓isBoolD_dict, ↓isStrD_none, ↓isStrD_bool, ↓isStrD_int, ↓isStrD_str, ↓isStrD_list, ↓isStrD_tuple, ↓isStrD_dict, ↓isListD_none, ↓isListD_bool, ↓isListD_int, ↓isListD_str, ↓isListD_list, ↓isListD_tuple, ↓isListD_dict, ↓isTupD_none, ↓isTupD_bool, ↓isTupD_int, ↓isTupD_str, ↓isTupD_list, ↓isTupD_tuple, ↓isTupD_dict, ↓isDictD_none, ↓isDictD_bool, ↓isDictD_int, ↓isDictD_str, ↓isDictD_list, ↓isDictD_tuple, ↓isDictD_dict, ↓neg_i2, ↓inv_i2, ↓x_iSeqD, ↓seqDK_d, ↓seqDK_t, ↓seqDK_l, ↓seqDK_s, ↓seqDK_n, ↓seqDK_r, ↓seqDK_c, ↓x_iZipD, ↓zipK_t, ↓zipK_l, ↓x_dNewD, ↓lcD_d, ↓keysK_nil, ↓keysK_i, ↓keysK_s, ↓keysP_nil, ↓keysP_i, ↓keysP_s, ↓c_setD, ↓memA_dict, ↓memA_l, ↓memA_t, ↓memA_n, ↓c_memA, ↓memC_d, ↓memC_l, ↓memC_f, ↓cell_nd, ↓cell_nk, ↓stl_nd, ↓stl_nk, ↓ex_nd, ↓ex_nk, ↓x_dCellA, ↓cellA_new, ↓nextA_eq, ↓stateA_eq, ↓cellA_eq, ↓fg_nil, ↓fg_cons, ↓lcR_l, ↓lcR_f, ↓lcK_l, ↓c_len, ↓c_ix, ↓c_ixC, ↓c_app, ↓c_set, ↓c_isL, ↓c_lstK, ↓c_sqK, ↓c_mem, ↓c_addn, ↓c_addl, ↓c_sl, ↓c_seqK, ↓seqC_l, ↓seqC_f, ↓c_wD, ↓wdC_l, ↓wdC_f, ↓exC_l, ↓exC_f, ↓exC_d, ↓cellK_new, ↓cellK_dat, ↓cellK_loc, ↓get_a0, ↓get_a1, ↓get_a2, ↓get_a3, ↓set_a0, ↓set_a1, ↓set_a2, ↓set_a3, ↓lnD_str, ↓lnD_tup, ↓lnD_lst, ↓lnD_new, ↓lnD_ro, ↓lnD_d, ↓c_lenD, ↓lnC_d, ↓lnC_k, ↓lnC_l, ↓lnC_f, ↓eq_cN, ↓eq_cD, ↓eq_Nc, ↓eq_Dc, ↓ne_cN, ↓ne_cD, ↓ne_Nc, ↓ne_Dc, ↓x_iEnumD, ↓enumK_t, ↓enumK_l, ↓enumK_r, ↓enumK_tk, ↓enumK_lk, ↓srt_d, ↓srt_l, ↓srt_n, ↓c_srt, ↓srtC_l, ↓srtC_f, ↓srtC_d, ↓lsA_t, ↓lsA_l, ↓lsA_n, ↓lsA_r, ↓c_lsA, ↓c_isi_list, ↓c_isi_dict, ↓c_isi_tuple, ↓isiB_l, ↓isiB_f, ↓isiB_d, ↓isiB_k, ↓isi_n_list, ↓isi_n_tuple, ↓x_dListIt, ↓litK_d, ↓augK_s, ↓iadd_ii, ↓c_iaddn, ↓c_iaddl, ↓abs_i, ↓x_dRevL, ↓revK_n, ↓revK_l, ↓cnt_n, ↓cnt_l, ↓idx_l, ↓isLst_l, ↓isLst_n, ↓c_pop, ↓c_popD, ↓c_isD, ↓lcD2_d, ↓lcD2_k, ↓tk_0, ↓tk_a0, ↓tk_a1, ↓tk_a2, ↓tk_a3, ↓tk_a4, dVar_0, dVar_1, dVar_2, dVar_3, dVar_4, dVar_5, dVar_6, dVar_7, dVar_8, dVar_9, dVar_10, dVar_11, dVar_12, dVar_13, dVar_14, dVar_15, old_dat, old_loc, old_raw, old_exc, old_ro, wDs_nil, wDs_cons, x_dC, x_dRaw, x_dFrz, x_dCell, x_dStl, x_aNil, x_aCons, x_dLst, x_dTup, x_tVal, x_tAndD, x_tOrD, x_tNotD, x_tYesD, x_dAndV, x_dOrV, x_dNotV, x_dIfE, x_dOp, x_dUn, x_dCB, x_dChain, intK_i, x_oNo, x_oSome, x_dSl, x_gNm, x_gNl0, x_gCn, x_gTp, x_gSb, x_dCall, seqK_tup, seqK_lst, seqK_new, seqK_ro, seqK_str, rng1_i, rng2_i, x_iSeq, x_iRange1, x_iRange2, x_dBM, x_dBM0, x_isStr, bools_k, ints_k, strs_k, lstK_lst, lstK_new, sqK_lst, sqK_new, sqK_tup, sqK_ro, x_oAll, x_oSum, x_oJoin, x_oList, x_oTuple, x_oIsN, x_oNotN, x_lc, int_i, int_b, mem_l, mem_t, mem_n, x_srtS, mul_ni, mul_li, wD_dat, wD_new, wB_b, nN_dat, nN_loc, nN_raw, nN_ro, nN_exc, aO_nil, aO_cons, stl_dat, stl_new, stl_loc, stl_raw, stl_ro, stl_exc, cel_dat, cel_new, cel_loc, cel_raw, cel_ro, add_int, add_strD, add_tup, add_ll, add_ln, add_nl, add_nn, oI_ii, oI0_ii, neg_i, inv_i, mul_int, eq_dd, ne_dd, eq_nd, ne_nd, eq_dn, ne_dn, eq_nn, ne_nn, sign_ss, ix_s, ix_tupD, ix_lstD, ix_new, ix_ro, sl_s, sl_tupD, sl_lstD, sl_new, sl_ro, len_str, len_tup, len_lst, len_new, len_ro, max_ii, min_ii, isi_int, isi_bool, isi_str, isi_list, isi_tuple, isi_dict, exitQ_dat, exitQ_new, exitQ_raw, cl_nil, cl_none, cl_dat, cl_ro, cl_raw, cl_odat, dVar_16, dVar_17, dVar_18, dVar_19, dVar_20, dVar_21, dVar_22, dVar_23, dVar_24, dVar_25, dVar_26, dVar_27, dVar_28, dVar_29, dVar_30, dVar_31, dVar_32, dVar_33, dVar_34, dVar_35, noD_n, noD_b, noD_i, noD_s, noD_l, noD_t, noDs_nil, noDs_cons, noDs_app, noDs_i, noDs_s, noDs_b, exC_k, isIntD_none, isIntD_bool, isIntD_int, isIntD_str, isIntD_list, isIntD_tuple, isIntD_dict, isBoolD_none, isBoolD_bool, isBoolD_int, isBoolD_str, isBoolD_list, isBoolD_tuple, isBoolD_dict, isStrD_none, isStrD_bool, isStrD_int, isStrD_str, isStrD_list, isStrD_tuple, isStrD_dict, isListD_none, isListD_bool, isListD_int, isListD_str, isListD_list, isListD_tuple, isListD_dict, isTupD_none, isTupD_bool, isTupD_int, isTupD_str, isTupD_list, isTupD_tuple, isTupD_dict, isDictD_none, isDictD_bool, isDictD_int, isDictD_str, isDictD_list, isDictD_tuple, isDictD_dict, neg_i2, inv_i2, x_iSeqD, seqDK_d, seqDK_t, seqDK_l, seqDK_s, seqDK_n, seqDK_r, seqDK_c, x_iZipD, zipK_t, zipK_l, x_dNewD, lcD_d, keysK_nil, keysK_i, keysK_s, keysP_nil, keysP_i, keysP_s, c_setD, memA_dict, memA_l, memA_t, memA_n, c_memA, memC_d, memC_l, memC_f, cell_nd, cell_nk, stl_nd, stl_nk, ex_nd, ex_nk, x_dCellA, cellA_new, nextA_eq, stateA_eq, cellA_eq, fg_nil, fg_cons, lcR_l, lcR_f, lcK_l, c_len, c_ix, c_ixC, c_app, c_set, c_isL, c_lstK, c_sqK, c_mem, c_addn, c_addl, c_sl, c_seqK, seqC_l, seqC_f, c_wD, wdC_l, wdC_f, exC_l, exC_f, exC_d, cellK_new, cellK_dat, cellK_loc, get_a0, get_a1, get_a2, get_a3, set_a0, set_a1, set_a2, set_a3, lnD_str, lnD_tup, lnD_lst, lnD_new, lnD_ro, lnD_d, c_lenD, lnC_d, lnC_k, lnC_l, lnC_f, eq_cN, eq_cD, eq_Nc, eq_Dc, ne_cN, ne_cD, ne_Nc, ne_Dc, x_iEnumD, enumK_t, enumK_l, enumK_r, enumK_tk, enumK_lk, srt_d, srt_l, srt_n, c_srt, srtC_l, srtC_f, srtC_d, lsA_t, lsA_l, lsA_n, lsA_r, c_lsA, c_isi_list, c_isi_dict, c_isi_tuple, isiB_l, isiB_f, isiB_d, isiB_k, isi_n_list, isi_n_tuple, x_dListIt, litK_d, augK_s, iadd_ii, c_iaddn, c_iaddl, abs_i, x_dRevL, revK_n, revK_l, cnt_n, cnt_l, idx_l, isLst_l, isLst_n, c_pop, c_popD, c_isD, lcD2_d, lcD2_k, tk_0, tk_a0, tk_a1, tk_a2, tk_a3, tk_a4, isR_h, isR_app, isR_last, exitQ_ge, exitQ_lt, cl_loc, nle_h, nlt_h, ile_h, ilt_h, cmul_l, cmul_r, cdiv_h, cpow_h, csh_h, csh_0, oLt, oLe, oGt, oGe, oSub, oMod, oDiv, oPow, oShl, oShr, oAnd, oOr, oXor, isRaw, isNon, startD, List.length_map, decide_eq_true_eq, List.map_cons, List.map_nil, List.length_cons, List.length_nil, List.cons_append, List.nil_append, List.append_nil, List.replicate, List.getElem?_cons_zero, List.getElem?_cons_succ, List.set_cons_zero, List.set_cons_succ, List.take_length, true_and, and_true, eqv_int, eqv_bool, eqv_str, dep_int, dep_bool, dep_str, dep_none, min0l, min0r, Option.map_some, Option.map_none, if_true, if_false, Bool.and_true, Bool.true_and, Bool.false_eq_true, Bool.not_true, Bool.not_false, reduceIte, wipeD, List.append_assoc, at_nn, Option.some.injEq, exists_eq_left, exists_eq_left', Int.reduceToNat, Int.reduceLE, Int.reduceLT, List.length_set, Nat.reduceAdd, Nat.reduceLeDiff, Nat.reduceSub, dat_dat, dat_new, lst_lst, lst_new, seq_tup, seq_lst, seq_new, seq_ro, List.length_append, Nat.zero_add, eqv_tup, eqv_lst, eqvA_nn, eqvA_cc, eqvA_nc, eqvA_cn, dep_tup, dep_lst, depA_nil, depA_cons, Nat.max_zero, Nat.zero_max, Nat.lt_add_one, forall_const, oShlA, rng_c, Int.toNat_natCast, List.flatten_nil, decide_true, decide_false])

/-- the places of a floor -/
def inF (w h : Nat) (c : Pt) : Prop := 0 ≤ c.1 ∧ c.1 < w ∧ 0 ≤ c.2 ∧ c.2 < h
instance (w h : Nat) (c : Pt) : Decidable (inF w h c) := inferInstanceAs (Decidable (_ ∧ _ ∧ _ ∧ _))
def flr (w h : Nat) : List Pt := (List.range w).flatMap fun x : Nat => (List.range h).map fun y : Nat => ((x : Int), (y : Int))
theorem mem_flr {w h : Nat} {c : Pt} : c ∈ flr w h ↔ inF w h c := by
  unfold flr inF
  rw [List.mem_flatMap]
  constructor
  · rintro ⟨x, hx, hc⟩
    obtain ⟨y, hy, rfl⟩ := List.mem_map.mp hc
    have := List.mem_range.mp hx
    have := List.mem_range.mp hy
    simp only
    omega
  · rintro ⟨h1, h2, h3, h4⟩
    exact ⟨c.1.toNat, List.mem_range.mpr (by omega), List.mem_map.mpr ⟨c.2.toNat, List.mem_range.mpr (by omega), Prod.ext (by simp only; omega) (by simp only; omega)⟩⟩
theorem flr_succ (w h : Nat) : flr (w + 1) h = flr w h ++ (List.range h).map fun y : Nat => ((w : Int), (y : Int)) := by
  unfold flr
  rw [List.range_succ, List.flatMap_append]
  simp
theorem flr_len (w h : Nat) : (flr w h).length = w * h := by
  induction w with
  | zero => simp [flr]
  | succ w ih => rw [flr_succ, List.length_append, ih, List.length_map, List.length_range, Nat.succ_mul]
theorem flr_le {w h : Nat} {a b : Nat} (h1 : w ≤ a) (h2 : h ≤ b) : (flr w h).length ≤ a * b := by
  rw [flr_len]
  exact Nat.mul_le_mul h1 h2
def shC (w h : Nat) (cs : List Pt) : List Nat := sheetB w h fun x y => decide ((x, y) ∈ cs)
theorem ptD_eq (x y : Int) : PyData.tuple [.int x, .int y] = ptD (x, y) := rfl
theorem bitS_in {w h : Nat} {s : List Nat} {x y : Int} (hl : s.length = h) (hs : okS w s) (hb : bitS s x y = true) : inF w h (x, y) := by
  unfold bitS at hb
  rw [Bool.and_eq_true, decide_eq_true_eq] at hb
  obtain ⟨⟨h1, h2⟩, h3⟩ := hb
  by_cases hy : y.toNat < s.length
  · rw [List.getElem?_eq_getElem hy, Option.getD_some] at h3
    by_cases hx : x.toNat < w
    · exact ⟨h1, by simp only; omega, h2, by simp only; omega⟩
    · rw [Nat.testBit_lt_two_pow (Nat.lt_of_lt_of_le (hs _ (List.getElem_mem hy)) (Nat.pow_le_pow_right (by decide) (by omega)))] at h3
      cases h3
  · rw [List.getElem?_eq_none (by omega)] at h3
    simp at h3
theorem shC_bit (w h : Nat) (cs : List Pt) (x y : Int) : bitS (shC w h cs) x y = (decide (inF w h (x, y)) && decide ((x, y) ∈ cs)) := by
  unfold shC
  rw [sheetB_bit]
  congr 1
theorem gTp_pt {t : TDGs} {c : Pt} {η : DEnv} {μ : Mu} {q : DEnv → Mu → Prop} : gTp 2 t (.dat (ptD c)) η μ q = t [.int c.1, .int c.2] η μ q := by
  unfold ptD
  rw [x_gTp]
  simp
theorem noDs_pt (cs : List Pt) : noDs (cs.map ptD) = true := noDs_map enc_pt.nod cs

def andS (a b : List Nat) : List Nat := List.zipWith (fun x y => x &&& y) a b
def notS (a b : List Nat) : List Nat := List.zipWith (fun x y => x - (x &&& y)) a b
theorem bandn {a b : Nat} : Builtin.bitAnd (a : Int) (Builtin.bitNot (b : Int)) = ((a - (a &&& b) : Nat) : Int) := by
  rw [PyProof.Rows.bitAnd_not, band]
  have := @Nat.and_le_left a b
  omega
def sp_common : SpD := fun es μ q x => ∃ (a : List Nat) (b : List Nat), es = [.dat (shD a), .dat (shD b)] ∧ (a.length = b.length ∧ a.length ≤ 1000 ∧ q (.dat (shD (andS a b))) μ)
theorem e_common {a : List Nat} {b : List Nat} {μ : Mu} {q : PQ} {x : XQ} : sp_common [.dat (shD a), .dat (shD b)] μ q x = (a.length = b.length ∧ a.length ≤ 1000 ∧ q (.dat (shD (andS a b))) μ) := by
  refine propext ⟨fun hyp0 => ?_, fun hyp0 => ⟨a, b, rfl, hyp0⟩⟩
  obtain ⟨a', b', eq0, hyp0⟩ := hyp0
  simp only [List.cons.injEq, Exn.mk.injEq, EV.dat.injEq, EV.loc.injEq, EV.new.injEq, EV.ro.injEq, EV.exc.injEq, PyData.int.injEq, PyData.str.injEq, PyData.bool.injEq, PyData.list.injEq, PyData.tuple.injEq, and_true, true_and, and_assoc, map_int_inj, shD_inj] at eq0
  obtain ⟨rfl, rfl⟩ := eq0
  exact hyp0
theorem ok_common (T : Top K mg) : DefAt P w K mg base "common" 1 ["one", "other"] [] [] sp_common := by
  refine def_ok sp_common T.F_common sc_common T.m_common T.b_common (fun cdv A outer s H E hr tk pw => (dss_one (ds_ret (de_callTy call_tuple_of cs_tuple (by rfl) T.n_tuple bt_tuple (da_cons (de_lc (own := [("row", 2), ("more", 3)]) rfl sc_common.nd (di_zip (by rfl) T.n_zip (da_cons (de_stl (dv 0)) (da_cons (de_stl (dv 1)) da_nil))) (blkOk_by (N := ["one", "other", "row", "more"]) (sc := defScope s_common) (by decide +kernel)) (by decide) (fun _ _ _ _ _ => (dg_tup (n := 2) rfl (dgs_cons (dg_name (i := 2) sc_common.nd rfl (by first | exact Or.inl rfl | exact Or.inr rfl)) (dgs_cons (dg_name (i := 3) sc_common.nd rfl (by first | exact Or.inl rfl | exact Or.inr rfl)) dgs_nil)))) (fun _ _ _ _ _ => dts_nil) (fun _ _ _ _ _ => (de_op op_and os_and (dv 2) (dv 3)))) da_nil))))) ?_
  rintro es μ q x - ⟨a, b, rfl, hl, hz, h⟩
  simp only [shD_eq]
  walk_at "run"
  refine ⟨hl, ?_⟩
  rw [zipW]
  refine lc_mapD (f := ?f) (by simp; omega) trivial (fun p K hp hK => ?e) ?_
  case e => (try walk_at "dx"); rw [band]; exact hK
  (try walk_at "dx")
  have e : ((a.zip b).map fun p : Nat × Nat => PyData.int ((p.1 &&& p.2 : Nat) : Int)) = (andS a b).map fun n : Nat => .int (n : Int) := by
    rw [List.map_zip_eq_zipWith, andS, List.map_zipWith]
    rfl
  rw [e]
  exact h

def sp_without : SpD := fun es μ q x => ∃ (a : List Nat) (b : List Nat), es = [.dat (shD a), .dat (shD b)] ∧ (a.length = b.length ∧ a.length ≤ 1000 ∧ q (.dat (shD (notS a b))) μ)
theorem e_without {a : List Nat} {b : List Nat} {μ : Mu} {q : PQ} {x : XQ} : sp_without [.dat (shD a), .dat (shD b)] μ q x = (a.length = b.length ∧ a.length ≤ 1000 ∧ q (.dat (shD (notS a b))) μ) := by
  refine propext ⟨fun hyp0 => ?_, fun hyp0 => ⟨a, b, rfl, hyp0⟩⟩
  obtain ⟨a', b', eq0, hyp0⟩ := hyp0
  simp only [List.cons.injEq, Exn.mk.injEq, EV.dat.injEq, EV.loc.injEq, EV.new.injEq, EV.ro.injEq, EV.exc.injEq, PyData.int.injEq, PyData.str.injEq, PyData.bool.injEq, PyData.list.injEq, PyData.tuple.injEq, and_true, true_and, and_assoc, map_int_inj, shD_inj] at eq0
  obtain ⟨rfl, rfl⟩ := eq0
  exact hyp0
theorem ok_without (T : Top K mg) : DefAt P w K mg base "without" 1 ["one", "other"] [] [] sp_without := by
  refine def_ok sp_without T.F_without sc_without T.m_without T.b_without (fun cdv A outer s H E hr tk pw => (dss_one (ds_ret (de_callTy call_tuple_of cs_tuple (by rfl) T.n_tuple bt_tuple (da_cons (de_lc (own := [("row", 2), ("more", 3)]) rfl sc_without.nd (di_zip (by rfl) T.n_zip (da_cons (de_stl (dv 0)) (da_cons (de_stl (dv 1)) da_nil))) (blkOk_by (N := ["one", "other", "row", "more"]) (sc := defScope s_without) (by decide +kernel)) (by decide) (fun _ _ _ _ _ => (dg_tup (n := 2) rfl (dgs_cons (dg_name (i := 2) sc_without.nd rfl (by first | exact Or.inl rfl | exact Or.inr rfl)) (dgs_cons (dg_name (i := 3) sc_without.nd rfl (by first | exact Or.inl rfl | exact Or.inr rfl)) dgs_nil)))) (fun _ _ _ _ _ => dts_nil) (fun _ _ _ _ _ => (de_op op_and os_and (dv 2) (de_un un_inv us_inv (dv 3))))) da_nil))))) ?_
  rintro es μ q x - ⟨a, b, rfl, hl, hz, h⟩
  simp only [shD_eq]
  walk_at "run"
  refine ⟨hl, ?_⟩
  rw [zipW]
  refine lc_mapD (f := ?f) (by simp; omega) trivial (fun p K hp hK => ?e) ?_
  case e => (try walk_at "dx"); rw [bandn]; exact hK
  (try walk_at "dx")
  have e : ((a.zip b).map fun p : Nat × Nat => PyData.int ((p.1 - (p.1 &&& p.2) : Nat) : Int)) = (notS a b).map fun n : Nat => .int (n : Int) := by
    rw [List.map_zip_eq_zipWith, notS, List.map_zipWith]
    rfl
  rw [e]
  exact h

local macro_rules | `(tactic| walk_at "dx") => `(tactic| simp (disch := first | assumption | omega) only [↓e_joined, ↓e_moved, ↓e_common, ↓e_without, ↓ix_sz, ↓gTp_pt, ↓dVar_0, ↓dVar_1, ↓dVar_2, ↓dVar_3, ↓dVar_4, ↓dVar_5, ↓dVar_6, ↓dVar_7, ↓dVar_8, ↓dVar_9, ↓dVar_10, ↓dVar_11, ↓dVar_12, ↓dVar_13, ↓dVar_14, ↓dVar_15, ↓old_dat, ↓old_loc, ↓old_raw, ↓old_exc, ↓old_ro, ↓wDs_nil, ↓wDs_cons, ↓x_dC, ↓x_dRaw, ↓x_dFrz, ↓x_dCell, ↓x_dStl, ↓x_aNil, ↓x_aCons, ↓x_dLst, ↓x_dTup, ↓x_tVal, ↓x_tAndD, ↓x_tOrD, ↓x_tNotD, ↓x_tYesD, ↓x_dAndV, ↓x_dOrV, ↓x_dNotV, ↓x_dIfE, ↓x_dOp, ↓x_dUn, ↓x_dCB, ↓x_dChain, ↓intK_i, ↓x_oNo, ↓x_oSome, ↓x_dSl, ↓x_gNm, ↓x_gNl0, ↓x_gCn, ↓x_gTp, ↓x_gSb, ↓x_dCall, ↓seqK_tup, ↓seqK_lst, ↓seqK_new, ↓seqK_ro, ↓seqK_str, ↓rng1_i, ↓rng2_i, ↓x_iSeq, ↓x_iRange1, ↓x_iRange2, ↓x_dBM, ↓x_dBM0, ↓x_isStr, ↓bools_k, ↓ints_k, ↓strs_k, ↓lstK_lst, ↓lstK_new, ↓sqK_lst, ↓sqK_new, ↓sqK_tup, ↓sqK_ro, ↓x_oAll, ↓x_oSum, ↓x_oJoin, ↓x_oList, ↓x_oTuple, ↓x_oIsN, ↓x_oNotN, ↓x_lc, ↓int_i, ↓int_b, ↓mem_l, ↓mem_t, ↓mem_n, ↓x_srtS, ↓mul_ni, ↓mul_li, ↓wD_dat, ↓wD_new, ↓wB_b, ↓nN_dat, ↓nN_loc, ↓nN_raw, ↓nN_ro, ↓nN_exc, ↓aO_nil, ↓aO_cons, ↓stl_dat, ↓stl_new, ↓stl_loc, ↓stl_raw, ↓stl_ro, ↓stl_exc, ↓cel_dat, ↓cel_new, ↓cel_loc, ↓cel_raw, ↓cel_ro, ↓add_int, ↓add_strD, ↓add_tup, ↓add_ll, ↓add_ln, ↓add_nl, ↓add_nn, ↓oI_ii, ↓oI0_ii, ↓neg_i, ↓inv_i, ↓mul_int, ↓eq_dd, ↓ne_dd, ↓eq_nd, ↓ne_nd, ↓eq_dn, ↓ne_dn, ↓eq_nn, ↓ne_nn, ↓sign_ss, ↓ix_s, ↓ix_tupD, ↓ix_lstD, ↓ix_new, ↓ix_ro, ↓sl_s, ↓sl_tupD, ↓sl_lstD, ↓sl_new, ↓sl_ro, ↓len_str, ↓len_tup, ↓len_lst, ↓len_new, ↓len_ro, ↓max_ii, ↓min_ii, ↓isi_int, ↓isi_bool, ↓isi_str, ↓isi_list, ↓isi_tuple, ↓isi_dict, ↓exitQ_dat, ↓exitQ_new, ↓exitQ_raw, ↓cl_nil, ↓cl_none, ↓cl_dat, ↓cl_ro, ↓cl_raw, ↓cl_odat, ↓dVar_16, ↓dVar_17, ↓dVar_18, ↓dVar_19, ↓dVar_20, ↓dVar_21, ↓dVar_22, ↓dVar_23, ↓dVar_24, ↓dVar_25, ↓dVar_26, ↓dVar_27, ↓dVar_28, ↓dVar_29, ↓dVar_30, ↓dVar_31, ↓dVar_32, ↓dVar_33, ↓dVar_34, ↓dVar_35, ↓noD_n, ↓noD_b, ↓noD_i, ↓noD_s, ↓noD_l, ↓noD_t, ↓noDs_nil, ↓noDs_cons, ↓noDs_app, ↓noDs_i, ↓noDs_s, ↓noDs_b, ↓exC_k, ↓isIntD_none, ↓isIntD_bool, ↓isIntD_int, ↓isIntD_str, ↓isIntD_list, ↓isIntD_tuple, ↓isIntD_dict, ↓isBoolD_none, ↓isBoolD_bool, ↓isBoolD_int, ↓isBoolD_str, ↓isBoolD_list, ↓isBoolD_tuple, ↓isBoolD_dict, ↓isStrD_none, ↓isStrD_bool, ↓isStrD_int, ↓isStrD_str, ↓isStrD_list, ↓isStrD_tuple, ↓isStrD_dict, ↓isListD_none, ↓isListD_bool, ↓isListD_int, ↓isListD_str, ↓isListD_list, ↓isListD_tuple, ↓isListD_dict, ↓isTupD_none, ↓isTupD_bool, ↓isTupD_int, ↓isTupD_str, ↓isTupD_list, ↓isTupD_tuple, ↓isTupD_dict, ↓isDictD_none, ↓isDictD_bool, ↓isDictD_int, ↓isDictD_str, ↓isDictD_list, ↓isDictD_tuple, ↓isDictD_dict, ↓neg_i2, ↓inv_i2, ↓x_iSeqD, ↓seqDK_d, ↓seqDK_t, ↓seqDK_l, ↓seqDK_s, ↓seqDK_n, ↓seqDK_r, ↓seqDK_c, ↓x_iZipD, ↓zipK_t, ↓zipK_l, ↓x_dNewD, ↓lcD_d, ↓keysK_nil, ↓keysK_i, ↓keysK_s, ↓keysP_nil, ↓keysP_i, ↓keysP_s, ↓c_setD, ↓memA_dict, ↓memA_l, ↓memA_t, ↓memA_n, ↓c_memA, ↓memC_d, ↓memC_l, ↓memC_f, ↓cell_nd, ↓cell_nk, ↓stl_nd, ↓stl_nk, ↓ex_nd, ↓ex_nk, ↓x_dCellA, ↓cellA_new, ↓nextA_eq, ↓stateA_eq, ↓cellA_eq, ↓fg_nil, ↓fg_cons, ↓lcR_l, ↓lcR_f, ↓lcK_l, ↓c_len, ↓c_ix, ↓c_ixC, ↓c_app, ↓c_set, ↓c_isL, ↓c_lstK, ↓c_sqK, ↓c_mem, ↓c_addn, ↓c_addl, ↓c_sl, ↓c_seqK, ↓seqC_l, ↓seqC_f, ↓c_wD, ↓wdC_l, ↓wdC_f, ↓exC_l, ↓exC_f, ↓exC_d, ↓cellK_new, ↓cellK_dat, ↓cellK_loc, ↓get_a0, ↓get_a1, ↓get_a2, ↓get_a3, ↓set_a0, ↓set_a1, ↓set_a2, ↓set_a3, ↓lnD_str, ↓lnD_tup, ↓lnD_lst, ↓lnD_new, ↓lnD_ro, ↓lnD_d, ↓c_lenD, ↓lnC_d, ↓lnC_k, ↓lnC_l, ↓lnC_f, ↓eq_cN, ↓eq_cD, ↓eq_Nc, ↓eq_Dc, ↓ne_cN, ↓ne_cD, ↓ne_Nc, ↓ne_Dc, ↓x_iEnumD, ↓enumK_t, ↓enumK_l, ↓enumK_r, ↓enumK_tk, ↓enumK_lk, ↓srt_d, ↓srt_l, ↓srt_n, ↓c_srt, ↓srtC_l, ↓srtC_f, ↓srtC_d, ↓lsA_t, ↓lsA_l, ↓lsA_n, ↓lsA_r, ↓c_lsA, ↓c_isi_list, ↓c_isi_dict, ↓c_isi_tuple, ↓isiB_l, ↓isiB_f, ↓isiB_d, ↓isiB_k, ↓isi_n_list, ↓isi_n_tuple, ↓x_dListIt, ↓litK_d, ↓augK_s, ↓iadd_ii, ↓c_iaddn, ↓c_iaddl, ↓abs_i, ↓x_dRevL, ↓revK_n, ↓revK_l, ↓cnt_n, ↓cnt_l, ↓idx_l, ↓isLst_l, ↓isLst_n, ↓c_pop, ↓c_popD, ↓c_isD, ↓lcD2_d, ↓lcD2_k, ↓tk_0, ↓tk_a0, ↓tk_a1, ↓tk_a2, ↓tk_a3, ↓tk_a4, dVar_0, dVar_1, dVar_2, dVar_3, dVar_4, dVar_5, dVar_6, dVar_7, dVar_8, dVar_9, dVar_10, dVar_11, dVar_12, dVar_13, dVar_14, dVar_15, old_dat, old_loc, old_raw, old_exc, old_ro, wDs_nil, wDs_cons, x_dC, x_dRaw, x_dFrz, x_dCell, x_dStl, x_aNil, x_aCons, x_dLst, x_dTup, x_tVal, x_tAndD, x_tOrD, x_tNotD, x_tYesD, x_dAndV, x_dOrV, x_dNotV, x_dIfE, x_dOp, x_dUn, x_dCB, x_dChain, intK_i, x_oNo, x_oSome, x_dSl, x_gNm, x_gNl0, x_gCn, x_gTp, x_gSb, x_dCall, seqK_tup, seqK_lst, seqK_new, seqK_ro, seqK_str, rng1_i, rng2_i, x_iSeq, x_iRange1, x_iRange2, x_dBM, x_dBM0, x_isStr, bools_k, ints_k, strs_k, lstK_lst, lstK_new, sqK_lst, sqK_new, sqK_tup, sqK_ro, x_oAll, x_oSum, x_oJoin, x_oList, x_oTuple, x_oIsN, x_oNotN, x_lc, int_i, int_b, mem_l, mem_t, mem_n, x_srtS, mul_ni, mul_li, wD_dat, wD_new, wB_b, nN_dat, nN_loc, nN_raw, nN_ro, nN_exc, aO_nil, aO_cons, stl_dat, stl_new, stl_loc, stl_raw, stl_ro, stl_exc, cel_dat, cel_new, cel_loc, cel_raw, cel_ro, add_int, add_strD, add_tup, add_ll, add_ln, add_nl, add_nn, oI_ii, oI0_ii, neg_i, inv_i, mul_int, eq_dd, ne_dd, eq_nd, ne_nd, eq_dn, ne_dn, eq_nn, ne_nn, sign_ss, ix_s, ix_tupD, ix_lstD, ix_new, ix_ro, sl_s, sl_tupD, sl_lstD, sl_new, sl_ro, len_str, len_tup, len_lst, len_new, len_ro, max_ii, min_ii, isi_int, isi_bool, isi_str, isi_list, isi_tuple, isi_dict, exitQ_dat, exitQ_new, exitQ_raw, cl_nil, cl_none, cl_dat, cl_ro, cl_raw, cl_odat, dVar_16, dVar_17, dVar_18, dVar_19, dVar_20, dVar_21, dVar_22, dVar_23, dVar_24, dVar_25, dVar_26, dVar_27, dVar_28, dVar_29, dVar_30, dVar_31, dVar_32, dVar_33, dVar_34, dVar_35, noD_n, noD_b, noD_i, noD_s, noD_l, noD_t, noDs_nil, noDs_cons, noDs_app, noDs_i, noDs_s, noDs_b, exC_k, isIntD_none, isIntD_bool, isIntD_int, isIntD_str, isIntD_list, isIntD_tuple, isIntD_dict, isBoolD_none, isBoolD_bool, isBoolD_int, isBoolD_str, isBoolD_list, isBoolD_tuple, isBoolD_dict, isStrD_none, isStrD_bool, isStrD_int, isStrD_str, isStrD_list, isStrD_tuple, isStrD_dict, isListD_none, isListD_bool, isListD_int, isListD_str, isListD_list, isListD_tuple, isListD_dict, isTupD_none, isTupD_bool, isTupD_int, isTupD_str, isTupD_list, isTupD_tuple, isTupD_dict, isDictD_none, isDictD_bool, isDictD_int, isDictD_str, isDictD_list, isDictD_tuple, isDictD_dict, neg_i2, inv_i2, x_iSeqD, seqDK_d, seqDK_t, seqDK_l, seqDK_s, seqDK_n, seqDK_r, seqDK_c, x_iZipD, zipK_t, zipK_l, x_dNewD, lcD_d, keysK_nil, keysK_i, keysK_s, keysP_nil, keysP_i, keysP_s, c_setD, memA_dict, memA_l, memA_t, memA_n, c_memA, memC_d, memC_l, memC_f, cell_nd, cell_nk, stl_nd, stl_nk, ex_nd, ex_nk, x_dCellA, cellA_new, nextA_eq, stateA_eq, cellA_eq, fg_nil, fg_cons, lcR_l, lcR_f, lcK_l, c_len, c_ix, c_ixC, c_app, c_set, c_isL, c_lstK, c_sqK, c_mem, c_addn, c_addl, c_sl, c_seqK, seqC_l, seqC_f, c_wD, wdC_l, wdC_f, exC_l, exC_f, exC_d, cellK_new, cellK_dat, cellK_loc, get_a0, get_a1, get_a2, get_a3, set_a0, set_a1, set_a2, set_a3, lnD_str, lnD_tup, lnD_lst, lnD_new, lnD_ro, lnD_d, c_lenD, lnC_d, lnC_k, lnC_l, lnC_f, eq_cN, eq_cD, eq_Nc, eq_Dc, ne_cN, ne_cD, ne_Nc, ne_Dc, x_iEnumD, enumK_t, enumK_l, enumK_r, enumK_tk, enumK_lk, srt_d, srt_l, srt_n, c_srt, srtC_l, srtC_f, srtC_d, lsA_t, lsA_l, lsA_n, lsA_r, c_lsA, c_isi_list, c_isi_dict, c_isi_tuple, isiB_l, isiB_f, isiB_d, isiB_k, isi_n_list, isi_n_tuple, x_dListIt, litK_d, augK_s, iadd_ii, c_iaddn, c_iaddl, abs_i, x_dRevL, revK_n, revK_l, cnt_n, cnt_l, idx_l, isLst_l, isLst_n, c_pop, c_popD, c_isD, lcD2_d, lcD2_k, tk_0, tk_a0, tk_a1, tk_a2, tk_a3, tk_a4, isR_h, isR_app, isR_last, exitQ_ge, exitQ_lt, cl_loc, nle_h, nlt_h, ile_h, ilt_h, cmul_l, cmul_r, cdiv_h, cpow_h, csh_h, csh_0, oLt, oLe, oGt, oGe, oSub, oMod, oDiv, oPow, oShl, oShr, oAnd, oOr, oXor, isRaw, isNon, startD, List.length_map, decide_eq_true_eq, List.map_cons, List.map_nil, List.length_cons, List.length_nil, List.cons_append, List.nil_append, List.append_nil, List.replicate, List.getElem?_cons_zero, List.getElem?_cons_succ, List.set_cons_zero, List.set_cons_succ, List.take_length, true_and, and_true, eqv_int, eqv_bool, eqv_str, dep_int, dep_bool, dep_str, dep_none, min0l, min0r, Option.map_some, Option.map_none, if_true, if_false, Bool.and_true, Bool.true_and, Bool.false_eq_true, Bool.not_true, Bool.not_false, reduceIte, wipeD, List.append_assoc, at_nn, Option.some.injEq, exists_eq_left, exists_eq_left', Int.reduceToNat, Int.reduceLE, Int.reduceLT, List.length_set, Nat.reduceAdd, Nat.reduceLeDiff, Nat.reduceSub, dat_dat, dat_new, lst_lst, lst_new, seq_tup, seq_lst, seq_new, seq_ro, List.length_append, Nat.zero_add, eqv_tup, eqv_lst, eqvA_nn, eqvA_cc, eqvA_nc, eqvA_cn, dep_tup, dep_lst, depA_nil, depA_cons, Nat.max_zero, Nat.zero_max, Nat.lt_add_one, forall_const, oShlA, rng_c, Int.toNat_natCast, List.flatten_nil, decide_true, decide_false])
/-! ### the cells of a sheet, in rows -/
/-- the bits of a number, from a place on -/
def bl (n x : Nat) : List Nat := if h : n = 0 then [] else (if n % 2 = 1 then [x] else []) ++ bl (n / 2) (x + 1)
termination_by n
decreasing_by omega
theorem bl_0 (x : Nat) : bl 0 x = [] := by unfold bl; simp
theorem bl_s {n x : Nat} (h : 0 < n) : bl n x = (if n % 2 = 1 then [x] else []) ++ bl (n / 2) (x + 1) := by
  rw [bl, dif_neg (by omega)]
theorem mem_bl (n : Nat) : ∀ x y, y ∈ bl n x ↔ x ≤ y ∧ n.testBit (y - x) = true := by
  induction n using Nat.strongRecOn with
  | _ n ih =>
    intro x y
    by_cases h : n = 0
    · subst h
      simp [bl_0]
    · rw [bl_s (by omega), List.mem_append, ih (n / 2) (by omega)]
      by_cases e : y = x
      · subst e
        rw [Nat.sub_self, Nat.testBit_zero]
        by_cases h1 : n % 2 = 1
        · simp [h1]
        · simp [h1]; omega
      · by_cases hx : x + 1 ≤ y
        · have e2 : y - x = (y - (x + 1)) + 1 := by omega
          rw [e2, Nat.testBit_add_one]
          constructor
          · rintro (h1 | ⟨_, h1⟩)
            · split at h1
              · simp at h1; omega
              · simp at h1
            · exact ⟨by omega, h1⟩
          · rintro ⟨_, h1⟩
            exact .inr ⟨hx, h1⟩
        · constructor
          · rintro (h1 | ⟨h1, _⟩)
            · split at h1
              · simp at h1; omega
              · simp at h1
            · omega
          · rintro ⟨h1, _⟩
            omega
theorem bl_rise (n : Nat) : ∀ x, (bl n x).Pairwise (· < ·) := by
  induction n using Nat.strongRecOn with
  | _ n ih =>
    intro x
    by_cases h : n = 0
    · subst h; simp [bl_0]
    · rw [bl_s (by omega)]
      split
      · rw [List.singleton_append, List.pairwise_cons]
        exact ⟨fun y hy => by have := ((mem_bl _ _ _).mp hy).1; omega, ih (n / 2) (by omega) _⟩
      · exact ih (n / 2) (by omega) _
theorem bl_len_le (n : Nat) : ∀ x, (bl n x).length ≤ n := by
  induction n using Nat.strongRecOn with
  | _ n ih =>
    intro x
    by_cases h : n = 0
    · subst h; simp [bl_0]
    · rw [bl_s (by omega), List.length_append]
      have := ih (n / 2) (by omega) (x + 1)
      split
      · simp only [List.length_singleton]; omega
      · simp only [List.length_nil]; omega
theorem bl_len_w {n w : Nat} (h : n < 2 ^ w) : ∀ x, (bl n x).length ≤ w := by
  induction w generalizing n with
  | zero =>
    intro x
    have : n = 0 := by simpa using h
    subst this
    simp [bl_0]
  | succ w ih =>
    intro x
    by_cases h0 : n = 0
    · subst h0; simp [bl_0]
    · rw [bl_s (by omega), List.length_append]
      have := ih (n := n / 2) (by rw [Nat.pow_succ] at h; omega) (x + 1)
      split
      · simp only [List.length_singleton]; omega
      · simp only [List.length_nil]; omega
def rowC (y : Nat) (n : Nat) : List Pt := (bl n 0).map fun x : Nat => ((x : Int), (y : Int))
def cellsB (s : List Nat) : List Pt := s.zipIdx.flatMap fun p => rowC p.2 p.1
theorem mem_rowC {y n : Nat} {p : Pt} : p ∈ rowC y n ↔ 0 ≤ p.1 ∧ p.2 = y ∧ n.testBit p.1.toNat = true := by
  unfold rowC
  rw [List.mem_map]
  constructor
  · rintro ⟨x, hx, rfl⟩
    have := (mem_bl _ _ _).mp hx
    exact ⟨by simp only; omega, rfl, by simpa using this.2⟩
  · rintro ⟨h1, h2, h3⟩
    exact ⟨p.1.toNat, (mem_bl _ _ _).mpr ⟨by omega, by simpa using h3⟩, Prod.ext (by simp only; omega) h2.symm⟩
theorem mem_cellsB {s : List Nat} {p : Pt} : p ∈ cellsB s ↔ bitS s p.1 p.2 = true := by
  unfold cellsB
  rw [List.mem_flatMap]
  constructor
  · rintro ⟨⟨n, y⟩, hm, hp⟩
    obtain ⟨h1, h2, h3⟩ := mem_rowC.mp hp
    have hg := List.mem_zipIdx' hm
    simp only at h2 h3 hg
    unfold bitS
    rw [Bool.and_eq_true, decide_eq_true_eq]
    refine ⟨⟨h1, by omega⟩, ?_⟩
    rw [h2, Int.toNat_natCast, List.getElem?_eq_getElem hg.1, Option.getD_some, ← hg.2]
    exact h3
  · intro hb
    unfold bitS at hb
    rw [Bool.and_eq_true, decide_eq_true_eq] at hb
    obtain ⟨⟨h1, h2⟩, h3⟩ := hb
    by_cases hy : p.2.toNat < s.length
    · rw [List.getElem?_eq_getElem hy, Option.getD_some] at h3
      refine ⟨(s[p.2.toNat], p.2.toNat), ?_, mem_rowC.mpr ⟨h1, by simp only; omega, h3⟩⟩
      rw [List.mem_iff_getElem?]
      exact ⟨p.2.toNat, by rw [List.getElem?_zipIdx, List.getElem?_eq_getElem hy]; simp⟩
    · rw [List.getElem?_eq_none (by omega)] at h3
      simp at h3
theorem nodup_rowC (y n : Nat) : (rowC y n).Nodup := by
  unfold rowC
  rw [List.Nodup, List.pairwise_map]
  refine (bl_rise n 0).imp fun {a b} h e => ?_
  have := congrArg Prod.fst e
  simp only at this
  omega
theorem nodup_cellsB (s : List Nat) : (cellsB s).Nodup := by
  unfold cellsB
  rw [List.Nodup, List.pairwise_flatMap]
  refine ⟨fun p _ => nodup_rowC _ _, ?_⟩
  rw [List.pairwise_iff_getElem]
  intro i j hi hj hij p hp q hq e
  subst e
  have h1 := (mem_rowC.mp hp).2.1
  have h2 := (mem_rowC.mp hq).2.1
  simp only [List.getElem_zipIdx] at h1 h2
  omega
theorem cellsB_perm {s : List Nat} {cs : List Pt} (hn : cs.Nodup) (hm : ∀ p : Pt, bitS s p.1 p.2 = true ↔ p ∈ cs) : (cellsB s).Perm cs :=
  (List.perm_ext_iff_of_nodup (nodup_cellsB s) hn).mpr fun p => mem_cellsB.trans (hm p)
theorem leP_trans (a b c : Pt) (h1 : leP a b = true) (h2 : leP b c = true) : leP a c = true := by
  unfold leP at *
  rw [decide_eq_true_eq] at *
  omega
theorem leP_total (a b : Pt) : (leP a b || leP b a) = true := by
  unfold leP
  rw [Bool.or_eq_true, decide_eq_true_eq, decide_eq_true_eq]
  omega
theorem leP_anti {a b : Pt} (h1 : leP a b = true) (h2 : leP b a = true) : a = b := by
  unfold leP at *
  rw [decide_eq_true_eq] at *
  exact Prod.ext (by omega) (by omega)
theorem sort_perm {as bs : List Pt} (h : as.Perm bs) : as.mergeSort leP = bs.mergeSort leP :=
  List.Perm.eq_of_pairwise (fun a b _ _ h1 h2 => leP_anti h1 h2) (List.pairwise_mergeSort leP_trans leP_total as) (List.pairwise_mergeSort leP_trans leP_total bs)
    ((List.mergeSort_perm as leP).trans (h.trans (List.mergeSort_perm bs leP).symm))
theorem cellsB_append (s : List Nat) (r : Nat) : cellsB (s ++ [r]) = cellsB s ++ rowC s.length r := by
  unfold cellsB
  rw [List.zipIdx_append, List.flatMap_append]
  simp
theorem cellsB_len {w : Nat} {s : List Nat} (h : okS w s) : (cellsB s).length ≤ s.length * w := by
  unfold cellsB
  have key : ∀ (s : List Nat) (k : Nat), okS w s → ((s.zipIdx k).flatMap fun p => rowC p.2 p.1).length ≤ s.length * w := fun s => by
    induction s with
    | nil => intro k _; simp
    | cons r s ih =>
      intro k h
      rw [List.zipIdx_cons, List.flatMap_cons, List.length_append, List.length_cons, Nat.succ_mul]
      have h1 := ih (k + 1) fun x hx => h x (by simp [hx])
      have h2 := bl_len_w (h r (by simp)) 0
      have h3 : (rowC k r).length = (bl r 0).length := by unfold rowC; rw [List.length_map]
      simp only
      omega
  exact key s 0 h
theorem enumK_sh {r : RI} {s : List Nat} {μ : Mu} : enumK r [.dat (shD s)] μ = r (s.zipIdx.map fun p => EV.dat (.tuple [.int (0 + (p.2 : Nat)), .int (p.1 : Nat)])) (fun _ => True) μ := by
  unfold shD
  rw [enumK_t, enumE_map]
theorem low_bit (n : Nat) (h : 0 < n) : ∀ x, (bl (n &&& (n - 1)) x).length + 1 = (bl n x).length := by
  induction n using Nat.strongRecOn with
  | _ n ih =>
    intro x
    by_cases h1 : n % 2 = 1
    · have e1 : (n &&& (n - 1)) / 2 = n / 2 := by rw [Nat.and_div_two, show (n - 1) / 2 = n / 2 by omega, Nat.and_self]
      have e2 : (n &&& (n - 1)) % 2 = 0 := by
        have := @Nat.testBit_and n (n - 1) 0
        rw [Nat.testBit_zero, Nat.testBit_zero, Nat.testBit_zero, h1, show (n - 1) % 2 = 0 by omega] at this
        have h3 : decide ((n &&& (n - 1)) % 2 = 1) = false := by rw [this]; rfl
        have := of_decide_eq_false h3
        omega
      rw [bl_s h, if_pos h1]
      by_cases h0 : n &&& (n - 1) = 0
      · rw [h0] at e1 ⊢
        rw [show n / 2 = 0 by omega, bl_0, bl_0]
        rfl
      · rw [bl_s (by omega : 0 < n &&& (n - 1)), e1, if_neg (by omega), List.length_append, List.length_append]
        simp only [List.length_nil, List.length_singleton]
        omega
    · have ih2 := ih (n / 2) (by omega) (by omega) (x + 1)
      have e1 : (n &&& (n - 1)) / 2 = n / 2 &&& (n / 2 - 1) := by rw [Nat.and_div_two, show (n - 1) / 2 = n / 2 - 1 by omega]
      have e2 : (n &&& (n - 1)) % 2 = 0 := by
        have := @Nat.testBit_and n (n - 1) 0
        rw [Nat.testBit_zero, Nat.testBit_zero, Nat.testBit_zero, show n % 2 = 0 by omega] at this
        have h3 : decide ((n &&& (n - 1)) % 2 = 1) = false := by rw [this]; rfl
        have := of_decide_eq_false h3
        omega
      rw [bl_s h, if_neg h1, List.nil_append, ← ih2, ← e1]
      by_cases h0 : n &&& (n - 1) = 0
      · rw [h0, bl_0, bl_0]
      · rw [bl_s (by omega : 0 < n &&& (n - 1)), if_neg (by omega), List.nil_append]

local macro_rules | `(tactic| walk_at "dx") => `(tactic| simp (disch := first | assumption | omega) only [↓e_joined, ↓e_moved, ↓e_common, ↓e_without, ↓ix_sz, ↓gTp_pt, ↓enumK_sh, ↓dVar_0, ↓dVar_1, ↓dVar_2, ↓dVar_3, ↓dVar_4, ↓dVar_5, ↓dVar_6, ↓dVar_7, ↓dVar_8, ↓dVar_9, ↓dVar_10, ↓dVar_11, ↓dVar_12, ↓dVar_13, ↓dVar_14, ↓dVar_15, ↓old_dat, ↓old_loc, ↓old_raw, ↓old_exc, ↓old_ro, ↓wDs_nil, ↓wDs_cons, ↓x_dC, ↓x_dRaw, ↓x_dFrz, ↓x_dCell, ↓x_dStl, ↓x_aNil, ↓x_aCons, ↓x_dLst, ↓x_dTup, ↓x_tVal, ↓x_tAndD, ↓x_tOrD, ↓x_tNotD, ↓x_tYesD, ↓x_dAndV, ↓x_dOrV, ↓x_dNotV, ↓x_dIfE, ↓x_dOp, ↓x_dUn, ↓x_dCB, ↓x_dChain, ↓intK_i, ↓x_oNo, ↓x_oSome, ↓x_dSl, ↓x_gNm, ↓x_gNl0, ↓x_gCn, ↓x_gTp, ↓x_gSb, ↓x_dCall, ↓seqK_tup, ↓seqK_lst, ↓seqK_new, ↓seqK_ro, ↓seqK_str, ↓rng1_i, ↓rng2_i, ↓x_iSeq, ↓x_iRange1, ↓x_iRange2, ↓x_dBM, ↓x_dBM0, ↓x_isStr, ↓bools_k, ↓ints_k, ↓strs_k, ↓lstK_lst, ↓lstK_new, ↓sqK_lst, ↓sqK_new, ↓sqK_tup, ↓sqK_ro, ↓x_oAll, ↓x_oSum, ↓x_oJoin, ↓x_oList, ↓x_oTuple, ↓x_oIsN, ↓x_oNotN, ↓x_lc, ↓int_i, ↓int_b, ↓mem_l, ↓mem_t, ↓mem_n, ↓x_srtS, ↓mul_ni, ↓mul_li, ↓wD_dat, ↓wD_new, ↓wB_b, ↓nN_dat, ↓nN_loc, ↓nN_raw, ↓nN_ro, ↓nN_exc, ↓aO_nil, ↓aO_cons, ↓stl_dat, ↓stl_new, ↓stl_loc, ↓stl_raw, ↓stl_ro, ↓stl_exc, ↓cel_dat, ↓cel_new, ↓cel_loc, ↓cel_raw, ↓cel_ro, ↓add_int, ↓add_strD, ↓add_tup, ↓add_ll, ↓add_ln, ↓add_nl, ↓add_nn, ↓oI_ii, ↓oI0_ii, ↓neg_i, ↓inv_i, ↓mul_int, ↓eq_dd, ↓ne_dd, ↓eq_nd, ↓ne_nd, ↓eq_dn, ↓ne_dn, ↓eq_nn, ↓ne_nn, ↓sign_ss, ↓ix_s, ↓ix_tupD, ↓ix_lstD, ↓ix_new, ↓ix_ro, ↓sl_s, ↓sl_tupD, ↓sl_lstD, ↓sl_new, ↓sl_ro, ↓len_str, ↓len_tup, ↓len_lst, ↓len_new, ↓len_ro, ↓max_ii, ↓min_ii, ↓isi_int, ↓isi_bool, ↓isi_str, ↓isi_list, ↓isi_tuple, ↓isi_dict, ↓exitQ_dat, ↓exitQ_new, ↓exitQ_raw, ↓cl_nil, ↓cl_none, ↓cl_dat, ↓cl_ro, ↓cl_raw, ↓cl_odat, ↓dVar_16, ↓dVar_17, ↓dVar_18, ↓dVar_19, ↓dVar_20, ↓dVar_21, ↓dVar_22, ↓dVar_23, ↓dVar_24, ↓dVar_25, ↓dVar_26, ↓dVar_27, ↓dVar_28, ↓dVar_29, ↓dVar_30, ↓dVar_31, ↓dVar_32, ↓dVar_33, ↓dVar_34, ↓dVar_35, ↓noD_n, ↓noD_b, ↓noD_i, ↓noD_s, ↓noD_l, ↓noD_t, ↓noDs_nil, ↓noDs_cons, ↓noDs_app, ↓noDs_i, ↓noDs_s, ↓noDs_b, ↓exC_k, ↓isIntD_none, ↓isIntD_bool, ↓isIntD_int, ↓isIntD_str, ↓isIntD_list, ↓isIntD_tuple, ↓isIntD_dict, ↓isBoolD_none, ↓isBoolD_bool, ↓isBoolD_int, ↓isBoolD_str, ↓isBoolD_list, ↓isBoolD_tuple, ↓isBoolD_dict, ↓isStrD_none, ↓isStrD_bool, ↓isStrD_int, ↓isStrD_str, ↓isStrD_list, ↓isStrD_tuple, ↓isStrD_dict, ↓isListD_none, ↓isListD_bool, ↓isListD_int, ↓isListD_str, ↓isListD_list, ↓isListD_tuple, ↓isListD_dict, ↓isTupD_none, ↓isTupD_bool, ↓isTupD_int, ↓isTupD_str, ↓isTupD_list, ↓isTupD_tuple, ↓isTupD_dict, ↓isDictD_none, ↓isDictD_bool, ↓isDictD_int, ↓isDictD_str, ↓isDictD_list, ↓isDictD_tuple, ↓isDictD_dict, ↓neg_i2, ↓inv_i2, ↓x_iSeqD, ↓seqDK_d, ↓seqDK_t, ↓seqDK_l, ↓seqDK_s, ↓seqDK_n, ↓seqDK_r, ↓seqDK_c, ↓x_iZipD, ↓zipK_t, ↓zipK_l, ↓x_dNewD, ↓lcD_d, ↓keysK_nil, ↓keysK_i, ↓keysK_s, ↓keysP_nil, ↓keysP_i, ↓keysP_s, ↓c_setD, ↓memA_dict, ↓memA_l, ↓memA_t, ↓memA_n, ↓c_memA, ↓memC_d, ↓memC_l, ↓memC_f, ↓cell_nd, ↓cell_nk, ↓stl_nd, ↓stl_nk, ↓ex_nd, ↓ex_nk, ↓x_dCellA, ↓cellA_new, ↓nextA_eq, ↓stateA_eq, ↓cellA_eq, ↓fg_nil, ↓fg_cons, ↓lcR_l, ↓lcR_f, ↓lcK_l, ↓c_len, ↓c_ix, ↓c_ixC, ↓c_app, ↓c_set, ↓c_isL, ↓c_lstK, ↓c_sqK, ↓c_mem, ↓c_addn, ↓c_addl, ↓c_sl, ↓c_seqK, ↓seqC_l, ↓seqC_f, ↓c_wD, ↓wdC_l, ↓wdC_f, ↓exC_l, ↓exC_f, ↓exC_d, ↓cellK_new, ↓cellK_dat, ↓cellK_loc, ↓get_a0, ↓get_a1, ↓get_a2, ↓get_a3, ↓set_a0, ↓set_a1, ↓set_a2, ↓set_a3, ↓lnD_str, ↓lnD_tup, ↓lnD_lst, ↓lnD_new, ↓lnD_ro, ↓lnD_d, ↓c_lenD, ↓lnC_d, ↓lnC_k, ↓lnC_l, ↓lnC_f, ↓eq_cN, ↓eq_cD, ↓eq_Nc, ↓eq_Dc, ↓ne_cN, ↓ne_cD, ↓ne_Nc, ↓ne_Dc, ↓x_iEnumD, ↓enumK_t, ↓enumK_l, ↓enumK_r, ↓enumK_tk, ↓enumK_lk, ↓srt_d, ↓srt_l, ↓srt_n, ↓c_srt, ↓srtC_l, ↓srtC_f, ↓srtC_d, ↓lsA_t, ↓lsA_l, ↓lsA_n, ↓lsA_r, ↓c_lsA, ↓c_isi_list, ↓c_isi_dict, ↓c_isi_tuple, ↓isiB_l, ↓isiB_f, ↓isiB_d, ↓isiB_k, ↓isi_n_list, ↓isi_n_tuple, ↓x_dListIt, ↓litK_d, ↓augK_s, ↓iadd_ii, ↓c_iaddn, ↓c_iaddl, ↓abs_i, ↓x_dRevL, ↓revK_n, ↓revK_l, ↓cnt_n, ↓cnt_l, ↓idx_l, ↓isLst_l, ↓isLst_n, ↓c_pop, ↓c_popD, ↓c_isD, ↓lcD2_d, ↓lcD2_k, ↓tk_0, ↓tk_a0, ↓tk_a1, ↓tk_a2, ↓tk_a3, ↓tk_a4, dVar_0, dVar_1, dVar_2, dVar_3, dVar_4, dVar_5, dVar_6, dVar_7, dVar_8, dVar_9, dVar_10, dVar_11, dVar_12, dVar_13, dVar_14, dVar_15, old_dat, old_loc, old_raw, old_exc, old_ro, wDs_nil, wDs_cons, x_dC, x_dRaw, x_dFrz, x_dCell, x_dStl, x_aNil, x_aCons, x_dLst, x_dTup, x_tVal, x_tAndD, x_tOrD, x_tNotD, x_tYesD, x_dAndV, x_dOrV, x_dNotV, x_dIfE, x_dOp, x_dUn, x_dCB, x_dChain, intK_i, x_oNo, x_oSome, x_dSl, x_gNm, x_gNl0, x_gCn, x_gTp, x_gSb, x_dCall, seqK_tup, seqK_lst, seqK_new, seqK_ro, seqK_str, rng1_i, rng2_i, x_iSeq, x_iRange1, x_iRange2, x_dBM, x_dBM0, x_isStr, bools_k, ints_k, strs_k, lstK_lst, lstK_new, sqK_lst, sqK_new, sqK_tup, sqK_ro, x_oAll, x_oSum, x_oJoin, x_oList, x_oTuple, x_oIsN, x_oNotN, x_lc, int_i, int_b, mem_l, mem_t, mem_n, x_srtS, mul_ni, mul_li, wD_dat, wD_new, wB_b, nN_dat, nN_loc, nN_raw, nN_ro, nN_exc, aO_nil, aO_cons, stl_dat, stl_new, stl_loc, stl_raw, stl_ro, stl_exc, cel_dat, cel_new, cel_loc, cel_raw, cel_ro, add_int, add_strD, add_tup, add_ll, add_ln, add_nl, add_nn, oI_ii, oI0_ii, neg_i, inv_i, mul_int, eq_dd, ne_dd, eq_nd, ne_nd, eq_dn, ne_dn, eq_nn, ne_nn, sign_ss, ix_s, ix_tupD, ix_lstD, ix_new, ix_ro, sl_s, sl_tupD, sl_lstD, sl_new, sl_ro, len_str, len_tup, len_lst, len_new, len_ro, max_ii, min_ii, isi_int, isi_bool, isi_str, isi_list, isi_tuple, isi_dict, exitQ_dat, exitQ_new, exitQ_raw, cl_nil, cl_none, cl_dat, cl_ro, cl_raw, cl_odat, dVar_16, dVar_17, dVar_18, dVar_19, dVar_20, dVar_21, dVar_22, dVar_23, dVar_24, dVar_25, dVar_26, dVar_27, dVar_28, dVar_29, dVar_30, dVar_31, dVar_32, dVar_33, dVar_34, dVar_35, noD_n, noD_b, noD_i, noD_s, noD_l, noD_t, noDs_nil, noDs_cons, noDs_app, noDs_i, noDs_s, noDs_b, exC_k, isIntD_none, isIntD_bool, isIntD_int, isIntD_str, isIntD_list, isIntD_tuple, isIntD_dict, isBoolD_none, isBoolD_bool, isBoolD_int, isBoolD_str, isBoolD_list, isBoolD_tuple, isBoolD_dict, isStrD_none, isStrD_bool, isStrD_int, isStrD_str, isStrD_list, isStrD_tuple, isStrD_dict, isListD_none, isListD_bool, isListD_int, isListD_str, isListD_list, isListD_tuple, isListD_dict, isTupD_none, isTupD_bool, isTupD_int, isTupD_str, isTupD_list, isTupD_tuple, isTupD_dict, isDictD_none, isDictD_bool, isDictD_int, isDictD_str, isDictD_list, isDictD_tuple, isDictD_dict, neg_i2, inv_i2, x_iSeqD, seqDK_d, seqDK_t, seqDK_l, seqDK_s, seqDK_n, seqDK_r, seqDK_c, x_iZipD, zipK_t, zipK_l, x_dNewD, lcD_d, keysK_nil, keysK_i, keysK_s, keysP_nil, keysP_i, keysP_s, c_setD, memA_dict, memA_l, memA_t, memA_n, c_memA, memC_d, memC_l, memC_f, cell_nd, cell_nk, stl_nd, stl_nk, ex_nd, ex_nk, x_dCellA, cellA_new, nextA_eq, stateA_eq, cellA_eq, fg_nil, fg_cons, lcR_l, lcR_f, lcK_l, c_len, c_ix, c_ixC, c_app, c_set, c_isL, c_lstK, c_sqK, c_mem, c_addn, c_addl, c_sl, c_seqK, seqC_l, seqC_f, c_wD, wdC_l, wdC_f, exC_l, exC_f, exC_d, cellK_new, cellK_dat, cellK_loc, get_a0, get_a1, get_a2, get_a3, set_a0, set_a1, set_a2, set_a3, lnD_str, lnD_tup, lnD_lst, lnD_new, lnD_ro, lnD_d, c_lenD, lnC_d, lnC_k, lnC_l, lnC_f, eq_cN, eq_cD, eq_Nc, eq_Dc, ne_cN, ne_cD, ne_Nc, ne_Dc, x_iEnumD, enumK_t, enumK_l, enumK_r, enumK_tk, enumK_lk, srt_d, srt_l, srt_n, c_srt, srtC_l, srtC_f, srtC_d, lsA_t, lsA_l, lsA_n, lsA_r, c_lsA, c_isi_list, c_isi_dict, c_isi_tuple, isiB_l, isiB_f, isiB_d, isiB_k, isi_n_list, isi_n_tuple, x_dListIt, litK_d, augK_s, iadd_ii, c_iaddn, c_iaddl, abs_i, x_dRevL, revK_n, revK_l, cnt_n, cnt_l, idx_l, isLst_l, isLst_n, c_pop, c_popD, c_isD, lcD2_d, lcD2_k, tk_0, tk_a0, tk_a1, tk_a2, tk_a3, tk_a4, isR_h, isR_app, isR_last, exitQ_ge, exitQ_lt, cl_loc, nle_h, nlt_h, ile_h, ilt_h, cmul_l, cmul_r, cdiv_h, cpow_h, csh_h, csh_0, oLt, oLe, oGt, oGe, oSub, oMod, oDiv, oPow, oShl, oShr, oAnd, oOr, oXor, isRaw, isNon, startD, List.length_map, decide_eq_true_eq, List.map_cons, List.map_nil, List.length_cons, List.length_nil, List.cons_append, List.nil_append, List.append_nil, List.replicate, List.getElem?_cons_zero, List.getElem?_cons_succ, List.set_cons_zero, List.set_cons_succ, List.take_length, true_and, and_true, eqv_int, eqv_bool, eqv_str, dep_int, dep_bool, dep_str, dep_none, min0l, min0r, Option.map_some, Option.map_none, if_true, if_false, Bool.and_true, Bool.true_and, Bool.false_eq_true, Bool.not_true, Bool.not_false, reduceIte, wipeD, List.append_assoc, at_nn, Option.some.injEq, exists_eq_left, exists_eq_left', Int.reduceToNat, Int.reduceLE, Int.reduceLT, List.length_set, Nat.reduceAdd, Nat.reduceLeDiff, Nat.reduceSub, dat_dat, dat_new, lst_lst, lst_new, seq_tup, seq_lst, seq_new, seq_ro, List.length_append, Nat.zero_add, eqv_tup, eqv_lst, eqvA_nn, eqvA_cc, eqvA_nc, eqvA_cn, dep_tup, dep_lst, depA_nil, depA_cons, Nat.max_zero, Nat.zero_max, Nat.lt_add_one, forall_const, oShlA, rng_c, Int.toNat_natCast, List.flatten_nil, decide_true, decide_false])
theorem band1 (n : Nat) : Builtin.bitAnd (n : Int) 1 = ((n % 2 : Nat) : Int) := by
  rw [show (1 : Int) = ((1 : Nat) : Int) from rfl, band, Nat.and_one_is_mod]
theorem half (n : Nat) : (n : Int) / 2 ^ (1 : Nat) = ((n / 2 : Nat) : Int) := by omega
def sp_places : SpD := fun es μ q x => ∃ (s : List Nat), es = [.dat (shD s)] ∧ (okS 10 s ∧ s.length ≤ 10 ∧ q (.new (((cellsB s).mergeSort leP).map ptD)) μ)
theorem e_places {s : List Nat} {μ : Mu} {q : PQ} {x : XQ} : sp_places [.dat (shD s)] μ q x = (okS 10 s ∧ s.length ≤ 10 ∧ q (.new (((cellsB s).mergeSort leP).map ptD)) μ) := by
  refine propext ⟨fun hyp0 => ?_, fun hyp0 => ⟨s, rfl, hyp0⟩⟩
  obtain ⟨s', eq0, hyp0⟩ := hyp0
  simp only [List.cons.injEq, Exn.mk.injEq, EV.dat.injEq, EV.loc.injEq, EV.new.injEq, EV.ro.injEq, EV.exc.injEq, PyData.int.injEq, PyData.str.injEq, PyData.bool.injEq, PyData.list.injEq, PyData.tuple.injEq, and_true, true_and, and_assoc, map_int_inj, shD_inj] at eq0
  subst eq0
  exact hyp0
theorem ok_places (T : Top K mg) : DefAt P w K mg base "places" 1 ["sheet"] [] [] sp_places := by
  refine def_ok sp_places T.F_places sc_places T.m_places T.b_places (fun cdv A outer s H E hr tk pw => (dss_cons (ds_set (i := 1) sc_places.nd rfl (by first | exact Or.inl rfl | exact Or.inr rfl) (de_cell (de_lst da_nil)))
    (dss_cons (ds_forF [0, 2, 3, 4] pw rfl (di_enum1 (by rfl) T.n_enumerate (da_cons (de_stl (dv 0)) da_nil)) (dg_tup (n := 2) rfl (dgs_cons (dg_name (i := 2) sc_places.nd rfl (by first | exact Or.inl rfl | exact Or.inr rfl)) (dgs_cons (dg_name (i := 3) sc_places.nd rfl (by first | exact Or.inl rfl | exact Or.inr rfl)) dgs_nil))) (dss_cons (ds_set (i := 4) sc_places.nd rfl (by first | exact Or.inl rfl | exact Or.inr rfl) de_int)
    (dss_one (ds_whileF [0] pw (dt_cmp op_gt os_gt (dv 3) de_int (nomark _)) (dss_cons (ds_if (dt_cmp (opA_eq hr.units) os_eq (de_op op_and os_and (dv 3) de_int) de_int (nomark _)) (dss_one (ds_expr (de_bm PySem.F.plainAttrs_list PySem.F.slot_list_append PySem.F.type_list_append mt_append rc_lst ms_append (dv 1) (da_cons (de_frz (de_tup (da_cons (de_frz (dv 4)) (da_cons (de_frz (dv 2)) da_nil)))) da_nil)))) dss_nil)
    (dss_cons (ds_set (i := 3) sc_places.nd rfl (by first | exact Or.inl rfl | exact Or.inr rfl) (de_stl (de_op op_shr os_shr (dv 3) de_int)))
    (dss_one (ds_aug (i := 4) sc_places.nd rfl (by first | exact Or.inl rfl | exact Or.inr rfl) de_int ip_addA os_iadd))))))))
    (dss_one (ds_ret (de_callB (call_sortA rfl hr.units) cs_sortA (by rfl) T.n_sorted bb_sorted (da_cons (dv 1) da_nil))))))) ?_
  rintro es μ q x - ⟨s, rfl, hs, hl, k⟩
  walk_at "run"
  have hcl := cellsB_len hs
  refine for_st (as := s.zipIdx) (h := fun p : Nat × Nat => EV.dat (.tuple [.int (0 + (p.2 : Nat)), .int (p.1 : Nat)])) (fun i (fs : List Pt) => fs = cellsB (s.take i)) (fun η _ => η) (fun _ fs => μ ++ [.lst (fs.map ptD)]) [] rfl rfl rfl (fun _ => trivial) ?_ ?_
  · rintro i ⟨r, y⟩ fs J hi rfl hJ
    rw [List.getElem?_zipIdx] at hi
    obtain ⟨r', hr, e⟩ := Option.map_eq_some_iff.mp hi
    simp only [Prod.mk.injEq, Nat.zero_add] at e
    obtain ⟨rfl, rfl⟩ := e
    have ht : cellsB (s.take (i + 1)) = cellsB (s.take i) ++ rowC i r' := by
      rw [List.take_add_one, hr]
      show cellsB (s.take i ++ [r']) = _
      rw [cellsB_append, List.length_take, Nat.min_eq_left (Nat.le_of_lt (get_lt hr))]
    have hlen : (cellsB (s.take (i + 1))).length ≤ 100 := by
      have h1 := cellsB_len (w := 10) (s := s.take (i + 1)) fun z hz => hs z (List.mem_of_mem_take hz)
      have h2 : (s.take (i + 1)).length ≤ 10 := by rw [List.length_take]; omega
      omega
    rw [ht] at hlen
    walk_at "run"
    refine s_whileF (σ := Nat × Nat × List Pt) (fun p => p.2.2 ++ ((bl p.1 p.2.1).map fun x : Nat => ((x : Int), (i : Int))) = cellsB (s.take i) ++ rowC i r') (fun p => p.1) (fun η p => (η.set 3 (some (.dat (.int (p.1 : Nat))))).set 4 (some (.dat (.int (p.2.1 : Nat))))) (fun p => μ ++ [.lst (p.2.2.map ptD)]) (r', 0, cellsB (s.take i)) rfl rfl rfl ?_
    rintro ⟨row, x, acc⟩ J2 hk hJ2
    simp only at hk hJ2 ⊢
    walk_at "run"
    split
    · rename_i h0
      have h0 : 0 < row := by omega
      rw [bl_s h0] at hk
      by_cases h1 : row % 2 = 1
      · rw [if_pos h1] at hk
        have hl2 : acc.length ≤ 100 := by
          have := congrArg List.length hk
          simp only [List.length_append] at this hlen
          omega
        have go := hJ2 (row / 2, x + 1, acc ++ [((x : Int), (i : Int))]) (by simpa [List.append_assoc] using hk) (by simp only; omega)
        (try walk_at "dx")
        walk_at "st1"
        rw [band1, if_pos (by omega)]
        walk_at "run"
        (try walk_at "ok")
        rw [half]
        walk_at "run"
        simpa [ptD, fg_cons, fg_nil] using go
      · rw [if_neg h1] at hk
        have go := hJ2 (row / 2, x + 1, acc) (by simpa using hk) (by simp only; omega)
        (try walk_at "dx")
        walk_at "st1"
        rw [band1, if_neg (by omega)]
        walk_at "run"
        rw [half]
        walk_at "run"
        simpa [fg_cons, fg_nil] using go
    · rename_i h0
      have h0 : row = 0 := by omega
      subst h0
      rw [bl_0, List.map_nil, List.append_nil, ← ht] at hk
      (have j := hJ acc hk; simp only [List.range_succ, List.map_append, List.map_cons, List.map_nil, fg_cons, fg_nil, List.set_cons_succ, List.set_cons_zero] at j; exact j)
  · rintro fs rfl
    rw [List.length_zipIdx, List.take_length]
    walk_at "run"
    rw [noDs_pt]
    refine ⟨⟨rfl, dep_pts _⟩, alike_pt _, ?_⟩
    rw [sort_pt]
    walk_at "run"
    exact k
def sp_count : SpD := fun es μ q x => ∃ (s : List Nat), es = [.dat (shD s)] ∧ (okS 10 s ∧ s.length ≤ 10 ∧ q (.dat (.int (cellsB s).length)) μ)
theorem e_count {s : List Nat} {μ : Mu} {q : PQ} {x : XQ} : sp_count [.dat (shD s)] μ q x = (okS 10 s ∧ s.length ≤ 10 ∧ q (.dat (.int (cellsB s).length)) μ) := by
  refine propext ⟨fun hyp0 => ?_, fun hyp0 => ⟨s, rfl, hyp0⟩⟩
  obtain ⟨s', eq0, hyp0⟩ := hyp0
  simp only [List.cons.injEq, Exn.mk.injEq, EV.dat.injEq, EV.loc.injEq, EV.new.injEq, EV.ro.injEq, EV.exc.injEq, PyData.int.injEq, PyData.str.injEq, PyData.bool.injEq, PyData.list.injEq, PyData.tuple.injEq, and_true, true_and, and_assoc, map_int_inj, shD_inj] at eq0
  subst eq0
  exact hyp0
theorem ok_count (T : Top K mg) : DefAt P w K mg base "count" 1 ["sheet"] [] [] sp_count := by
  refine def_ok sp_count T.F_count sc_count T.m_count T.b_count (fun cdv A outer s H E hr tk pw => (dss_cons (ds_set (i := 1) sc_count.nd rfl (by first | exact Or.inl rfl | exact Or.inr rfl) de_int)
    (dss_cons (ds_forF [0, 2] pw rfl (di_seqD (dv 0)) (dg_name (i := 2) sc_count.nd rfl (by first | exact Or.inl rfl | exact Or.inr rfl)) (dss_one (ds_whileF [0] pw (dt_cmp op_gt os_gt (dv 2) de_int (nomark _)) (dss_cons (ds_set (i := 2) sc_count.nd rfl (by first | exact Or.inl rfl | exact Or.inr rfl) (de_stl (de_op op_and os_and (dv 2) (de_op op_sub os_sub (dv 2) de_int))))
    (dss_one (ds_aug (i := 1) sc_count.nd rfl (by first | exact Or.inl rfl | exact Or.inr rfl) de_int ip_addA os_iadd))))))
    (dss_one (ds_ret (dv 1)))))) ?_
  rintro es μ q x - ⟨s, rfl, hs, hl, k⟩
  walk_at "run"
  rw [shD_eq, seqDK_t]
  refine for_stD (as := s) (en := fun n : Nat => PyData.int (n : Int)) (fun i (n : Nat) => n = (cellsB (s.take i)).length) (fun η n => η.set 1 (some (.dat (.int (n : Nat))))) (fun μ _ => μ) 0 rfl rfl rfl (fun _ => trivial) ?_ ?_
  · rintro i r n J hr rfl hJ
    have ht : cellsB (s.take (i + 1)) = cellsB (s.take i) ++ rowC i r := by
      rw [List.take_add_one, hr]
      show cellsB (s.take i ++ [r]) = _
      rw [cellsB_append, List.length_take, Nat.min_eq_left (Nat.le_of_lt (get_lt hr))]
    walk_at "run"
    refine s_whileF (σ := Nat × Nat) (fun p => p.2 + (bl p.1 0).length = (cellsB (s.take (i + 1))).length) (fun p => p.1) (fun η p => (η.set 2 (some (.dat (.int (p.1 : Nat))))).set 1 (some (.dat (.int (p.2 : Nat))))) (fun p => μ) (r, (cellsB (s.take i)).length) rfl rfl (by rw [ht, List.length_append]; unfold rowC; rw [List.length_map]) ?_
    rintro ⟨row, n⟩ J2 hk hJ2
    simp only at hk hJ2 ⊢
    walk_at "run"
    split
    · rename_i h0
      have h0 : 0 < row := by omega
      have hlow := low_bit row h0 0
      have go := hJ2 (row &&& (row - 1), n + 1) (by simp only; omega) (by have := @Nat.and_le_right row (row - 1); simp only; omega)
      walk_at "run"
      rw [show (row : Int) - 1 = ((row - 1 : Nat) : Int) by omega, band]
      simpa [fg_cons, fg_nil] using go
    · rename_i h0
      have h0 : row = 0 := by omega
      subst h0
      rw [bl_0] at hk
      (have j := hJ n hk; simp only [List.range_succ, List.map_append, List.map_cons, List.map_nil, fg_cons, fg_nil, List.set_cons_succ, List.set_cons_zero] at j; exact j)
  · rintro n rfl
    rw [List.take_length]
    walk_at "run"
    exact k

local macro_rules | `(tactic| walk_at "dx") => `(tactic| simp (disch := first | assumption | omega) only [↓e_joined, ↓e_moved, ↓e_common, ↓e_without, ↓ix_sz, ↓gTp_pt, ↓enumK_sh, ↓e_places, ↓e_count, ↓dVar_0, ↓dVar_1, ↓dVar_2, ↓dVar_3, ↓dVar_4, ↓dVar_5, ↓dVar_6, ↓dVar_7, ↓dVar_8, ↓dVar_9, ↓dVar_10, ↓dVar_11, ↓dVar_12, ↓dVar_13, ↓dVar_14, ↓dVar_15, ↓old_dat, ↓old_loc, ↓old_raw, ↓old_exc, ↓old_ro, ↓wDs_nil, ↓wDs_cons, ↓x_dC, ↓x_dRaw, ↓x_dFrz, ↓x_dCell, ↓x_dStl, ↓x_aNil, ↓x_aCons, ↓x_dLst, ↓x_dTup, ↓x_tVal, ↓x_tAndD, ↓x_tOrD, ↓x_tNotD, ↓x_tYesD, ↓x_dAndV, ↓x_dOrV, ↓x_dNotV, ↓x_dIfE, ↓x_dOp, ↓x_dUn, ↓x_dCB, ↓x_dChain, ↓intK_i, ↓x_oNo, ↓x_oSome, ↓x_dSl, ↓x_gNm, ↓x_gNl0, ↓x_gCn, ↓x_gTp, ↓x_gSb, ↓x_dCall, ↓seqK_tup, ↓seqK_lst, ↓seqK_new, ↓seqK_ro, ↓seqK_str, ↓rng1_i, ↓rng2_i, ↓x_iSeq, ↓x_iRange1, ↓x_iRange2, ↓x_dBM, ↓x_dBM0, ↓x_isStr, ↓bools_k, ↓ints_k, ↓strs_k, ↓lstK_lst, ↓lstK_new, ↓sqK_lst, ↓sqK_new, ↓sqK_tup, ↓sqK_ro, ↓x_oAll, ↓x_oSum, ↓x_oJoin, ↓x_oList, ↓x_oTuple, ↓x_oIsN, ↓x_oNotN, ↓x_lc, ↓int_i, ↓int_b, ↓mem_l, ↓mem_t, ↓mem_n, ↓x_srtS, ↓mul_ni, ↓mul_li, ↓wD_dat, ↓wD_new, ↓wB_b, ↓nN_dat, ↓nN_loc, ↓nN_raw, ↓nN_ro, ↓nN_exc, ↓aO_nil, ↓aO_cons, ↓stl_dat, ↓stl_new, ↓stl_loc, ↓stl_raw, ↓stl_ro, ↓stl_exc, ↓cel_dat, ↓cel_new, ↓cel_loc, ↓cel_raw, ↓cel_ro, ↓add_int, ↓add_strD, ↓add_tup, ↓add_ll, ↓add_ln, ↓add_nl, ↓add_nn, ↓oI_ii, ↓oI0_ii, ↓neg_i, ↓inv_i, ↓mul_int, ↓eq_dd, ↓ne_dd, ↓eq_nd, ↓ne_nd, ↓eq_dn, ↓ne_dn, ↓eq_nn, ↓ne_nn, ↓sign_ss, ↓ix_s, ↓ix_tupD, ↓ix_lstD, ↓ix_new, ↓ix_ro, ↓sl_s, ↓sl_tupD, ↓sl_lstD, ↓sl_new, ↓sl_ro, ↓len_str, ↓len_tup, ↓len_lst, ↓len_new, ↓len_ro, ↓max_ii, ↓min_ii, ↓isi_int, ↓isi_bool, ↓isi_str, ↓isi_list, ↓isi_tuple, ↓isi_dict, ↓exitQ_dat, ↓exitQ_new, ↓exitQ_raw, ↓cl_nil, ↓cl_none, ↓cl_dat, ↓cl_ro, ↓cl_raw, ↓cl_odat, ↓dVar_16, ↓dVar_17, ↓dVar_18, ↓dVar_19, ↓dVar_20, ↓dVar_21, ↓dVar_22, ↓dVar_23, ↓dVar_24, ↓dVar_25, ↓dVar_26, ↓dVar_27, ↓dVar_28, ↓dVar_29, ↓dVar_30, ↓dVar_31, ↓dVar_32, ↓dVar_33, ↓dVar_34, ↓dVar_35, ↓noD_n, ↓noD_b, ↓noD_i, ↓noD_s, ↓noD_l, ↓noD_t, ↓noDs_nil, ↓noDs_cons, ↓noDs_app, ↓noDs_i, ↓noDs_s, ↓noDs_b, ↓exC_k, ↓isIntD_none, ↓isIntD_bool, ↓isIntD_int, ↓isIntD_str, ↓isIntD_list, ↓isIntD_tuple, ↓isIntD_dict, ↓isBoolD_none, ↓isBoolD_bool, ↓isBoolD_int, ↓isBoolD_str, ↓isBoolD_list, ↓isBoolD_tuple, ↓isBoolD_dict, ↓isStrD_none, ↓isStrD_bool, ↓isStrD_int, ↓isStrD_str, ↓isStrD_list, ↓isStrD_tuple, ↓isStrD_dict, ↓isListD_none, ↓isListD_bool, ↓isListD_int, ↓isListD_str, ↓isListD_list, ↓isListD_tuple, ↓isListD_dict, ↓isTupD_none, ↓isTupD_bool, ↓isTupD_int, ↓isTupD_str, ↓isTupD_list, ↓isTupD_tuple, ↓isTupD_dict, ↓isDictD_none, ↓isDictD_bool, ↓isDictD_int, ↓isDictD_str, ↓isDictD_list, ↓isDictD_tuple, ↓isDictD_dict, ↓neg_i2, ↓inv_i2, ↓x_iSeqD, ↓seqDK_d, ↓seqDK_t, ↓seqDK_l, ↓seqDK_s, ↓seqDK_n, ↓seqDK_r, ↓seqDK_c, ↓x_iZipD, ↓zipK_t, ↓zipK_l, ↓x_dNewD, ↓lcD_d, ↓keysK_nil, ↓keysK_i, ↓keysK_s, ↓keysP_nil, ↓keysP_i, ↓keysP_s, ↓c_setD, ↓memA_dict, ↓memA_l, ↓memA_t, ↓memA_n, ↓c_memA, ↓memC_d, ↓memC_l, ↓memC_f, ↓cell_nd, ↓cell_nk, ↓stl_nd, ↓stl_nk, ↓ex_nd, ↓ex_nk, ↓x_dCellA, ↓cellA_new, ↓nextA_eq, ↓stateA_eq, ↓cellA_eq, ↓fg_nil, ↓fg_cons, ↓lcR_l, ↓lcR_f, ↓lcK_l, ↓c_len, ↓c_ix, ↓c_ixC, ↓c_app, ↓c_set, ↓c_isL, ↓c_lstK, ↓c_sqK, ↓c_mem, ↓c_addn, ↓c_addl, ↓c_sl, ↓c_seqK, ↓seqC_l, ↓seqC_f, ↓c_wD, ↓wdC_l, ↓wdC_f, ↓exC_l, ↓exC_f, ↓exC_d, ↓cellK_new, ↓cellK_dat, ↓cellK_loc, ↓get_a0, ↓get_a1, ↓get_a2, ↓get_a3, ↓set_a0, ↓set_a1, ↓set_a2, ↓set_a3, ↓lnD_str, ↓lnD_tup, ↓lnD_lst, ↓lnD_new, ↓lnD_ro, ↓lnD_d, ↓c_lenD, ↓lnC_d, ↓lnC_k, ↓lnC_l, ↓lnC_f, ↓eq_cN, ↓eq_cD, ↓eq_Nc, ↓eq_Dc, ↓ne_cN, ↓ne_cD, ↓ne_Nc, ↓ne_Dc, ↓x_iEnumD, ↓enumK_t, ↓enumK_l, ↓enumK_r, ↓enumK_tk, ↓enumK_lk, ↓srt_d, ↓srt_l, ↓srt_n, ↓c_srt, ↓srtC_l, ↓srtC_f, ↓srtC_d, ↓lsA_t, ↓lsA_l, ↓lsA_n, ↓lsA_r, ↓c_lsA, ↓c_isi_list, ↓c_isi_dict, ↓c_isi_tuple, ↓isiB_l, ↓isiB_f, ↓isiB_d, ↓isiB_k, ↓isi_n_list, ↓isi_n_tuple, ↓x_dListIt, ↓litK_d, ↓augK_s, ↓iadd_ii, ↓c_iaddn, ↓c_iaddl, ↓abs_i, ↓x_dRevL, ↓revK_n, ↓revK_l, ↓cnt_n, ↓cnt_l, ↓idx_l, ↓isLst_l, ↓isLst_n, ↓c_pop, ↓c_popD, ↓c_isD, ↓lcD2_d, ↓lcD2_k, ↓tk_0, ↓tk_a0, ↓tk_a1, ↓tk_a2, ↓tk_a3, ↓tk_a4, dVar_0, dVar_1, dVar_2, dVar_3, dVar_4, dVar_5, dVar_6, dVar_7, dVar_8, dVar_9, dVar_10, dVar_11, dVar_12, dVar_13, dVar_14, dVar_15, old_dat, old_loc, old_raw, old_exc, old_ro, wDs_nil, wDs_cons, x_dC, x_dRaw, x_dFrz, x_dCell, x_dStl, x_aNil, x_aCons, x_dLst, x_dTup, x_tVal, x_tAndD, x_tOrD, x_tNotD, x_tYesD, x_dAndV, x_dOrV, x_dNotV, x_dIfE, x_dOp, x_dUn, x_dCB, x_dChain, intK_i, x_oNo, x_oSome, x_dSl, x_gNm, x_gNl0, x_gCn, x_gTp, x_gSb, x_dCall, seqK_tup, seqK_lst, seqK_new, seqK_ro, seqK_str, rng1_i, rng2_i, x_iSeq, x_iRange1, x_iRange2, x_dBM, x_dBM0, x_isStr, bools_k, ints_k, strs_k, lstK_lst, lstK_new, sqK_lst, sqK_new, sqK_tup, sqK_ro, x_oAll, x_oSum, x_oJoin, x_oList, x_oTuple, x_oIsN, x_oNotN, x_lc, int_i, int_b, mem_l, mem_t, mem_n, x_srtS, mul_ni, mul_li, wD_dat, wD_new, wB_b, nN_dat, nN_loc, nN_raw, nN_ro, nN_exc, aO_nil, aO_cons, stl_dat, stl_new, stl_loc, stl_raw, stl_ro, stl_exc, cel_dat, cel_new, cel_loc, cel_raw, cel_ro, add_int, add_strD, add_tup, add_ll, add_ln, add_nl, add_nn, oI_ii, oI0_ii, neg_i, inv_i, mul_int, eq_dd, ne_dd, eq_nd, ne_nd, eq_dn, ne_dn, eq_nn, ne_nn, sign_ss, ix_s, ix_tupD, ix_lstD, ix_new, ix_ro, sl_s, sl_tupD, sl_lstD, sl_new, sl_ro, len_str, len_tup, len_lst, len_new, len_ro, max_ii, min_ii, isi_int, isi_bool, isi_str, isi_list, isi_tuple, isi_dict, exitQ_dat, exitQ_new, exitQ_raw, cl_nil, cl_none, cl_dat, cl_ro, cl_raw, cl_odat, dVar_16, dVar_17, dVar_18, dVar_19, dVar_20, dVar_21, dVar_22, dVar_23, dVar_24, dVar_25, dVar_26, dVar_27, dVar_28, dVar_29, dVar_30, dVar_31, dVar_32, dVar_33, dVar_34, dVar_35, noD_n, noD_b, noD_i, noD_s, noD_l, noD_t, noDs_nil, noDs_cons, noDs_app, noDs_i, noDs_s, noDs_b, exC_k, isIntD_none, isIntD_bool, isIntD_int, isIntD_str, isIntD_list, isIntD_tuple, isIntD_dict, isBoolD_none, isBoolD_bool, isBoolD_int, isBoolD_str, isBoolD_list, isBoolD_tuple, isBoolD_dict, isStrD_none, isStrD_bool, isStrD_int, isStrD_str, isStrD_list, isStrD_tuple, isStrD_dict, isListD_none, isListD_bool, isListD_int, isListD_str, isListD_list, isListD_tuple, isListD_dict, isTupD_none, isTupD_bool, isTupD_int, isTupD_str, isTupD_list, isTupD_tuple, isTupD_dict, isDictD_none, isDictD_bool, isDictD_int, isDictD_str, isDictD_list, isDictD_tuple, isDictD_dict, neg_i2, inv_i2, x_iSeqD, seqDK_d, seqDK_t, seqDK_l, seqDK_s, seqDK_n, seqDK_r, seqDK_c, x_iZipD, zipK_t, zipK_l, x_dNewD, lcD_d, keysK_nil, keysK_i, keysK_s, keysP_nil, keysP_i, keysP_s, c_setD, memA_dict, memA_l, memA_t, memA_n, c_memA, memC_d, memC_l, memC_f, cell_nd, cell_nk, stl_nd, stl_nk, ex_nd, ex_nk, x_dCellA, cellA_new, nextA_eq, stateA_eq, cellA_eq, fg_nil, fg_cons, lcR_l, lcR_f, lcK_l, c_len, c_ix, c_ixC, c_app, c_set, c_isL, c_lstK, c_sqK, c_mem, c_addn, c_addl, c_sl, c_seqK, seqC_l, seqC_f, c_wD, wdC_l, wdC_f, exC_l, exC_f, exC_d, cellK_new, cellK_dat, cellK_loc, get_a0, get_a1, get_a2, get_a3, set_a0, set_a1, set_a2, set_a3, lnD_str, lnD_tup, lnD_lst, lnD_new, lnD_ro, lnD_d, c_lenD, lnC_d, lnC_k, lnC_l, lnC_f, eq_cN, eq_cD, eq_Nc, eq_Dc, ne_cN, ne_cD, ne_Nc, ne_Dc, x_iEnumD, enumK_t, enumK_l, enumK_r, enumK_tk, enumK_lk, srt_d, srt_l, srt_n, c_srt, srtC_l, srtC_f, srtC_d, lsA_t, lsA_l, lsA_n, lsA_r, c_lsA, c_isi_list, c_isi_dict, c_isi_tuple, isiB_l, isiB_f, isiB_d, isiB_k, isi_n_list, isi_n_tuple, x_dListIt, litK_d, augK_s, iadd_ii, c_iaddn, c_iaddl, abs_i, x_dRevL, revK_n, revK_l, cnt_n, cnt_l, idx_l, isLst_l, isLst_n, c_pop, c_popD, c_isD, lcD2_d, lcD2_k, tk_0, tk_a0, tk_a1, tk_a2, tk_a3, tk_a4, isR_h, isR_app, isR_last, exitQ_ge, exitQ_lt, cl_loc, nle_h, nlt_h, ile_h, ilt_h, cmul_l, cmul_r, cdiv_h, cpow_h, csh_h, csh_0, oLt, oLe, oGt, oGe, oSub, oMod, oDiv, oPow, oShl, oShr, oAnd, oOr, oXor, isRaw, isNon, startD, List.length_map, decide_eq_true_eq, List.map_cons, List.map_nil, List.length_cons, List.length_nil, List.cons_append, List.nil_append, List.append_nil, List.replicate, List.getElem?_cons_zero, List.getElem?_cons_succ, List.set_cons_zero, List.set_cons_succ, List.take_length, true_and, and_true, eqv_int, eqv_bool, eqv_str, dep_int, dep_bool, dep_str, dep_none, min0l, min0r, Option.map_some, Option.map_none, if_true, if_false, Bool.and_true, Bool.true_and, Bool.false_eq_true, Bool.not_true, Bool.not_false, reduceIte, wipeD, List.append_assoc, at_nn, Option.some.injEq, exists_eq_left, exists_eq_left', Int.reduceToNat, Int.reduceLE, Int.reduceLT, List.length_set, Nat.reduceAdd, Nat.reduceLeDiff, Nat.reduceSub, dat_dat, dat_new, lst_lst, lst_new, seq_tup, seq_lst, seq_new, seq_ro, List.length_append, Nat.zero_add, eqv_tup, eqv_lst, eqvA_nn, eqvA_cc, eqvA_nc, eqvA_cn, dep_tup, dep_lst, depA_nil, depA_cons, Nat.max_zero, Nat.zero_max, Nat.lt_add_one, forall_const, oShlA, rng_c, Int.toNat_natCast, List.flatten_nil, decide_true, decide_false])
def sp_nothing : SpD := fun es μ q x => ∃ (w : Nat) (h : Nat), es = [.dat (szD w h)] ∧ (2 ≤ h ∧ h ≤ 1000 ∧ q (.dat (shD (List.replicate h 0))) μ)
theorem e_nothing {w : Nat} {h : Nat} {μ : Mu} {q : PQ} {x : XQ} : sp_nothing [.dat (szD w h)] μ q x = (2 ≤ h ∧ h ≤ 1000 ∧ q (.dat (shD (List.replicate h 0))) μ) := by
  refine propext ⟨fun hyp0 => ?_, fun hyp0 => ⟨w, h, rfl, hyp0⟩⟩
  obtain ⟨w', h', eq0, hyp0⟩ := hyp0
  simp only [List.cons.injEq, Exn.mk.injEq, EV.dat.injEq, EV.loc.injEq, EV.new.injEq, EV.ro.injEq, EV.exc.injEq, PyData.int.injEq, PyData.str.injEq, PyData.bool.injEq, PyData.list.injEq, PyData.tuple.injEq, and_true, true_and, and_assoc, map_int_inj, szD_inj] at eq0
  obtain ⟨rfl, rfl⟩ := eq0
  exact hyp0
theorem ok_nothing (T : Top K mg) : DefAt P w K mg base "nothing" 1 ["size"] [] [] sp_nothing := by
  refine def_ok sp_nothing T.F_nothing sc_nothing T.m_nothing T.b_nothing (fun cdv A outer s H E hr tk pw => (dss_one (ds_ret (de_op opA_mul os_mul (de_tup (da_cons de_int da_nil)) (de_ix ix_seq os_ix (dv 0) de_int (fun _ _ => rfl)))))) ?_
  rintro es μ q x - ⟨w, h, rfl, h2, hh, k⟩
  simp only [szD_eq]
  walk_at "run"
  refine ⟨⟨by simp, by omega, by omega, by simp⟩, ?_⟩
  have e : (List.replicate ((h : Int)).toNat [PyData.int 0]).flatten = (List.replicate h 0).map fun n : Nat => PyData.int (n : Int) := by
    rw [Int.toNat_natCast]
    clear k hh h2
    induction h with
    | zero => rfl
    | succ h ih => rw [List.replicate_succ, List.flatten_cons, ih, List.replicate_succ]; rfl
  rw [e]
  (try walk_at "dx")
  exact k

theorem bit1 {r n : Nat} : decide (Builtin.bitAnd ((r : Int) / 2 ^ n) 1 = 1) = r.testBit n := by
  have e : ((r : Int) / 2 ^ n) = ((r / 2 ^ n : Nat) : Int) := by simp
  rw [e, show (1 : Int) = ((1 : Nat) : Int) from rfl, band, Nat.and_one_is_mod, Nat.testBit_eq_decide_div_mod_eq, decide_eq_decide]
  omega
def sp_has : SpD := fun es μ q x => ∃ (s : List Nat) (a : Int) (b : Int), es = [.dat (shD s), .dat (.int a), .dat (.int b)] ∧ (s.length ≤ 1000 ∧ q (.dat (.bool (bitS s a b))) μ)
theorem e_has {s : List Nat} {a : Int} {b : Int} {μ : Mu} {q : PQ} {x : XQ} : sp_has [.dat (shD s), .dat (.int a), .dat (.int b)] μ q x = (s.length ≤ 1000 ∧ q (.dat (.bool (bitS s a b))) μ) := by
  refine propext ⟨fun hyp0 => ?_, fun hyp0 => ⟨s, a, b, rfl, hyp0⟩⟩
  obtain ⟨s', a', b', eq0, hyp0⟩ := hyp0
  simp only [List.cons.injEq, Exn.mk.injEq, EV.dat.injEq, EV.loc.injEq, EV.new.injEq, EV.ro.injEq, EV.exc.injEq, PyData.int.injEq, PyData.str.injEq, PyData.bool.injEq, PyData.list.injEq, PyData.tuple.injEq, and_true, true_and, and_assoc, map_int_inj, shD_inj] at eq0
  obtain ⟨rfl, rfl, rfl⟩ := eq0
  exact hyp0
theorem ok_has (T : Top K mg) : DefAt P w K mg base "has" 1 ["sheet", "x", "y"] [] [] sp_has := by
  refine def_ok sp_has T.F_has sc_has T.m_has T.b_has (fun cdv A outer s H E hr tk pw => (dss_cons (ds_if (dw_or (dt_cmp op_lt os_lt (dv 1) de_int (nomark _)) (dw_or1 (dt_not (dt_chain op_le os_le op_lt os_lt de_int (dv 2) (de_callB call_lenA cs_lenD (by rfl) T.n_len bb_len (da_cons (dv 0) da_nil)))))).dt (dss_one (ds_ret de_bl)) dss_nil)
    (dss_one (ds_ret (de_cmp (opA_eq hr.units) os_eq (de_op op_and os_and (de_op op_shr os_shr (de_ix ix_seq os_ix (dv 0) (dv 2) (fun _ _ => rfl)) (dv 1)) de_int) de_int (nomark _)))))) ?_
  rintro es μ q x - ⟨s, a, b, rfl, hl, k⟩
  simp only [shD_eq]
  walk_at "run"
  have out (h : ¬ (0 ≤ a ∧ 0 ≤ b ∧ b < s.length)) : bitS s a b = false := by
    unfold bitS
    by_cases h0 : 0 ≤ a ∧ 0 ≤ b
    · rw [List.getElem?_eq_none (by omega)]
      simp
    · rw [decide_eq_false h0, Bool.false_and]
  split
  · rw [out (by omega)] at k
    walk_at "run"
    exact k
  · split
    · split
      · rename_i h1 h2 h3
        rw [out (by simp at h3; omega)] at k
        walk_at "run"
        exact k
      · rename_i h1 h2 h3
        simp only [Bool.not_eq_true', decide_eq_false_iff_not, Decidable.not_not] at h3
        have hlt : b.toNat < s.length := by omega
        walk_at "run"
        refine ⟨.int (s[b.toNat] : Nat), ?_, ?_⟩
        · rw [List.getElem?_map, List.getElem?_eq_getElem hlt]
          rfl
        · (try walk_at "dx")
          rw [bit1]
          have e : bitS s a b = s[b.toNat].testBit a.toNat := by
            unfold bitS
            rw [List.getElem?_eq_getElem hlt, decide_eq_true (show 0 ≤ a ∧ 0 ≤ b by omega), Bool.true_and]
            rfl
          rw [e] at k
          (try walk_at "ok")
          exact k
    · rw [out (by omega)] at k
      walk_at "run"
      exact k

def dirs : List (Int × Int) := [(1, 0), (-1, 0), (0, 1), (0, -1)]
def sprS (w h : Nat) (s : List Nat) : List Nat := dirs.foldl (fun t d => orS t (movS w h s d.1 d.2)) s
def sp_spread : SpD := fun es μ q x => ∃ (w : Nat) (h : Nat) (s : List Nat), es = [.dat (szD w h), .dat (shD s)] ∧ (s.length = h ∧ okS w s ∧ w ≤ 10 ∧ h ≤ 10 ∧ q (.dat (shD (sprS w h s))) μ)
theorem e_spread {w : Nat} {h : Nat} {s : List Nat} {μ : Mu} {q : PQ} {x : XQ} : sp_spread [.dat (szD w h), .dat (shD s)] μ q x = (s.length = h ∧ okS w s ∧ w ≤ 10 ∧ h ≤ 10 ∧ q (.dat (shD (sprS w h s))) μ) := by
  refine propext ⟨fun hyp0 => ?_, fun hyp0 => ⟨w, h, s, rfl, hyp0⟩⟩
  obtain ⟨w', h', s', eq0, hyp0⟩ := hyp0
  simp only [List.cons.injEq, Exn.mk.injEq, EV.dat.injEq, EV.loc.injEq, EV.new.injEq, EV.ro.injEq, EV.exc.injEq, PyData.int.injEq, PyData.str.injEq, PyData.bool.injEq, PyData.list.injEq, PyData.tuple.injEq, and_true, true_and, and_assoc, map_int_inj, szD_inj, shD_inj] at eq0
  obtain ⟨rfl, rfl, rfl⟩ := eq0
  exact hyp0
theorem ok_spread (T : Top K mg) : DefAt P w K mg base "spread" 2 ["size", "sheet"] [] [] sp_spread := by
  refine def_ok sp_spread T.F_spread sc_spread T.m_spread T.b_spread (fun cdv A outer s H E hr tk pw => (dss_cons (ds_set (i := 2) sc_spread.nd rfl (by first | exact Or.inl rfl | exact Or.inr rfl) (de_stl (dv 1)))
    (dss_cons (ds_forF [3, 4] pw rfl (di_seqD (de_tup (da_cons (de_frz (de_tup (da_cons de_int (da_cons de_int da_nil)))) (da_cons (de_frz (de_tup (da_cons (de_frz (de_un un_neg us_neg de_int)) (da_cons de_int da_nil)))) (da_cons (de_frz (de_tup (da_cons de_int (da_cons de_int da_nil)))) (da_cons (de_frz (de_tup (da_cons de_int (da_cons (de_frz (de_un un_neg us_neg de_int)) da_nil)))) da_nil)))))) (dg_tup (n := 2) rfl (dgs_cons (dg_name (i := 3) sc_spread.nd rfl (by first | exact Or.inl rfl | exact Or.inr rfl)) (dgs_cons (dg_name (i := 4) sc_spread.nd rfl (by first | exact Or.inl rfl | exact Or.inr rfl)) dgs_nil))) (dss_one (ds_set (i := 2) sc_spread.nd rfl (by first | exact Or.inl rfl | exact Or.inr rfl) (de_stl (de_call (ok_joined T) hr (by decide) (by rfl) tk (fun _ _ => .nil) (da_cons (de_stl (dv 2)) (da_cons (de_stl (de_call (ok_moved T) hr (by decide) (by rfl) tk (fun _ _ => .nil) (da_cons (de_stl (dv 0)) (da_cons (de_stl (dv 1)) (da_cons (de_stl (dv 3)) (da_cons (de_stl (dv 4)) da_nil)))))) da_nil)))))))
    (dss_one (ds_ret (dv 2)))))) ?_
  rintro es μ q x - ⟨w, h, s, rfl, hl, hs, hw, hh, k⟩
  walk_at "run"
  refine for_st (as := dirs) (h := fun d : Int × Int => EV.dat (.tuple [.int d.1, .int d.2])) (fun i (t : List Nat) => t.length = h ∧ t = (dirs.take i).foldl (fun t d => orS t (movS w h s d.1 d.2)) s) (fun η t => η.set 2 (some (.dat (shD t)))) (fun μ _ => μ) s rfl rfl ⟨hl, rfl⟩ (fun _ => trivial) ?_ ?_
  · rintro i ⟨dx, dy⟩ t J hi ⟨h1, h2⟩ hJ
    walk_at "run"
    (try walk_at "ok")
    refine ⟨by rw [movS_len, h1], ?_⟩
    (have j := hJ (orS t (movS w h s dx dy)) ⟨by rw [orS_len (by rw [movS_len, h1]), h1], by rw [List.take_add_one, hi, List.foldl_append, ← h2]; rfl⟩; simp only [List.range_succ, List.map_append, List.map_cons, List.map_nil, fg_cons, fg_nil, List.set_cons_succ, List.set_cons_zero] at j; exact j)
  · rintro t ⟨h1, rfl⟩
    walk_at "run"
    exact k

local macro_rules | `(tactic| walk_at "dx") => `(tactic| simp (disch := first | assumption | omega) only [↓e_joined, ↓e_moved, ↓e_common, ↓e_without, ↓ix_sz, ↓gTp_pt, ↓enumK_sh, ↓e_places, ↓e_count, ↓e_nothing, ↓e_has, ↓e_spread, ↓dVar_0, ↓dVar_1, ↓dVar_2, ↓dVar_3, ↓dVar_4, ↓dVar_5, ↓dVar_6, ↓dVar_7, ↓dVar_8, ↓dVar_9, ↓dVar_10, ↓dVar_11, ↓dVar_12, ↓dVar_13, ↓dVar_14, ↓dVar_15, ↓old_dat, ↓old_loc, ↓old_raw, ↓old_exc, ↓old_ro, ↓wDs_nil, ↓wDs_cons, ↓x_dC, ↓x_dRaw, ↓x_dFrz, ↓x_dCell, ↓x_dStl, ↓x_aNil, ↓x_aCons, ↓x_dLst, ↓x_dTup, ↓x_tVal, ↓x_tAndD, ↓x_tOrD, ↓x_tNotD, ↓x_tYesD, ↓x_dAndV, ↓x_dOrV, ↓x_dNotV, ↓x_dIfE, ↓x_dOp, ↓x_dUn, ↓x_dCB, ↓x_dChain, ↓intK_i, ↓x_oNo, ↓x_oSome, ↓x_dSl, ↓x_gNm, ↓x_gNl0, ↓x_gCn, ↓x_gTp, ↓x_gSb, ↓x_dCall, ↓seqK_tup, ↓seqK_lst, ↓seqK_new, ↓seqK_ro, ↓seqK_str, ↓rng1_i, ↓rng2_i, ↓x_iSeq, ↓x_iRange1, ↓x_iRange2, ↓x_dBM, ↓x_dBM0, ↓x_isStr, ↓bools_k, ↓ints_k, ↓strs_k, ↓lstK_lst, ↓lstK_new, ↓sqK_lst, ↓sqK_new, ↓sqK_tup, ↓sqK_ro, ↓x_oAll, ↓x_oSum, ↓x_oJoin, ↓x_oList, ↓x_oTuple, ↓x_oIsN, ↓x_oNotN, ↓x_lc, ↓int_i, ↓int_b, ↓mem_l, ↓mem_t, ↓mem_n, ↓x_srtS, ↓mul_ni, ↓mul_li, ↓wD_dat, ↓wD_new, ↓wB_b, ↓nN_dat, ↓nN_loc, ↓nN_raw, ↓nN_ro, ↓nN_exc, ↓aO_nil, ↓aO_cons, ↓stl_dat, ↓stl_new, ↓stl_loc, ↓stl_raw, ↓stl_ro, ↓stl_exc, ↓cel_dat, ↓cel_new, ↓cel_loc, ↓cel_raw, ↓cel_ro, ↓add_int, ↓add_strD, ↓add_tup, ↓add_ll, ↓add_ln, ↓add_nl, ↓add_nn, ↓oI_ii, ↓oI0_ii, ↓neg_i, ↓inv_i, ↓mul_int, ↓eq_dd, ↓ne_dd, ↓eq_nd, ↓ne_nd, ↓eq_dn, ↓ne_dn, ↓eq_nn, ↓ne_nn, ↓sign_ss, ↓ix_s, ↓ix_tupD, ↓ix_lstD, ↓ix_new, ↓ix_ro, ↓sl_s, ↓sl_tupD, ↓sl_lstD, ↓sl_new, ↓sl_ro, ↓len_str, ↓len_tup, ↓len_lst, ↓len_new, ↓len_ro, ↓max_ii, ↓min_ii, ↓isi_int, ↓isi_bool, ↓isi_str, ↓isi_list, ↓isi_tuple, ↓isi_dict, ↓exitQ_dat, ↓exitQ_new, ↓exitQ_raw, ↓cl_nil, ↓cl_none, ↓cl_dat, ↓cl_ro, ↓cl_raw, ↓cl_odat, ↓dVar_16, ↓dVar_17, ↓dVar_18, ↓dVar_19, ↓dVar_20, ↓dVar_21, ↓dVar_22, ↓dVar_23, ↓dVar_24, ↓dVar_25, ↓dVar_26, ↓dVar_27, ↓dVar_28, ↓dVar_29, ↓dVar_30, ↓dVar_31, ↓dVar_32, ↓dVar_33, ↓dVar_34, ↓dVar_35, ↓noD_n, ↓noD_b, ↓noD_i, ↓noD_s, ↓noD_l, ↓noD_t, ↓noDs_nil, ↓noDs_cons, ↓noDs_app, ↓noDs_i, ↓noDs_s, ↓noDs_b, ↓exC_k, ↓isIntD_none, ↓isIntD_bool, ↓isIntD_int, ↓isIntD_str, ↓isIntD_list, ↓isIntD_tuple, ↓isIntD_dict, ↓isBoolD_none, ↓isBoolD_bool, ↓isBoolD_int, ↓isBoolD_str, ↓isBoolD_list, ↓isBoolD_tuple, ↓isBoolD_dict, ↓isStrD_none, ↓isStrD_bool, ↓isStrD_int, ↓isStrD_str, ↓isStrD_list, ↓isStrD_tuple, ↓isStrD_dict, ↓isListD_none, ↓isListD_bool, ↓isListD_int, ↓isListD_str, ↓isListD_list, ↓isListD_tuple, ↓isListD_dict, ↓isTupD_none, ↓isTupD_bool, ↓isTupD_int, ↓isTupD_str, ↓isTupD_list, ↓isTupD_tuple, ↓isTupD_dict, ↓isDictD_none, ↓isDictD_bool, ↓isDictD_int, ↓isDictD_str, ↓isDictD_list, ↓isDictD_tuple, ↓isDictD_dict, ↓neg_i2, ↓inv_i2, ↓x_iSeqD, ↓seqDK_d, ↓seqDK_t, ↓seqDK_l, ↓seqDK_s, ↓seqDK_n, ↓seqDK_r, ↓seqDK_c, ↓x_iZipD, ↓zipK_t, ↓zipK_l, ↓x_dNewD, ↓lcD_d, ↓keysK_nil, ↓keysK_i, ↓keysK_s, ↓keysP_nil, ↓keysP_i, ↓keysP_s, ↓c_setD, ↓memA_dict, ↓memA_l, ↓memA_t, ↓memA_n, ↓c_memA, ↓memC_d, ↓memC_l, ↓memC_f, ↓cell_nd, ↓cell_nk, ↓stl_nd, ↓stl_nk, ↓ex_nd, ↓ex_nk, ↓x_dCellA, ↓cellA_new, ↓nextA_eq, ↓stateA_eq, ↓cellA_eq, ↓fg_nil, ↓fg_cons, ↓lcR_l, ↓lcR_f, ↓lcK_l, ↓c_len, ↓c_ix, ↓c_ixC, ↓c_app, ↓c_set, ↓c_isL, ↓c_lstK, ↓c_sqK, ↓c_mem, ↓c_addn, ↓c_addl, ↓c_sl, ↓c_seqK, ↓seqC_l, ↓seqC_f, ↓c_wD, ↓wdC_l, ↓wdC_f, ↓exC_l, ↓exC_f, ↓exC_d, ↓cellK_new, ↓cellK_dat, ↓cellK_loc, ↓get_a0, ↓get_a1, ↓get_a2, ↓get_a3, ↓set_a0, ↓set_a1, ↓set_a2, ↓set_a3, ↓lnD_str, ↓lnD_tup, ↓lnD_lst, ↓lnD_new, ↓lnD_ro, ↓lnD_d, ↓c_lenD, ↓lnC_d, ↓lnC_k, ↓lnC_l, ↓lnC_f, ↓eq_cN, ↓eq_cD, ↓eq_Nc, ↓eq_Dc, ↓ne_cN, ↓ne_cD, ↓ne_Nc, ↓ne_Dc, ↓x_iEnumD, ↓enumK_t, ↓enumK_l, ↓enumK_r, ↓enumK_tk, ↓enumK_lk, ↓srt_d, ↓srt_l, ↓srt_n, ↓c_srt, ↓srtC_l, ↓srtC_f, ↓srtC_d, ↓lsA_t, ↓lsA_l, ↓lsA_n, ↓lsA_r, ↓c_lsA, ↓c_isi_list, ↓c_isi_dict, ↓c_isi_tuple, ↓isiB_l, ↓isiB_f, ↓isiB_d, ↓isiB_k, ↓isi_n_list, ↓isi_n_tuple, ↓x_dListIt, ↓litK_d, ↓augK_s, ↓iadd_ii, ↓c_iaddn, ↓c_iaddl, ↓abs_i, ↓x_dRevL, ↓revK_n, ↓revK_l, ↓cnt_n, ↓cnt_l, ↓idx_l, ↓isLst_l, ↓isLst_n, ↓c_pop, ↓c_popD, ↓c_isD, ↓lcD2_d, ↓lcD2_k, ↓tk_0, ↓tk_a0, ↓tk_a1, ↓tk_a2, ↓tk_a3, ↓tk_a4, dVar_0, dVar_1, dVar_2, dVar_3, dVar_4, dVar_5, dVar_6, dVar_7, dVar_8, dVar_9, dVar_10, dVar_11, dVar_12, dVar_13, dVar_14, dVar_15, old_dat, old_loc, old_raw, old_exc, old_ro, wDs_nil, wDs_cons, x_dC, x_dRaw, x_dFrz, x_dCell, x_dStl, x_aNil, x_aCons, x_dLst, x_dTup, x_tVal, x_tAndD, x_tOrD, x_tNotD, x_tYesD, x_dAndV, x_dOrV, x_dNotV, x_dIfE, x_dOp, x_dUn, x_dCB, x_dChain, intK_i, x_oNo, x_oSome, x_dSl, x_gNm, x_gNl0, x_gCn, x_gTp, x_gSb, x_dCall, seqK_tup, seqK_lst, seqK_new, seqK_ro, seqK_str, rng1_i, rng2_i, x_iSeq, x_iRange1, x_iRange2, x_dBM, x_dBM0, x_isStr, bools_k, ints_k, strs_k, lstK_lst, lstK_new, sqK_lst, sqK_new, sqK_tup, sqK_ro, x_oAll, x_oSum, x_oJoin, x_oList, x_oTuple, x_oIsN, x_oNotN, x_lc, int_i, int_b, mem_l, mem_t, mem_n, x_srtS, mul_ni, mul_li, wD_dat, wD_new, wB_b, nN_dat, nN_loc, nN_raw, nN_ro, nN_exc, aO_nil, aO_cons, stl_dat, stl_new, stl_loc, stl_raw, stl_ro, stl_exc, cel_dat, cel_new, cel_loc, cel_raw, cel_ro, add_int, add_strD, add_tup, add_ll, add_ln, add_nl, add_nn, oI_ii, oI0_ii, neg_i, inv_i, mul_int, eq_dd, ne_dd, eq_nd, ne_nd, eq_dn, ne_dn, eq_nn, ne_nn, sign_ss, ix_s, ix_tupD, ix_lstD, ix_new, ix_ro, sl_s, sl_tupD, sl_lstD, sl_new, sl_ro, len_str, len_tup, len_lst, len_new, len_ro, max_ii, min_ii, isi_int, isi_bool, isi_str, isi_list, isi_tuple, isi_dict, exitQ_dat, exitQ_new, exitQ_raw, cl_nil, cl_none, cl_dat, cl_ro, cl_raw, cl_odat, dVar_16, dVar_17, dVar_18, dVar_19, dVar_20, dVar_21, dVar_22, dVar_23, dVar_24, dVar_25, dVar_26, dVar_27, dVar_28, dVar_29, dVar_30, dVar_31, dVar_32, dVar_33, dVar_34, dVar_35, noD_n, noD_b, noD_i, noD_s, noD_l, noD_t, noDs_nil, noDs_cons, noDs_app, noDs_i, noDs_s, noDs_b, exC_k, isIntD_none, isIntD_bool, isIntD_int, isIntD_str, isIntD_list, isIntD_tuple, isIntD_dict, isBoolD_none, isBoolD_bool, isBoolD_int, isBoolD_str, isBoolD_list, isBoolD_tuple, isBoolD_dict, isStrD_none, isStrD_bool, isStrD_int, isStrD_str, isStrD_list, isStrD_tuple, isStrD_dict, isListD_none, isListD_bool, isListD_int, isListD_str, isListD_list, isListD_tuple, isListD_dict, isTupD_none, isTupD_bool, isTupD_int, isTupD_str, isTupD_list, isTupD_tuple, isTupD_dict, isDictD_none, isDictD_bool, isDictD_int, isDictD_str, isDictD_list, isDictD_tuple, isDictD_dict, neg_i2, inv_i2, x_iSeqD, seqDK_d, seqDK_t, seqDK_l, seqDK_s, seqDK_n, seqDK_r, seqDK_c, x_iZipD, zipK_t, zipK_l, x_dNewD, lcD_d, keysK_nil, keysK_i, keysK_s, keysP_nil, keysP_i, keysP_s, c_setD, memA_dict, memA_l, memA_t, memA_n, c_memA, memC_d, memC_l, memC_f, cell_nd, cell_nk, stl_nd, stl_nk, ex_nd, ex_nk, x_dCellA, cellA_new, nextA_eq, stateA_eq, cellA_eq, fg_nil, fg_cons, lcR_l, lcR_f, lcK_l, c_len, c_ix, c_ixC, c_app, c_set, c_isL, c_lstK, c_sqK, c_mem, c_addn, c_addl, c_sl, c_seqK, seqC_l, seqC_f, c_wD, wdC_l, wdC_f, exC_l, exC_f, exC_d, cellK_new, cellK_dat, cellK_loc, get_a0, get_a1, get_a2, get_a3, set_a0, set_a1, set_a2, set_a3, lnD_str, lnD_tup, lnD_lst, lnD_new, lnD_ro, lnD_d, c_lenD, lnC_d, lnC_k, lnC_l, lnC_f, eq_cN, eq_cD, eq_Nc, eq_Dc, ne_cN, ne_cD, ne_Nc, ne_Dc, x_iEnumD, enumK_t, enumK_l, enumK_r, enumK_tk, enumK_lk, srt_d, srt_l, srt_n, c_srt, srtC_l, srtC_f, srtC_d, lsA_t, lsA_l, lsA_n, lsA_r, c_lsA, c_isi_list, c_isi_dict, c_isi_tuple, isiB_l, isiB_f, isiB_d, isiB_k, isi_n_list, isi_n_tuple, x_dListIt, litK_d, augK_s, iadd_ii, c_iaddn, c_iaddl, abs_i, x_dRevL, revK_n, revK_l, cnt_n, cnt_l, idx_l, isLst_l, isLst_n, c_pop, c_popD, c_isD, lcD2_d, lcD2_k, tk_0, tk_a0, tk_a1, tk_a2, tk_a3, tk_a4, isR_h, isR_app, isR_last, exitQ_ge, exitQ_lt, cl_loc, nle_h, nlt_h, ile_h, ilt_h, cmul_l, cmul_r, cdiv_h, cpow_h, csh_h, csh_0, oLt, oLe, oGt, oGe, oSub, oMod, oDiv, oPow, oShl, oShr, oAnd, oOr, oXor, isRaw, isNon, startD, List.length_map, decide_eq_true_eq, List.map_cons, List.map_nil, List.length_cons, List.length_nil, List.cons_append, List.nil_append, List.append_nil, List.replicate, List.getElem?_cons_zero, List.getElem?_cons_succ, List.set_cons_zero, List.set_cons_succ, List.take_length, true_and, and_true, eqv_int, eqv_bool, eqv_str, dep_int, dep_bool, dep_str, dep_none, min0l, min0r, Option.map_some, Option.map_none, if_true, if_false, Bool.and_true, Bool.true_and, Bool.false_eq_true, Bool.not_true, Bool.not_false, reduceIte, wipeD, List.append_assoc, at_nn, Option.some.injEq, exists_eq_left, exists_eq_left', Int.reduceToNat, Int.reduceLE, Int.reduceLT, List.length_set, Nat.reduceAdd, Nat.reduceLeDiff, Nat.reduceSub, dat_dat, dat_new, lst_lst, lst_new, seq_tup, seq_lst, seq_new, seq_ro, List.length_append, Nat.zero_add, eqv_tup, eqv_lst, eqvA_nn, eqvA_cc, eqvA_nc, eqvA_cn, dep_tup, dep_lst, depA_nil, depA_cons, Nat.max_zero, Nat.zero_max, Nat.lt_add_one, forall_const, oShlA, rng_c, Int.toNat_natCast, List.flatten_nil, decide_true, decide_false])
def sp_is_number : SpD := fun es μ q x => ∃ (d : PyData) (a : Int) (b : Int), es = [.dat d, .dat (.int a), .dat (.int b)] ∧ (q (.dat (.bool (isNum d a b))) μ)
theorem e_is_number {d : PyData} {a : Int} {b : Int} {μ : Mu} {q : PQ} {x : XQ} : sp_is_number [.dat d, .dat (.int a), .dat (.int b)] μ q x = (q (.dat (.bool (isNum d a b))) μ) := by
  refine propext ⟨fun hyp0 => ?_, fun hyp0 => ⟨d, a, b, rfl, hyp0⟩⟩
  obtain ⟨d', a', b', eq0, hyp0⟩ := hyp0
  simp only [List.cons.injEq, Exn.mk.injEq, EV.dat.injEq, EV.loc.injEq, EV.new.injEq, EV.ro.injEq, EV.exc.injEq, PyData.int.injEq, PyData.str.injEq, PyData.bool.injEq, PyData.list.injEq, PyData.tuple.injEq, and_true, true_and, and_assoc, map_int_inj, ] at eq0
  obtain ⟨rfl, rfl, rfl⟩ := eq0
  exact hyp0
theorem ok_is_number (T : Top K mg) : DefAt P w K mg base "is_number" 1 ["thing", "least", "most"] [] [] sp_is_number := by
  refine def_ok sp_is_number T.F_is_number sc_is_number T.m_is_number T.b_is_number (fun cdv A outer s H E hr tk pw => (dss_one (ds_ret (de_and (de_callB call_isiY cs_isi (by rfl) T.n_isinstance bb_isinstance (da_cons (dv 0) (da_cons (de_ty T.n_int bt_int) da_nil))) (de_and (de_not (de_callB call_isiY cs_isi (by rfl) T.n_isinstance bb_isinstance (da_cons (dv 0) (da_cons (de_ty T.n_bool bt_bool) da_nil)))) (de_one (de_chain op_le os_le op_le os_le (dv 1) (dv 0) (dv 2)))))))) ?_
  rintro es μ q x - ⟨d, a, b, rfl, h⟩
  refine s_ret ?_
  (try walk_at "dx")
  cases d with
  | int i =>
    simp only [isIntD, isBoolD, isNum] at h ⊢
    (try walk_at "dx")
    by_cases h1 : a ≤ i
    · simpa [h1] using h
    · simpa [h1] using h
  | _ =>
    simp only [isIntD, isBoolD, isNum] at h ⊢
    (try walk_at "dx")
    exact h
local macro_rules | `(tactic| walk_at "dx") => `(tactic| simp (disch := first | assumption | omega) only [↓e_joined, ↓e_moved, ↓e_common, ↓e_without, ↓ix_sz, ↓gTp_pt, ↓enumK_sh, ↓e_places, ↓e_count, ↓e_nothing, ↓e_has, ↓e_spread, ↓e_is_number, ↓isNum_i, ↓isNum_b, ↓isNum_n, ↓isNum_s, ↓isNum_l, ↓isNum_t, ↓dVar_0, ↓dVar_1, ↓dVar_2, ↓dVar_3, ↓dVar_4, ↓dVar_5, ↓dVar_6, ↓dVar_7, ↓dVar_8, ↓dVar_9, ↓dVar_10, ↓dVar_11, ↓dVar_12, ↓dVar_13, ↓dVar_14, ↓dVar_15, ↓old_dat, ↓old_loc, ↓old_raw, ↓old_exc, ↓old_ro, ↓wDs_nil, ↓wDs_cons, ↓x_dC, ↓x_dRaw, ↓x_dFrz, ↓x_dCell, ↓x_dStl, ↓x_aNil, ↓x_aCons, ↓x_dLst, ↓x_dTup, ↓x_tVal, ↓x_tAndD, ↓x_tOrD, ↓x_tNotD, ↓x_tYesD, ↓x_dAndV, ↓x_dOrV, ↓x_dNotV, ↓x_dIfE, ↓x_dOp, ↓x_dUn, ↓x_dCB, ↓x_dChain, ↓intK_i, ↓x_oNo, ↓x_oSome, ↓x_dSl, ↓x_gNm, ↓x_gNl0, ↓x_gCn, ↓x_gTp, ↓x_gSb, ↓x_dCall, ↓seqK_tup, ↓seqK_lst, ↓seqK_new, ↓seqK_ro, ↓seqK_str, ↓rng1_i, ↓rng2_i, ↓x_iSeq, ↓x_iRange1, ↓x_iRange2, ↓x_dBM, ↓x_dBM0, ↓x_isStr, ↓bools_k, ↓ints_k, ↓strs_k, ↓lstK_lst, ↓lstK_new, ↓sqK_lst, ↓sqK_new, ↓sqK_tup, ↓sqK_ro, ↓x_oAll, ↓x_oSum, ↓x_oJoin, ↓x_oList, ↓x_oTuple, ↓x_oIsN, ↓x_oNotN, ↓x_lc, ↓int_i, ↓int_b, ↓mem_l, ↓mem_t, ↓mem_n, ↓x_srtS, ↓mul_ni, ↓mul_li, ↓wD_dat, ↓wD_new, ↓wB_b, ↓nN_dat, ↓nN_loc, ↓nN_raw, ↓nN_ro, ↓nN_exc, ↓aO_nil, ↓aO_cons, ↓stl_dat, ↓stl_new, ↓stl_loc, ↓stl_raw, ↓stl_ro, ↓stl_exc, ↓cel_dat, ↓cel_new, ↓cel_loc, ↓cel_raw, ↓cel_ro, ↓add_int, ↓add_strD, ↓add_tup, ↓add_ll, ↓add_ln, ↓add_nl, ↓add_nn, ↓oI_ii, ↓oI0_ii, ↓neg_i, ↓inv_i, ↓mul_int, ↓eq_dd, ↓ne_dd, ↓eq_nd, ↓ne_nd, ↓eq_dn, ↓ne_dn, ↓eq_nn, ↓ne_nn, ↓sign_ss, ↓ix_s, ↓ix_tupD, ↓ix_lstD, ↓ix_new, ↓ix_ro, ↓sl_s, ↓sl_tupD, ↓sl_lstD, ↓sl_new, ↓sl_ro, ↓len_str, ↓len_tup, ↓len_lst, ↓len_new, ↓len_ro, ↓max_ii, ↓min_ii, ↓isi_int, ↓isi_bool, ↓isi_str, ↓isi_list, ↓isi_tuple, ↓isi_dict, ↓exitQ_dat, ↓exitQ_new, ↓exitQ_raw, ↓cl_nil, ↓cl_none, ↓cl_dat, ↓cl_ro, ↓cl_raw, ↓cl_odat, ↓dVar_16, ↓dVar_17, ↓dVar_18, ↓dVar_19, ↓dVar_20, ↓dVar_21, ↓dVar_22, ↓dVar_23, ↓dVar_24, ↓dVar_25, ↓dVar_26, ↓dVar_27, ↓dVar_28, ↓dVar_29, ↓dVar_30, ↓dVar_31, ↓dVar_32, ↓dVar_33, ↓dVar_34, ↓dVar_35, ↓noD_n, ↓noD_b, ↓noD_i, ↓noD_s, ↓noD_l, ↓noD_t, ↓noDs_nil, ↓noDs_cons, ↓noDs_app, ↓noDs_i, ↓noDs_s, ↓noDs_b, ↓exC_k, ↓isIntD_none, ↓isIntD_bool, ↓isIntD_int, ↓isIntD_str, ↓isIntD_list, ↓isIntD_tuple, ↓isIntD_dict, ↓isBoolD_none, ↓isBoolD_bool, ↓isBoolD_int, ↓isBoolD_str, ↓isBoolD_list, ↓isBoolD_tuple, ↓isBoolD_dict, ↓isStrD_none, ↓isStrD_bool, ↓isStrD_int, ↓isStrD_str, ↓isStrD_list, ↓isStrD_tuple, ↓isStrD_dict, ↓isListD_none, ↓isListD_bool, ↓isListD_int, ↓isListD_str, ↓isListD_list, ↓isListD_tuple, ↓isListD_dict, ↓isTupD_none, ↓isTupD_bool, ↓isTupD_int, ↓isTupD_str, ↓isTupD_list, ↓isTupD_tuple, ↓isTupD_dict, ↓isDictD_none, ↓isDictD_bool, ↓isDictD_int, ↓isDictD_str, ↓isDictD_list, ↓isDictD_tuple, ↓isDictD_dict, ↓neg_i2, ↓inv_i2, ↓x_iSeqD, ↓seqDK_d, ↓seqDK_t, ↓seqDK_l, ↓seqDK_s, ↓seqDK_n, ↓seqDK_r, ↓seqDK_c, ↓x_iZipD, ↓zipK_t, ↓zipK_l, ↓x_dNewD, ↓lcD_d, ↓keysK_nil, ↓keysK_i, ↓keysK_s, ↓keysP_nil, ↓keysP_i, ↓keysP_s, ↓c_setD, ↓memA_dict, ↓memA_l, ↓memA_t, ↓memA_n, ↓c_memA, ↓memC_d, ↓memC_l, ↓memC_f, ↓cell_nd, ↓cell_nk, ↓stl_nd, ↓stl_nk, ↓ex_nd, ↓ex_nk, ↓x_dCellA, ↓cellA_new, ↓nextA_eq, ↓stateA_eq, ↓cellA_eq, ↓fg_nil, ↓fg_cons, ↓lcR_l, ↓lcR_f, ↓lcK_l, ↓c_len, ↓c_ix, ↓c_ixC, ↓c_app, ↓c_set, ↓c_isL, ↓c_lstK, ↓c_sqK, ↓c_mem, ↓c_addn, ↓c_addl, ↓c_sl, ↓c_seqK, ↓seqC_l, ↓seqC_f, ↓c_wD, ↓wdC_l, ↓wdC_f, ↓exC_l, ↓exC_f, ↓exC_d, ↓cellK_new, ↓cellK_dat, ↓cellK_loc, ↓get_a0, ↓get_a1, ↓get_a2, ↓get_a3, ↓set_a0, ↓set_a1, ↓set_a2, ↓set_a3, ↓lnD_str, ↓lnD_tup, ↓lnD_lst, ↓lnD_new, ↓lnD_ro, ↓lnD_d, ↓c_lenD, ↓lnC_d, ↓lnC_k, ↓lnC_l, ↓lnC_f, ↓eq_cN, ↓eq_cD, ↓eq_Nc, ↓eq_Dc, ↓ne_cN, ↓ne_cD, ↓ne_Nc, ↓ne_Dc, ↓x_iEnumD, ↓enumK_t, ↓enumK_l, ↓enumK_r, ↓enumK_tk, ↓enumK_lk, ↓srt_d, ↓srt_l, ↓srt_n, ↓c_srt, ↓srtC_l, ↓srtC_f, ↓srtC_d, ↓lsA_t, ↓lsA_l, ↓lsA_n, ↓lsA_r, ↓c_lsA, ↓c_isi_list, ↓c_isi_dict, ↓c_isi_tuple, ↓isiB_l, ↓isiB_f, ↓isiB_d, ↓isiB_k, ↓isi_n_list, ↓isi_n_tuple, ↓x_dListIt, ↓litK_d, ↓augK_s, ↓iadd_ii, ↓c_iaddn, ↓c_iaddl, ↓abs_i, ↓x_dRevL, ↓revK_n, ↓revK_l, ↓cnt_n, ↓cnt_l, ↓idx_l, ↓isLst_l, ↓isLst_n, ↓c_pop, ↓c_popD, ↓c_isD, ↓lcD2_d, ↓lcD2_k, ↓tk_0, ↓tk_a0, ↓tk_a1, ↓tk_a2, ↓tk_a3, ↓tk_a4, dVar_0, dVar_1, dVar_2, dVar_3, dVar_4, dVar_5, dVar_6, dVar_7, dVar_8, dVar_9, dVar_10, dVar_11, dVar_12, dVar_13, dVar_14, dVar_15, old_dat, old_loc, old_raw, old_exc, old_ro, wDs_nil, wDs_cons, x_dC, x_dRaw, x_dFrz, x_dCell, x_dStl, x_aNil, x_aCons, x_dLst, x_dTup, x_tVal, x_tAndD, x_tOrD, x_tNotD, x_tYesD, x_dAndV, x_dOrV, x_dNotV, x_dIfE, x_dOp, x_dUn, x_dCB, x_dChain, intK_i, x_oNo, x_oSome, x_dSl, x_gNm, x_gNl0, x_gCn, x_gTp, x_gSb, x_dCall, seqK_tup, seqK_lst, seqK_new, seqK_ro, seqK_str, rng1_i, rng2_i, x_iSeq, x_iRange1, x_iRange2, x_dBM, x_dBM0, x_isStr, bools_k, ints_k, strs_k, lstK_lst, lstK_new, sqK_lst, sqK_new, sqK_tup, sqK_ro, x_oAll, x_oSum, x_oJoin, x_oList, x_oTuple, x_oIsN, x_oNotN, x_lc, int_i, int_b, mem_l, mem_t, mem_n, x_srtS, mul_ni, mul_li, wD_dat, wD_new, wB_b, nN_dat, nN_loc, nN_raw, nN_ro, nN_exc, aO_nil, aO_cons, stl_dat, stl_new, stl_loc, stl_raw, stl_ro, stl_exc, cel_dat, cel_new, cel_loc, cel_raw, cel_ro, add_int, add_strD, add_tup, add_ll, add_ln, add_nl, add_nn, oI_ii, oI0_ii, neg_i, inv_i, mul_int, eq_dd, ne_dd, eq_nd, ne_nd, eq_dn, ne_dn, eq_nn, ne_nn, sign_ss, ix_s, ix_tupD, ix_lstD, ix_new, ix_ro, sl_s, sl_tupD, sl_lstD, sl_new, sl_ro, len_str, len_tup, len_lst, len_new, len_ro, max_ii, min_ii, isi_int, isi_bool, isi_str, isi_list, isi_tuple, isi_dict, exitQ_dat, exitQ_new, exitQ_raw, cl_nil, cl_none, cl_dat, cl_ro, cl_raw, cl_odat, dVar_16, dVar_17, dVar_18, dVar_19, dVar_20, dVar_21, dVar_22, dVar_23, dVar_24, dVar_25, dVar_26, dVar_27, dVar_28, dVar_29, dVar_30, dVar_31, dVar_32, dVar_33, dVar_34, dVar_35, noD_n, noD_b, noD_i, noD_s, noD_l, noD_t, noDs_nil, noDs_cons, noDs_app, noDs_i, noDs_s, noDs_b, exC_k, isIntD_none, isIntD_bool, isIntD_int, isIntD_str, isIntD_list, isIntD_tuple, isIntD_dict, isBoolD_none, isBoolD_bool, isBoolD_int, isBoolD_str, isBoolD_list, isBoolD_tuple, isBoolD_dict, isStrD_none, isStrD_bool, isStrD_int, isStrD_str, isStrD_list, isStrD_tuple, isStrD_dict, isListD_none, isListD_bool, isListD_int, isListD_str, isListD_list, isListD_tuple, isListD_dict, isTupD_none, isTupD_bool, isTupD_int, isTupD_str, isTupD_list, isTupD_tuple, isTupD_dict, isDictD_none, isDictD_bool, isDictD_int, isDictD_str, isDictD_list, isDictD_tuple, isDictD_dict, neg_i2, inv_i2, x_iSeqD, seqDK_d, seqDK_t, seqDK_l, seqDK_s, seqDK_n, seqDK_r, seqDK_c, x_iZipD, zipK_t, zipK_l, x_dNewD, lcD_d, keysK_nil, keysK_i, keysK_s, keysP_nil, keysP_i, keysP_s, c_setD, memA_dict, memA_l, memA_t, memA_n, c_memA, memC_d, memC_l, memC_f, cell_nd, cell_nk, stl_nd, stl_nk, ex_nd, ex_nk, x_dCellA, cellA_new, nextA_eq, stateA_eq, cellA_eq, fg_nil, fg_cons, lcR_l, lcR_f, lcK_l, c_len, c_ix, c_ixC, c_app, c_set, c_isL, c_lstK, c_sqK, c_mem, c_addn, c_addl, c_sl, c_seqK, seqC_l, seqC_f, c_wD, wdC_l, wdC_f, exC_l, exC_f, exC_d, cellK_new, cellK_dat, cellK_loc, get_a0, get_a1, get_a2, get_a3, set_a0, set_a1, set_a2, set_a3, lnD_str, lnD_tup, lnD_lst, lnD_new, lnD_ro, lnD_d, c_lenD, lnC_d, lnC_k, lnC_l, lnC_f, eq_cN, eq_cD, eq_Nc, eq_Dc, ne_cN, ne_cD, ne_Nc, ne_Dc, x_iEnumD, enumK_t, enumK_l, enumK_r, enumK_tk, enumK_lk, srt_d, srt_l, srt_n, c_srt, srtC_l, srtC_f, srtC_d, lsA_t, lsA_l, lsA_n, lsA_r, c_lsA, c_isi_list, c_isi_dict, c_isi_tuple, isiB_l, isiB_f, isiB_d, isiB_k, isi_n_list, isi_n_tuple, x_dListIt, litK_d, augK_s, iadd_ii, c_iaddn, c_iaddl, abs_i, x_dRevL, revK_n, revK_l, cnt_n, cnt_l, idx_l, isLst_l, isLst_n, c_pop, c_popD, c_isD, lcD2_d, lcD2_k, tk_0, tk_a0, tk_a1, tk_a2, tk_a3, tk_a4, isR_h, isR_app, isR_last, exitQ_ge, exitQ_lt, cl_loc, nle_h, nlt_h, ile_h, ilt_h, cmul_l, cmul_r, cdiv_h, cpow_h, csh_h, csh_0, oLt, oLe, oGt, oGe, oSub, oMod, oDiv, oPow, oShl, oShr, oAnd, oOr, oXor, isRaw, isNon, startD, List.length_map, decide_eq_true_eq, List.map_cons, List.map_nil, List.length_cons, List.length_nil, List.cons_append, List.nil_append, List.append_nil, List.replicate, List.getElem?_cons_zero, List.getElem?_cons_succ, List.set_cons_zero, List.set_cons_succ, List.take_length, true_and, and_true, eqv_int, eqv_bool, eqv_str, dep_int, dep_bool, dep_str, dep_none, min0l, min0r, Option.map_some, Option.map_none, if_true, if_false, Bool.and_true, Bool.true_and, Bool.false_eq_true, Bool.not_true, Bool.not_false, reduceIte, wipeD, List.append_assoc, at_nn, Option.some.injEq, exists_eq_left, exists_eq_left', Int.reduceToNat, Int.reduceLE, Int.reduceLT, List.length_set, Nat.reduceAdd, Nat.reduceLeDiff, Nat.reduceSub, dat_dat, dat_new, lst_lst, lst_new, seq_tup, seq_lst, seq_new, seq_ro, List.length_append, Nat.zero_add, eqv_tup, eqv_lst, eqvA_nn, eqvA_cc, eqvA_nc, eqvA_cn, dep_tup, dep_lst, depA_nil, depA_cons, Nat.max_zero, Nat.zero_max, Nat.lt_add_one, forall_const, oShlA, rng_c, Int.toNat_natCast, List.flatten_nil, decide_true, decide_false])

def sp_is_place : SpD := fun es μ q x => ∃ (w : Nat) (h : Nat) (a : Int) (b : Int), es = [.dat (szD w h), .dat (.tuple [.int a, .int b])] ∧ (q (.dat (.bool (decide (0 ≤ a ∧ a < w ∧ 0 ≤ b ∧ b < h)))) μ)
theorem e_is_place {w : Nat} {h : Nat} {a : Int} {b : Int} {μ : Mu} {q : PQ} {x : XQ} : sp_is_place [.dat (szD w h), .dat (.tuple [.int a, .int b])] μ q x = (q (.dat (.bool (decide (0 ≤ a ∧ a < w ∧ 0 ≤ b ∧ b < h)))) μ) := by
  refine propext ⟨fun hyp0 => ?_, fun hyp0 => ⟨w, h, a, b, rfl, hyp0⟩⟩
  obtain ⟨w', h', a', b', eq0, hyp0⟩ := hyp0
  simp only [List.cons.injEq, Exn.mk.injEq, EV.dat.injEq, EV.loc.injEq, EV.new.injEq, EV.ro.injEq, EV.exc.injEq, PyData.int.injEq, PyData.str.injEq, PyData.bool.injEq, PyData.list.injEq, PyData.tuple.injEq, and_true, true_and, and_assoc, map_int_inj, szD_inj] at eq0
  obtain ⟨rfl, rfl, rfl, rfl⟩ := eq0
  exact hyp0
theorem ok_is_place (T : Top K mg) : DefAt P w K mg base "is_place" 2 ["size", "thing"] [] [] sp_is_place := by
  refine def_ok sp_is_place T.F_is_place sc_is_place T.m_is_place T.b_is_place (fun cdv A outer s H E hr tk pw => (dss_cons (ds_if (dw_or (dt_not (dt_val (de_callB call_isiY cs_isi (by rfl) T.n_isinstance bb_isinstance (da_cons (dv 1) (da_cons (de_ty T.n_tuple bt_tuple) da_nil))))) (dw_or1 (dt_cmp (opA_ne hr.units) os_ne (de_callB call_lenA cs_lenD (by rfl) T.n_len bb_len (da_cons (dv 1) da_nil)) de_int (nomark _)))).dt (dss_one (ds_ret de_bl)) dss_nil)
    (dss_one (ds_ret (de_and (de_call (ok_is_number T) hr (by decide) (by rfl) tk (fun _ _ => .nil) (da_cons (de_stl (de_ix ix_seq os_ix (dv 1) de_int (fun _ _ => rfl))) (da_cons de_int (da_cons (de_stl (de_op op_sub os_sub (de_ix ix_seq os_ix (dv 0) de_int (fun _ _ => rfl)) de_int)) da_nil)))) (de_one (de_call (ok_is_number T) hr (by decide) (by rfl) tk (fun _ _ => .nil) (da_cons (de_stl (de_ix ix_seq os_ix (dv 1) de_int (fun _ _ => rfl))) (da_cons de_int (da_cons (de_stl (de_op op_sub os_sub (de_ix ix_seq os_ix (dv 0) de_int (fun _ _ => rfl)) de_int)) da_nil)))))))))) ?_
  rintro es μ q x - ⟨w, h, a, b, rfl, k⟩
  simp only [szD_eq]
  walk_at "run"
  rw [if_neg (by simp)]
  walk_at "run"
  split
  · rename_i h1
    rw [Bool.and_eq_true, decide_eq_true_eq, decide_eq_true_eq] at h1
    have e : (decide (0 ≤ b) && decide (b ≤ (h : Int) - 1)) = decide (0 ≤ a ∧ a < w ∧ 0 ≤ b ∧ b < h) := by
      rw [Bool.eq_iff_iff, Bool.and_eq_true, decide_eq_true_eq, decide_eq_true_eq, decide_eq_true_eq]
      omega
    rw [e]
    exact k
  · rename_i h1
    rw [Bool.and_eq_true, decide_eq_true_eq, decide_eq_true_eq] at h1
    rw [decide_eq_false (by omega)] at k
    exact k

local macro_rules | `(tactic| walk_at "dx") => `(tactic| simp (disch := first | assumption | omega) only [↓e_joined, ↓e_moved, ↓e_common, ↓e_without, ↓ix_sz, ↓gTp_pt, ↓enumK_sh, ↓e_places, ↓e_count, ↓e_nothing, ↓e_has, ↓e_spread, ↓e_is_number, ↓isNum_i, ↓isNum_b, ↓isNum_n, ↓isNum_s, ↓isNum_l, ↓isNum_t, ↓e_is_place, ↓dVar_0, ↓dVar_1, ↓dVar_2, ↓dVar_3, ↓dVar_4, ↓dVar_5, ↓dVar_6, ↓dVar_7, ↓dVar_8, ↓dVar_9, ↓dVar_10, ↓dVar_11, ↓dVar_12, ↓dVar_13, ↓dVar_14, ↓dVar_15, ↓old_dat, ↓old_loc, ↓old_raw, ↓old_exc, ↓old_ro, ↓wDs_nil, ↓wDs_cons, ↓x_dC, ↓x_dRaw, ↓x_dFrz, ↓x_dCell, ↓x_dStl, ↓x_aNil, ↓x_aCons, ↓x_dLst, ↓x_dTup, ↓x_tVal, ↓x_tAndD, ↓x_tOrD, ↓x_tNotD, ↓x_tYesD, ↓x_dAndV, ↓x_dOrV, ↓x_dNotV, ↓x_dIfE, ↓x_dOp, ↓x_dUn, ↓x_dCB, ↓x_dChain, ↓intK_i, ↓x_oNo, ↓x_oSome, ↓x_dSl, ↓x_gNm, ↓x_gNl0, ↓x_gCn, ↓x_gTp, ↓x_gSb, ↓x_dCall, ↓seqK_tup, ↓seqK_lst, ↓seqK_new, ↓seqK_ro, ↓seqK_str, ↓rng1_i, ↓rng2_i, ↓x_iSeq, ↓x_iRange1, ↓x_iRange2, ↓x_dBM, ↓x_dBM0, ↓x_isStr, ↓bools_k, ↓ints_k, ↓strs_k, ↓lstK_lst, ↓lstK_new, ↓sqK_lst, ↓sqK_new, ↓sqK_tup, ↓sqK_ro, ↓x_oAll, ↓x_oSum, ↓x_oJoin, ↓x_oList, ↓x_oTuple, ↓x_oIsN, ↓x_oNotN, ↓x_lc, ↓int_i, ↓int_b, ↓mem_l, ↓mem_t, ↓mem_n, ↓x_srtS, ↓mul_ni, ↓mul_li, ↓wD_dat, ↓wD_new, ↓wB_b, ↓nN_dat, ↓nN_loc, ↓nN_raw, ↓nN_ro, ↓nN_exc, ↓aO_nil, ↓aO_cons, ↓stl_dat, ↓stl_new, ↓stl_loc, ↓stl_raw, ↓stl_ro, ↓stl_exc, ↓cel_dat, ↓cel_new, ↓cel_loc, ↓cel_raw, ↓cel_ro, ↓add_int, ↓add_strD, ↓add_tup, ↓add_ll, ↓add_ln, ↓add_nl, ↓add_nn, ↓oI_ii, ↓oI0_ii, ↓neg_i, ↓inv_i, ↓mul_int, ↓eq_dd, ↓ne_dd, ↓eq_nd, ↓ne_nd, ↓eq_dn, ↓ne_dn, ↓eq_nn, ↓ne_nn, ↓sign_ss, ↓ix_s, ↓ix_tupD, ↓ix_lstD, ↓ix_new, ↓ix_ro, ↓sl_s, ↓sl_tupD, ↓sl_lstD, ↓sl_new, ↓sl_ro, ↓len_str, ↓len_tup, ↓len_lst, ↓len_new, ↓len_ro, ↓max_ii, ↓min_ii, ↓isi_int, ↓isi_bool, ↓isi_str, ↓isi_list, ↓isi_tuple, ↓isi_dict, ↓exitQ_dat, ↓exitQ_new, ↓exitQ_raw, ↓cl_nil, ↓cl_none, ↓cl_dat, ↓cl_ro, ↓cl_raw, ↓cl_odat, ↓dVar_16, ↓dVar_17, ↓dVar_18, ↓dVar_19, ↓dVar_20, ↓dVar_21, ↓dVar_22, ↓dVar_23, ↓dVar_24, ↓dVar_25, ↓dVar_26, ↓dVar_27, ↓dVar_28, ↓dVar_29, ↓dVar_30, ↓dVar_31, ↓dVar_32, ↓dVar_33, ↓dVar_34, ↓dVar_35, ↓noD_n, ↓noD_b, ↓noD_i, ↓noD_s, ↓noD_l, ↓noD_t, ↓noDs_nil, ↓noDs_cons, ↓noDs_app, ↓noDs_i, ↓noDs_s, ↓noDs_b, ↓exC_k, ↓isIntD_none, ↓isIntD_bool, ↓isIntD_int, ↓isIntD_str, ↓isIntD_list, ↓isIntD_tuple, ↓isIntD_dict, ↓isBoolD_none, ↓isBoolD_bool, ↓isBoolD_int, ↓isBoolD_str, ↓isBoolD_list, ↓isBoolD_tuple, ↓isBoolD_dict, ↓isStrD_none, ↓isStrD_bool, ↓isStrD_int, ↓isStrD_str, ↓isStrD_list, ↓isStrD_tuple, ↓isStrD_dict, ↓isListD_none, ↓isListD_bool, ↓isListD_int, ↓isListD_str, ↓isListD_list, ↓isListD_tuple, ↓isListD_dict, ↓isTupD_none, ↓isTupD_bool, ↓isTupD_int, ↓isTupD_str, ↓isTupD_list, ↓isTupD_tuple, ↓isTupD_dict, ↓isDictD_none, ↓isDictD_bool, ↓isDictD_int, ↓isDictD_str, ↓isDictD_list, ↓isDictD_tuple, ↓isDictD_dict, ↓neg_i2, ↓inv_i2, ↓x_iSeqD, ↓seqDK_d, ↓seqDK_t, ↓seqDK_l, ↓seqDK_s, ↓seqDK_n, ↓seqDK_r, ↓seqDK_c, ↓x_iZipD, ↓zipK_t, ↓zipK_l, ↓x_dNewD, ↓lcD_d, ↓keysK_nil, ↓keysK_i, ↓keysK_s, ↓keysP_nil, ↓keysP_i, ↓keysP_s, ↓c_setD, ↓memA_dict, ↓memA_l, ↓memA_t, ↓memA_n, ↓c_memA, ↓memC_d, ↓memC_l, ↓memC_f, ↓cell_nd, ↓cell_nk, ↓stl_nd, ↓stl_nk, ↓ex_nd, ↓ex_nk, ↓x_dCellA, ↓cellA_new, ↓nextA_eq, ↓stateA_eq, ↓cellA_eq, ↓fg_nil, ↓fg_cons, ↓lcR_l, ↓lcR_f, ↓lcK_l, ↓c_len, ↓c_ix, ↓c_ixC, ↓c_app, ↓c_set, ↓c_isL, ↓c_lstK, ↓c_sqK, ↓c_mem, ↓c_addn, ↓c_addl, ↓c_sl, ↓c_seqK, ↓seqC_l, ↓seqC_f, ↓c_wD, ↓wdC_l, ↓wdC_f, ↓exC_l, ↓exC_f, ↓exC_d, ↓cellK_new, ↓cellK_dat, ↓cellK_loc, ↓get_a0, ↓get_a1, ↓get_a2, ↓get_a3, ↓set_a0, ↓set_a1, ↓set_a2, ↓set_a3, ↓lnD_str, ↓lnD_tup, ↓lnD_lst, ↓lnD_new, ↓lnD_ro, ↓lnD_d, ↓c_lenD, ↓lnC_d, ↓lnC_k, ↓lnC_l, ↓lnC_f, ↓eq_cN, ↓eq_cD, ↓eq_Nc, ↓eq_Dc, ↓ne_cN, ↓ne_cD, ↓ne_Nc, ↓ne_Dc, ↓x_iEnumD, ↓enumK_t, ↓enumK_l, ↓enumK_r, ↓enumK_tk, ↓enumK_lk, ↓srt_d, ↓srt_l, ↓srt_n, ↓c_srt, ↓srtC_l, ↓srtC_f, ↓srtC_d, ↓lsA_t, ↓lsA_l, ↓lsA_n, ↓lsA_r, ↓c_lsA, ↓c_isi_list, ↓c_isi_dict, ↓c_isi_tuple, ↓isiB_l, ↓isiB_f, ↓isiB_d, ↓isiB_k, ↓isi_n_list, ↓isi_n_tuple, ↓x_dListIt, ↓litK_d, ↓augK_s, ↓iadd_ii, ↓c_iaddn, ↓c_iaddl, ↓abs_i, ↓x_dRevL, ↓revK_n, ↓revK_l, ↓cnt_n, ↓cnt_l, ↓idx_l, ↓isLst_l, ↓isLst_n, ↓c_pop, ↓c_popD, ↓c_isD, ↓lcD2_d, ↓lcD2_k, ↓tk_0, ↓tk_a0, ↓tk_a1, ↓tk_a2, ↓tk_a3, ↓tk_a4, dVar_0, dVar_1, dVar_2, dVar_3, dVar_4, dVar_5, dVar_6, dVar_7, dVar_8, dVar_9, dVar_10, dVar_11, dVar_12, dVar_13, dVar_14, dVar_15, old_dat, old_loc, old_raw, old_exc, old_ro, wDs_nil, wDs_cons, x_dC, x_dRaw, x_dFrz, x_dCell, x_dStl, x_aNil, x_aCons, x_dLst, x_dTup, x_tVal, x_tAndD, x_tOrD, x_tNotD, x_tYesD, x_dAndV, x_dOrV, x_dNotV, x_dIfE, x_dOp, x_dUn, x_dCB, x_dChain, intK_i, x_oNo, x_oSome, x_dSl, x_gNm, x_gNl0, x_gCn, x_gTp, x_gSb, x_dCall, seqK_tup, seqK_lst, seqK_new, seqK_ro, seqK_str, rng1_i, rng2_i, x_iSeq, x_iRange1, x_iRange2, x_dBM, x_dBM0, x_isStr, bools_k, ints_k, strs_k, lstK_lst, lstK_new, sqK_lst, sqK_new, sqK_tup, sqK_ro, x_oAll, x_oSum, x_oJoin, x_oList, x_oTuple, x_oIsN, x_oNotN, x_lc, int_i, int_b, mem_l, mem_t, mem_n, x_srtS, mul_ni, mul_li, wD_dat, wD_new, wB_b, nN_dat, nN_loc, nN_raw, nN_ro, nN_exc, aO_nil, aO_cons, stl_dat, stl_new, stl_loc, stl_raw, stl_ro, stl_exc, cel_dat, cel_new, cel_loc, cel_raw, cel_ro, add_int, add_strD, add_tup, add_ll, add_ln, add_nl, add_nn, oI_ii, oI0_ii, neg_i, inv_i, mul_int, eq_dd, ne_dd, eq_nd, ne_nd, eq_dn, ne_dn, eq_nn, ne_nn, sign_ss, ix_s, ix_tupD, ix_lstD, ix_new, ix_ro, sl_s, sl_tupD, sl_lstD, sl_new, sl_ro, len_str, len_tup, len_lst, len_new, len_ro, max_ii, min_ii, isi_int, isi_bool, isi_str, isi_list, isi_tuple, isi_dict, exitQ_dat, exitQ_new, exitQ_raw, cl_nil, cl_none, cl_dat, cl_ro, cl_raw, cl_odat, dVar_16, dVar_17, dVar_18, dVar_19, dVar_20, dVar_21, dVar_22, dVar_23, dVar_24, dVar_25, dVar_26, dVar_27, dVar_28, dVar_29, dVar_30, dVar_31, dVar_32, dVar_33, dVar_34, dVar_35, noD_n, noD_b, noD_i, noD_s, noD_l, noD_t, noDs_nil, noDs_cons, noDs_app, noDs_i, noDs_s, noDs_b, exC_k, isIntD_none, isIntD_bool, isIntD_int, isIntD_str, isIntD_list, isIntD_tuple, isIntD_dict, isBoolD_none, isBoolD_bool, isBoolD_int, isBoolD_str, isBoolD_list, isBoolD_tuple, isBoolD_dict, isStrD_none, isStrD_bool, isStrD_int, isStrD_str, isStrD_list, isStrD_tuple, isStrD_dict, isListD_none, isListD_bool, isListD_int, isListD_str, isListD_list, isListD_tuple, isListD_dict, isTupD_none, isTupD_bool, isTupD_int, isTupD_str, isTupD_list, isTupD_tuple, isTupD_dict, isDictD_none, isDictD_bool, isDictD_int, isDictD_str, isDictD_list, isDictD_tuple, isDictD_dict, neg_i2, inv_i2, x_iSeqD, seqDK_d, seqDK_t, seqDK_l, seqDK_s, seqDK_n, seqDK_r, seqDK_c, x_iZipD, zipK_t, zipK_l, x_dNewD, lcD_d, keysK_nil, keysK_i, keysK_s, keysP_nil, keysP_i, keysP_s, c_setD, memA_dict, memA_l, memA_t, memA_n, c_memA, memC_d, memC_l, memC_f, cell_nd, cell_nk, stl_nd, stl_nk, ex_nd, ex_nk, x_dCellA, cellA_new, nextA_eq, stateA_eq, cellA_eq, fg_nil, fg_cons, lcR_l, lcR_f, lcK_l, c_len, c_ix, c_ixC, c_app, c_set, c_isL, c_lstK, c_sqK, c_mem, c_addn, c_addl, c_sl, c_seqK, seqC_l, seqC_f, c_wD, wdC_l, wdC_f, exC_l, exC_f, exC_d, cellK_new, cellK_dat, cellK_loc, get_a0, get_a1, get_a2, get_a3, set_a0, set_a1, set_a2, set_a3, lnD_str, lnD_tup, lnD_lst, lnD_new, lnD_ro, lnD_d, c_lenD, lnC_d, lnC_k, lnC_l, lnC_f, eq_cN, eq_cD, eq_Nc, eq_Dc, ne_cN, ne_cD, ne_Nc, ne_Dc, x_iEnumD, enumK_t, enumK_l, enumK_r, enumK_tk, enumK_lk, srt_d, srt_l, srt_n, c_srt, srtC_l, srtC_f, srtC_d, lsA_t, lsA_l, lsA_n, lsA_r, c_lsA, c_isi_list, c_isi_dict, c_isi_tuple, isiB_l, isiB_f, isiB_d, isiB_k, isi_n_list, isi_n_tuple, x_dListIt, litK_d, augK_s, iadd_ii, c_iaddn, c_iaddl, abs_i, x_dRevL, revK_n, revK_l, cnt_n, cnt_l, idx_l, isLst_l, isLst_n, c_pop, c_popD, c_isD, lcD2_d, lcD2_k, tk_0, tk_a0, tk_a1, tk_a2, tk_a3, tk_a4, isR_h, isR_app, isR_last, exitQ_ge, exitQ_lt, cl_loc, nle_h, nlt_h, ile_h, ilt_h, cmul_l, cmul_r, cdiv_h, cpow_h, csh_h, csh_0, oLt, oLe, oGt, oGe, oSub, oMod, oDiv, oPow, oShl, oShr, oAnd, oOr, oXor, isRaw, isNon, startD, List.length_map, decide_eq_true_eq, List.map_cons, List.map_nil, List.length_cons, List.length_nil, List.cons_append, List.nil_append, List.append_nil, List.replicate, List.getElem?_cons_zero, List.getElem?_cons_succ, List.set_cons_zero, List.set_cons_succ, List.take_length, true_and, and_true, eqv_int, eqv_bool, eqv_str, dep_int, dep_bool, dep_str, dep_none, min0l, min0r, Option.map_some, Option.map_none, if_true, if_false, Bool.and_true, Bool.true_and, Bool.false_eq_true, Bool.not_true, Bool.not_false, reduceIte, wipeD, List.append_assoc, at_nn, Option.some.injEq, exists_eq_left, exists_eq_left', Int.reduceToNat, Int.reduceLE, Int.reduceLT, List.length_set, Nat.reduceAdd, Nat.reduceLeDiff, Nat.reduceSub, dat_dat, dat_new, lst_lst, lst_new, seq_tup, seq_lst, seq_new, seq_ro, List.length_append, Nat.zero_add, eqv_tup, eqv_lst, eqvA_nn, eqvA_cc, eqvA_nc, eqvA_cn, dep_tup, dep_lst, depA_nil, depA_cons, Nat.max_zero, Nat.zero_max, Nat.lt_add_one, forall_const, oShlA, rng_c, Int.toNat_natCast, List.flatten_nil, decide_true, decide_false])
/-! ### what one comes to by side steps -/
def nbs (p : Pt) : List Pt := [(p.1 + 1, p.2), (p.1 - 1, p.2), (p.1, p.2 + 1), (p.1, p.2 - 1)]
theorem mem_nbs {p q : Pt} : q ∈ nbs p ↔ q = (p.1 + 1, p.2) ∨ q = (p.1 - 1, p.2) ∨ q = (p.1, p.2 + 1) ∨ q = (p.1, p.2 - 1) := by
  simp [nbs]
theorem nbs_symm {p q : Pt} (h : q ∈ nbs p) : p ∈ nbs q := by
  rw [mem_nbs] at h ⊢
  rcases h with rfl | rfl | rfl | rfl
  · exact .inr (.inl (Prod.ext (by simp only; omega) rfl))
  · exact .inl (Prod.ext (by simp only; omega) rfl)
  · exact .inr (.inr (.inr (Prod.ext rfl (by simp only; omega))))
  · exact .inr (.inr (.inl (Prod.ext rfl (by simp only; omega))))
inductive Rch (P : Pt → Prop) (s : Pt) : Pt → Prop
  | base : P s → Rch P s s
  | step {p q : Pt} : Rch P s p → q ∈ nbs p → P q → Rch P s q
theorem Rch.p {P : Pt → Prop} {s p : Pt} (h : Rch P s p) : P p := by
  cases h with
  | base h => exact h
  | step _ _ h => exact h
theorem Rch.start {P : Pt → Prop} {s p : Pt} (h : Rch P s p) : P s := by
  induction h with
  | base h => exact h
  | step _ _ _ ih => exact ih
theorem Rch.trans {P : Pt → Prop} {s p q : Pt} (h : Rch P s p) (k : Rch P p q) : Rch P s q := by
  induction k with
  | base _ => exact h
  | step _ hn hp ih => exact .step ih hn hp
theorem Rch.symm {P : Pt → Prop} {s p : Pt} (h : Rch P s p) : Rch P p s := by
  induction h with
  | base h => exact .base h
  | step k hn hp ih => exact (Rch.step (.base hp) (nbs_symm hn) k.p).trans ih
theorem Rch.congr {P Q : Pt → Prop} (e : ∀ p, P p ↔ Q p) {s p : Pt} : Rch P s p ↔ Rch Q s p := by
  have : P = Q := funext fun p => propext (e p)
  rw [this]
theorem Rch.same {P : Pt → Prop} {s t p : Pt} (h : Rch P s t) : Rch P t p ↔ Rch P s p := ⟨h.trans, h.symm.trans⟩
/-- a set that has the start, is closed, and of what is reached alone -/
theorem rch_of {P : Pt → Prop} {s : Pt} {S : Pt → Prop} (h0 : P s → S s) (h1 : ∀ p q, S p → q ∈ nbs p → P q → S q) (h2 : ∀ p, S p → Rch P s p) (p : Pt) : S p ↔ Rch P s p := by
  refine ⟨h2 p, fun h => ?_⟩
  induction h with
  | base h => exact h0 h
  | step _ hn hp ih => exact h1 _ _ ih hn hp

def sp_sheet_of : SpD := fun es μ q x => ∃ (w : Nat) (h : Nat) (ps : List Pt), es = [.dat (szD w h), .dat (.list (ps.map ptD))] ∧ ((∀ p ∈ ps, inF w h p) ∧ w ≤ 10 ∧ h ≤ 10 ∧ 2 ≤ h ∧ q (.dat (shD (shC w h ps))) μ)
theorem e_sheet_of {w : Nat} {h : Nat} {ps : List Pt} {μ : Mu} {q : PQ} {x : XQ} : sp_sheet_of [.dat (szD w h), .dat (.list (ps.map ptD))] μ q x = ((∀ p ∈ ps, inF w h p) ∧ w ≤ 10 ∧ h ≤ 10 ∧ 2 ≤ h ∧ q (.dat (shD (shC w h ps))) μ) := by
  refine propext ⟨fun hyp0 => ?_, fun hyp0 => ⟨w, h, ps, rfl, hyp0⟩⟩
  obtain ⟨w', h', ps', eq0, hyp0⟩ := hyp0
  simp only [List.cons.injEq, Exn.mk.injEq, EV.dat.injEq, EV.loc.injEq, EV.new.injEq, EV.ro.injEq, EV.exc.injEq, PyData.int.injEq, PyData.str.injEq, PyData.bool.injEq, PyData.list.injEq, PyData.tuple.injEq, and_true, true_and, and_assoc, map_int_inj, szD_inj, enc_pt.map_eq] at eq0
  obtain ⟨rfl, rfl, rfl⟩ := eq0
  exact hyp0
theorem atI_nat {α : Type} {xs : List α} {i : Nat} {a : α} (h : xs[i]? = some a) : atI xs (i : Int) = some a := by
  rw [at_nn (by omega), Int.toNat_natCast]
  exact h
theorem ixN_nat {n i : Nat} (h : i < n) : ixN n (i : Int) = some i := by
  unfold ixN
  rw [if_pos (by omega), if_pos (by omega)]
  simp
theorem shC_set {w h : Nat} {ps : List Pt} {x y : Nat} (hx : x < w) (hy : y < h) : (shC w h ps).set y (((shC w h ps)[y]?).getD 0 ||| 2 ^ x) = shC w h (ps ++ [((x : Int), (y : Int))]) := by
  refine List.ext_getElem (by simp [shC, sheetB]) fun n h1 h2 => ?_
  have hn : n < h := by simpa [shC, sheetB] using h2
  rw [List.getElem_set]
  by_cases e : y = n
  · subst e
    rw [if_pos rfl]
    simp only [shC, sheetB, List.getElem?_map, List.getElem?_range hn, Option.map_some, Option.getD_some, List.getElem_map, List.getElem_range]
    refine row_ext _ fun z => ?_
    rw [Nat.testBit_or, rowB_bit, Nat.testBit_two_pow, Bool.eq_iff_iff]
    simp only [Bool.or_eq_true, Bool.and_eq_true, decide_eq_true_eq, List.mem_append, List.mem_singleton, Prod.mk.injEq]
    constructor
    · rintro (⟨a, b⟩ | rfl)
      · exact ⟨a, .inl b⟩
      · exact ⟨hx, .inr ⟨rfl, trivial⟩⟩
    · rintro ⟨a, b | ⟨b, _⟩⟩
      · exact .inl ⟨a, b⟩
      · exact .inr (by omega)
  · rw [if_neg e]
    simp only [shC, sheetB, List.getElem_map, List.getElem_range]
    refine rowB_congr fun z _ => ?_
    rw [Bool.eq_iff_iff]
    simp only [decide_eq_true_eq, List.mem_append, List.mem_singleton, Prod.mk.injEq]
    exact ⟨.inl, fun q => q.elim id fun q => absurd q.2 (by omega)⟩
theorem shC_get {w h : Nat} {ps : List Pt} {y : Nat} (hy : y < h) : ((shC w h ps).map fun n : Nat => PyData.int (n : Int))[y]? = some (.int ((((shC w h ps)[y]?).getD 0 : Nat) : Int)) := by
  have hl : y < (shC w h ps).length := by rw [shC, sheetB_len]; exact hy
  rw [List.getElem?_map, List.getElem?_eq_getElem hl]
  rfl
theorem rep_0 (w h : Nat) : (List.replicate h [PyData.int 0]).flatten = (shC w h []).map fun n : Nat => PyData.int (n : Int) := by
  have z : ∀ w, rowB w (fun _ => false) = 0 := fun w => by
    induction w with
    | zero => rfl
    | succ w ih => unfold rowB; simp [ih]
  have e : shC w h [] = List.replicate h 0 := by
    unfold shC sheetB
    refine List.ext_getElem (by simp) fun n _ _ => ?_
    simp [z]
  rw [e]
  induction h with
  | zero => rfl
  | succ h ih => rw [List.replicate_succ, List.flatten_cons, ih (by unfold shC sheetB; refine List.ext_getElem (by simp) fun n _ _ => ?_; simp [z]), List.replicate_succ]; rfl
theorem ok_sheet_of (T : Top K mg) : DefAt P w K mg base "sheet_of" 3 ["size", "some"] [] [] sp_sheet_of := by
  refine def_ok sp_sheet_of T.F_sheet_of sc_sheet_of T.m_sheet_of T.b_sheet_of (fun cdv A outer s H E hr tk pw => (dss_cons (ds_set (i := 2) sc_sheet_of.nd rfl (by first | exact Or.inl rfl | exact Or.inr rfl) (de_cell (de_op opA_mul os_mul (de_lst (da_cons de_int da_nil)) (de_ix ix_seq os_ix (dv 0) de_int (fun _ _ => rfl)))))
    (dss_cons (ds_forF [1, 3] pw rfl (di_seqD (dv 1)) (dg_name (i := 3) sc_sheet_of.nd rfl (by first | exact Or.inl rfl | exact Or.inr rfl)) (dss_cons (ds_if (dt_not (dt_val (de_call (ok_is_place T) hr (by decide) (by rfl) tk (fun _ _ => .nil) (da_cons (de_stl (dv 0)) (da_cons (de_stl (dv 3)) da_nil))))) (dss_one (ds_raise rfl tk PySem.F.excBase_ValueError T.xx_NoSpot T.gx_NoSpot T.xk_NoSpot (raises_own T.xb_NoSpot T.xt_NoSpot) (by rfl))) dss_nil)
    (dss_one (ds_augS (dv 2) (de_ix ix_seq os_ix (dv 3) de_int (fun _ _ => rfl)) pg_list os_ixC (de_op opA_shl os_shlA de_int (de_ix ix_seq os_ix (dv 3) de_int (fun _ _ => rfl))) iop_or os_or set_list ss_list))))
    (dss_one (ds_ret (de_callTy call_tuple_of cs_tuple (by rfl) T.n_tuple bt_tuple (da_cons (dv 2) da_nil))))))) ?_
  rintro es μ q x - ⟨w, h, ps, rfl, hin, hw, hh, h2, k⟩
  walk_at "run"
  rw [rep_0 w]
  refine for_stD (fun i (s : List Nat) => s = shC w h (ps.take i)) (fun η _ => η) (fun _ s => μ ++ [.lst (s.map fun n : Nat => .int (n : Int))]) (shC w h []) rfl rfl rfl (fun _ => trivial) ?_ ?_
  · rintro i c s J hi rfl hJ
    have hc := hin c (List.mem_of_getElem? hi)
    obtain ⟨a, b⟩ := c
    rw [show ptD (a, b) = .tuple [.int a, .int b] from rfl]
    unfold inF at hc
    simp only at hc
    obtain ⟨x, rfl⟩ : ∃ x : Nat, a = x := ⟨a.toNat, by omega⟩
    obtain ⟨y, rfl⟩ : ∃ y : Nat, b = y := ⟨b.toNat, by omega⟩
    walk_at "run"
    refine ⟨_, shC_get (by omega), ?_⟩
    (try walk_at "dx")
    rw [show (1 : Int) * 2 ^ x = ((2 ^ x : Nat) : Int) by simp, bor]
    refine ⟨y, by simpa [shC, sheetB] using ixN_nat (n := h) (i := y) (by omega), ?_⟩
    rw [← List.map_set (f := fun n : Nat => PyData.int (n : Int)), shC_set (by omega) (by omega)]
    (have j := hJ _ (by rw [List.take_add_one, hi]); simp only [List.range_succ, List.map_append, List.map_cons, List.map_nil, fg_cons, fg_nil, List.set_cons_succ, List.set_cons_zero] at j; exact j)
  · rintro s rfl
    rw [List.take_length]
    walk_at "dx"
    walk_at "st1"
    exact k

local macro_rules | `(tactic| walk_at "dx") => `(tactic| simp (disch := first | assumption | omega) only [↓e_joined, ↓e_moved, ↓e_common, ↓e_without, ↓ix_sz, ↓gTp_pt, ↓enumK_sh, ↓e_places, ↓e_count, ↓e_nothing, ↓e_has, ↓e_spread, ↓e_is_number, ↓isNum_i, ↓isNum_b, ↓isNum_n, ↓isNum_s, ↓isNum_l, ↓isNum_t, ↓e_is_place, ↓e_sheet_of, ↓dVar_0, ↓dVar_1, ↓dVar_2, ↓dVar_3, ↓dVar_4, ↓dVar_5, ↓dVar_6, ↓dVar_7, ↓dVar_8, ↓dVar_9, ↓dVar_10, ↓dVar_11, ↓dVar_12, ↓dVar_13, ↓dVar_14, ↓dVar_15, ↓old_dat, ↓old_loc, ↓old_raw, ↓old_exc, ↓old_ro, ↓wDs_nil, ↓wDs_cons, ↓x_dC, ↓x_dRaw, ↓x_dFrz, ↓x_dCell, ↓x_dStl, ↓x_aNil, ↓x_aCons, ↓x_dLst, ↓x_dTup, ↓x_tVal, ↓x_tAndD, ↓x_tOrD, ↓x_tNotD, ↓x_tYesD, ↓x_dAndV, ↓x_dOrV, ↓x_dNotV, ↓x_dIfE, ↓x_dOp, ↓x_dUn, ↓x_dCB, ↓x_dChain, ↓intK_i, ↓x_oNo, ↓x_oSome, ↓x_dSl, ↓x_gNm, ↓x_gNl0, ↓x_gCn, ↓x_gTp, ↓x_gSb, ↓x_dCall, ↓seqK_tup, ↓seqK_lst, ↓seqK_new, ↓seqK_ro, ↓seqK_str, ↓rng1_i, ↓rng2_i, ↓x_iSeq, ↓x_iRange1, ↓x_iRange2, ↓x_dBM, ↓x_dBM0, ↓x_isStr, ↓bools_k, ↓ints_k, ↓strs_k, ↓lstK_lst, ↓lstK_new, ↓sqK_lst, ↓sqK_new, ↓sqK_tup, ↓sqK_ro, ↓x_oAll, ↓x_oSum, ↓x_oJoin, ↓x_oList, ↓x_oTuple, ↓x_oIsN, ↓x_oNotN, ↓x_lc, ↓int_i, ↓int_b, ↓mem_l, ↓mem_t, ↓mem_n, ↓x_srtS, ↓mul_ni, ↓mul_li, ↓wD_dat, ↓wD_new, ↓wB_b, ↓nN_dat, ↓nN_loc, ↓nN_raw, ↓nN_ro, ↓nN_exc, ↓aO_nil, ↓aO_cons, ↓stl_dat, ↓stl_new, ↓stl_loc, ↓stl_raw, ↓stl_ro, ↓stl_exc, ↓cel_dat, ↓cel_new, ↓cel_loc, ↓cel_raw, ↓cel_ro, ↓add_int, ↓add_strD, ↓add_tup, ↓add_ll, ↓add_ln, ↓add_nl, ↓add_nn, ↓oI_ii, ↓oI0_ii, ↓neg_i, ↓inv_i, ↓mul_int, ↓eq_dd, ↓ne_dd, ↓eq_nd, ↓ne_nd, ↓eq_dn, ↓ne_dn, ↓eq_nn, ↓ne_nn, ↓sign_ss, ↓ix_s, ↓ix_tupD, ↓ix_lstD, ↓ix_new, ↓ix_ro, ↓sl_s, ↓sl_tupD, ↓sl_lstD, ↓sl_new, ↓sl_ro, ↓len_str, ↓len_tup, ↓len_lst, ↓len_new, ↓len_ro, ↓max_ii, ↓min_ii, ↓isi_int, ↓isi_bool, ↓isi_str, ↓isi_list, ↓isi_tuple, ↓isi_dict, ↓exitQ_dat, ↓exitQ_new, ↓exitQ_raw, ↓cl_nil, ↓cl_none, ↓cl_dat, ↓cl_ro, ↓cl_raw, ↓cl_odat, ↓dVar_16, ↓dVar_17, ↓dVar_18, ↓dVar_19, ↓dVar_20, ↓dVar_21, ↓dVar_22, ↓dVar_23, ↓dVar_24, ↓dVar_25, ↓dVar_26, ↓dVar_27, ↓dVar_28, ↓dVar_29, ↓dVar_30, ↓dVar_31, ↓dVar_32, ↓dVar_33, ↓dVar_34, ↓dVar_35, ↓noD_n, ↓noD_b, ↓noD_i, ↓noD_s, ↓noD_l, ↓noD_t, ↓noDs_nil, ↓noDs_cons, ↓noDs_app, ↓noDs_i, ↓noDs_s, ↓noDs_b, ↓exC_k, ↓isIntD_none, ↓isIntD_bool, ↓isIntD_int, ↓isIntD_str, ↓isIntD_list, ↓isIntD_tuple, ↓isIntD_dict, ↓isBoolD_none, ↓isBoolD_bool, ↓isBoolD_int, ↓isBoolD_str, ↓isBoolD_list, ↓isBoolD_tuple, ↓isBoolD_dict, ↓isStrD_none, ↓isStrD_bool, ↓isStrD_int, ↓isStrD_str, ↓isStrD_list, ↓isStrD_tuple, ↓isStrD_dict, ↓isListD_none, ↓isListD_bool, ↓isListD_int, ↓isListD_str, ↓isListD_list, ↓isListD_tuple, ↓isListD_dict, ↓isTupD_none, ↓isTupD_bool, ↓isTupD_int, ↓isTupD_str, ↓isTupD_list, ↓isTupD_tuple, ↓isTupD_dict, ↓isDictD_none, ↓isDictD_bool, ↓isDictD_int, ↓isDictD_str, ↓isDictD_list, ↓isDictD_tuple, ↓isDictD_dict, ↓neg_i2, ↓inv_i2, ↓x_iSeqD, ↓seqDK_d, ↓seqDK_t, ↓seqDK_l, ↓seqDK_s, ↓seqDK_n, ↓seqDK_r, ↓seqDK_c, ↓x_iZipD, ↓zipK_t, ↓zipK_l, ↓x_dNewD, ↓lcD_d, ↓keysK_nil, ↓keysK_i, ↓keysK_s, ↓keysP_nil, ↓keysP_i, ↓keysP_s, ↓c_setD, ↓memA_dict, ↓memA_l, ↓memA_t, ↓memA_n, ↓c_memA, ↓memC_d, ↓memC_l, ↓memC_f, ↓cell_nd, ↓cell_nk, ↓stl_nd, ↓stl_nk, ↓ex_nd, ↓ex_nk, ↓x_dCellA, ↓cellA_new, ↓nextA_eq, ↓stateA_eq, ↓cellA_eq, ↓fg_nil, ↓fg_cons, ↓lcR_l, ↓lcR_f, ↓lcK_l, ↓c_len, ↓c_ix, ↓c_ixC, ↓c_app, ↓c_set, ↓c_isL, ↓c_lstK, ↓c_sqK, ↓c_mem, ↓c_addn, ↓c_addl, ↓c_sl, ↓c_seqK, ↓seqC_l, ↓seqC_f, ↓c_wD, ↓wdC_l, ↓wdC_f, ↓exC_l, ↓exC_f, ↓exC_d, ↓cellK_new, ↓cellK_dat, ↓cellK_loc, ↓get_a0, ↓get_a1, ↓get_a2, ↓get_a3, ↓set_a0, ↓set_a1, ↓set_a2, ↓set_a3, ↓lnD_str, ↓lnD_tup, ↓lnD_lst, ↓lnD_new, ↓lnD_ro, ↓lnD_d, ↓c_lenD, ↓lnC_d, ↓lnC_k, ↓lnC_l, ↓lnC_f, ↓eq_cN, ↓eq_cD, ↓eq_Nc, ↓eq_Dc, ↓ne_cN, ↓ne_cD, ↓ne_Nc, ↓ne_Dc, ↓x_iEnumD, ↓enumK_t, ↓enumK_l, ↓enumK_r, ↓enumK_tk, ↓enumK_lk, ↓srt_d, ↓srt_l, ↓srt_n, ↓c_srt, ↓srtC_l, ↓srtC_f, ↓srtC_d, ↓lsA_t, ↓lsA_l, ↓lsA_n, ↓lsA_r, ↓c_lsA, ↓c_isi_list, ↓c_isi_dict, ↓c_isi_tuple, ↓isiB_l, ↓isiB_f, ↓isiB_d, ↓isiB_k, ↓isi_n_list, ↓isi_n_tuple, ↓x_dListIt, ↓litK_d, ↓augK_s, ↓iadd_ii, ↓c_iaddn, ↓c_iaddl, ↓abs_i, ↓x_dRevL, ↓revK_n, ↓revK_l, ↓cnt_n, ↓cnt_l, ↓idx_l, ↓isLst_l, ↓isLst_n, ↓c_pop, ↓c_popD, ↓c_isD, ↓lcD2_d, ↓lcD2_k, ↓tk_0, ↓tk_a0, ↓tk_a1, ↓tk_a2, ↓tk_a3, ↓tk_a4, dVar_0, dVar_1, dVar_2, dVar_3, dVar_4, dVar_5, dVar_6, dVar_7, dVar_8, dVar_9, dVar_10, dVar_11, dVar_12, dVar_13, dVar_14, dVar_15, old_dat, old_loc, old_raw, old_exc, old_ro, wDs_nil, wDs_cons, x_dC, x_dRaw, x_dFrz, x_dCell, x_dStl, x_aNil, x_aCons, x_dLst, x_dTup, x_tVal, x_tAndD, x_tOrD, x_tNotD, x_tYesD, x_dAndV, x_dOrV, x_dNotV, x_dIfE, x_dOp, x_dUn, x_dCB, x_dChain, intK_i, x_oNo, x_oSome, x_dSl, x_gNm, x_gNl0, x_gCn, x_gTp, x_gSb, x_dCall, seqK_tup, seqK_lst, seqK_new, seqK_ro, seqK_str, rng1_i, rng2_i, x_iSeq, x_iRange1, x_iRange2, x_dBM, x_dBM0, x_isStr, bools_k, ints_k, strs_k, lstK_lst, lstK_new, sqK_lst, sqK_new, sqK_tup, sqK_ro, x_oAll, x_oSum, x_oJoin, x_oList, x_oTuple, x_oIsN, x_oNotN, x_lc, int_i, int_b, mem_l, mem_t, mem_n, x_srtS, mul_ni, mul_li, wD_dat, wD_new, wB_b, nN_dat, nN_loc, nN_raw, nN_ro, nN_exc, aO_nil, aO_cons, stl_dat, stl_new, stl_loc, stl_raw, stl_ro, stl_exc, cel_dat, cel_new, cel_loc, cel_raw, cel_ro, add_int, add_strD, add_tup, add_ll, add_ln, add_nl, add_nn, oI_ii, oI0_ii, neg_i, inv_i, mul_int, eq_dd, ne_dd, eq_nd, ne_nd, eq_dn, ne_dn, eq_nn, ne_nn, sign_ss, ix_s, ix_tupD, ix_lstD, ix_new, ix_ro, sl_s, sl_tupD, sl_lstD, sl_new, sl_ro, len_str, len_tup, len_lst, len_new, len_ro, max_ii, min_ii, isi_int, isi_bool, isi_str, isi_list, isi_tuple, isi_dict, exitQ_dat, exitQ_new, exitQ_raw, cl_nil, cl_none, cl_dat, cl_ro, cl_raw, cl_odat, dVar_16, dVar_17, dVar_18, dVar_19, dVar_20, dVar_21, dVar_22, dVar_23, dVar_24, dVar_25, dVar_26, dVar_27, dVar_28, dVar_29, dVar_30, dVar_31, dVar_32, dVar_33, dVar_34, dVar_35, noD_n, noD_b, noD_i, noD_s, noD_l, noD_t, noDs_nil, noDs_cons, noDs_app, noDs_i, noDs_s, noDs_b, exC_k, isIntD_none, isIntD_bool, isIntD_int, isIntD_str, isIntD_list, isIntD_tuple, isIntD_dict, isBoolD_none, isBoolD_bool, isBoolD_int, isBoolD_str, isBoolD_list, isBoolD_tuple, isBoolD_dict, isStrD_none, isStrD_bool, isStrD_int, isStrD_str, isStrD_list, isStrD_tuple, isStrD_dict, isListD_none, isListD_bool, isListD_int, isListD_str, isListD_list, isListD_tuple, isListD_dict, isTupD_none, isTupD_bool, isTupD_int, isTupD_str, isTupD_list, isTupD_tuple, isTupD_dict, isDictD_none, isDictD_bool, isDictD_int, isDictD_str, isDictD_list, isDictD_tuple, isDictD_dict, neg_i2, inv_i2, x_iSeqD, seqDK_d, seqDK_t, seqDK_l, seqDK_s, seqDK_n, seqDK_r, seqDK_c, x_iZipD, zipK_t, zipK_l, x_dNewD, lcD_d, keysK_nil, keysK_i, keysK_s, keysP_nil, keysP_i, keysP_s, c_setD, memA_dict, memA_l, memA_t, memA_n, c_memA, memC_d, memC_l, memC_f, cell_nd, cell_nk, stl_nd, stl_nk, ex_nd, ex_nk, x_dCellA, cellA_new, nextA_eq, stateA_eq, cellA_eq, fg_nil, fg_cons, lcR_l, lcR_f, lcK_l, c_len, c_ix, c_ixC, c_app, c_set, c_isL, c_lstK, c_sqK, c_mem, c_addn, c_addl, c_sl, c_seqK, seqC_l, seqC_f, c_wD, wdC_l, wdC_f, exC_l, exC_f, exC_d, cellK_new, cellK_dat, cellK_loc, get_a0, get_a1, get_a2, get_a3, set_a0, set_a1, set_a2, set_a3, lnD_str, lnD_tup, lnD_lst, lnD_new, lnD_ro, lnD_d, c_lenD, lnC_d, lnC_k, lnC_l, lnC_f, eq_cN, eq_cD, eq_Nc, eq_Dc, ne_cN, ne_cD, ne_Nc, ne_Dc, x_iEnumD, enumK_t, enumK_l, enumK_r, enumK_tk, enumK_lk, srt_d, srt_l, srt_n, c_srt, srtC_l, srtC_f, srtC_d, lsA_t, lsA_l, lsA_n, lsA_r, c_lsA, c_isi_list, c_isi_dict, c_isi_tuple, isiB_l, isiB_f, isiB_d, isiB_k, isi_n_list, isi_n_tuple, x_dListIt, litK_d, augK_s, iadd_ii, c_iaddn, c_iaddl, abs_i, x_dRevL, revK_n, revK_l, cnt_n, cnt_l, idx_l, isLst_l, isLst_n, c_pop, c_popD, c_isD, lcD2_d, lcD2_k, tk_0, tk_a0, tk_a1, tk_a2, tk_a3, tk_a4, isR_h, isR_app, isR_last, exitQ_ge, exitQ_lt, cl_loc, nle_h, nlt_h, ile_h, ilt_h, cmul_l, cmul_r, cdiv_h, cpow_h, csh_h, csh_0, oLt, oLe, oGt, oGe, oSub, oMod, oDiv, oPow, oShl, oShr, oAnd, oOr, oXor, isRaw, isNon, startD, List.length_map, decide_eq_true_eq, List.map_cons, List.map_nil, List.length_cons, List.length_nil, List.cons_append, List.nil_append, List.append_nil, List.replicate, List.getElem?_cons_zero, List.getElem?_cons_succ, List.set_cons_zero, List.set_cons_succ, List.take_length, true_and, and_true, eqv_int, eqv_bool, eqv_str, dep_int, dep_bool, dep_str, dep_none, min0l, min0r, Option.map_some, Option.map_none, if_true, if_false, Bool.and_true, Bool.true_and, Bool.false_eq_true, Bool.not_true, Bool.not_false, reduceIte, wipeD, List.append_assoc, at_nn, Option.some.injEq, exists_eq_left, exists_eq_left', Int.reduceToNat, Int.reduceLE, Int.reduceLT, List.length_set, Nat.reduceAdd, Nat.reduceLeDiff, Nat.reduceSub, dat_dat, dat_new, lst_lst, lst_new, seq_tup, seq_lst, seq_new, seq_ro, List.length_append, Nat.zero_add, eqv_tup, eqv_lst, eqvA_nn, eqvA_cc, eqvA_nc, eqvA_cn, dep_tup, dep_lst, depA_nil, depA_cons, Nat.max_zero, Nat.zero_max, Nat.lt_add_one, forall_const, oShlA, rng_c, Int.toNat_natCast, List.flatten_nil, decide_true, decide_false])
theorem e_sheet_of1 {w h : Nat} {a b : Int} {μ : Mu} {q : PQ} {x : XQ} : sp_sheet_of [.dat (szD w h), .dat (.list [.tuple [.int a, .int b]])] μ q x = (inF w h (a, b) ∧ w ≤ 10 ∧ h ≤ 10 ∧ 2 ≤ h ∧ q (.dat (shD (shC w h [(a, b)]))) μ) := by
  have e := e_sheet_of (w := w) (h := h) (ps := [(a, b)]) (μ := μ) (q := q) (x := x)
  rw [show [(a, b)].map ptD = [PyData.tuple [.int a, .int b]] from rfl] at e
  rw [e]
  refine propext ⟨fun z => ⟨z.1 _ (by simp), z.2⟩, fun z => ⟨fun p hp => ?_, z.2⟩⟩
  rw [List.mem_singleton] at hp
  subst hp
  exact z.1
theorem movS_bit (w h : Nat) (s : List Nat) (dx dy x y : Int) : bitS (movS w h s dx dy) x y = (decide (inF w h (x, y)) && bitS s (x - dx) (y - dy)) := by
  unfold movS
  rw [sheetB_bit]
  congr 1
theorem sprS_len {w h : Nat} {s : List Nat} (hl : s.length = h) : (sprS w h s).length = h := by
  have l1 : (orS s (movS w h s 1 0)).length = h := by rw [orS_len (by rw [movS_len, hl]), hl]
  have l2 : (orS (orS s (movS w h s 1 0)) (movS w h s (-1) 0)).length = h := by rw [orS_len (by rw [movS_len, l1]), l1]
  have l3 : (orS (orS (orS s (movS w h s 1 0)) (movS w h s (-1) 0)) (movS w h s 0 1)).length = h := by rw [orS_len (by rw [movS_len, l2]), l2]
  show (orS (orS (orS (orS s (movS w h s 1 0)) (movS w h s (-1) 0)) (movS w h s 0 1)) (movS w h s 0 (-1))).length = h
  rw [orS_len (by rw [movS_len, l3]), l3]
theorem sprS_ok {w h : Nat} {s : List Nat} (hs : okS w s) : okS w (sprS w h s) :=
  orS_ok (orS_ok (orS_ok (orS_ok hs (movS_ok _ _ _ _ _)) (movS_ok _ _ _ _ _)) (movS_ok _ _ _ _ _)) (movS_ok _ _ _ _ _)
theorem sprS_bit {w h : Nat} {s : List Nat} (hl : s.length = h) (x y : Int) : bitS (sprS w h s) x y = true ↔ bitS s x y = true ∨ (inF w h (x, y) ∧ ∃ p, (x, y) ∈ nbs p ∧ bitS s p.1 p.2 = true) := by
  have l1 : (orS s (movS w h s 1 0)).length = h := by rw [orS_len (by rw [movS_len, hl]), hl]
  have l2 : (orS (orS s (movS w h s 1 0)) (movS w h s (-1) 0)).length = h := by rw [orS_len (by rw [movS_len, l1]), l1]
  have l3 : (orS (orS (orS s (movS w h s 1 0)) (movS w h s (-1) 0)) (movS w h s 0 1)).length = h := by rw [orS_len (by rw [movS_len, l2]), l2]
  have e : sprS w h s = orS (orS (orS (orS s (movS w h s 1 0)) (movS w h s (-1) 0)) (movS w h s 0 1)) (movS w h s 0 (-1)) := rfl
  rw [e, orS_bit (by rw [movS_len, l3]), orS_bit (by rw [movS_len, l2]), orS_bit (by rw [movS_len, l1]), orS_bit (by rw [movS_len, hl])]
  simp only [movS_bit, Bool.or_eq_true, Bool.and_eq_true, decide_eq_true_eq, mem_nbs, Prod.mk.injEq]
  constructor
  · rintro ((((a | ⟨a, b⟩) | ⟨a, b⟩) | ⟨a, b⟩) | ⟨a, b⟩)
    · exact .inl a
    · exact .inr ⟨a, (x - 1, y - 0), .inl ⟨by simp only; omega, by simp only; omega⟩, b⟩
    · exact .inr ⟨a, (x - -1, y - 0), .inr (.inl ⟨by simp only; omega, by simp only; omega⟩), b⟩
    · exact .inr ⟨a, (x - 0, y - 1), .inr (.inr (.inl ⟨by simp only; omega, by simp only; omega⟩)), b⟩
    · exact .inr ⟨a, (x - 0, y - -1), .inr (.inr (.inr ⟨by simp only; omega, by simp only; omega⟩)), b⟩
  · rintro (a | ⟨a, ⟨p1, p2⟩, hp, b⟩)
    · exact .inl (.inl (.inl (.inl a)))
    · simp only at hp b
      rcases hp with ⟨e1, e2⟩ | ⟨e1, e2⟩ | ⟨e1, e2⟩ | ⟨e1, e2⟩
      · exact .inl (.inl (.inl (.inr ⟨a, by rw [show x - 1 = p1 by omega, show y - 0 = p2 by omega]; exact b⟩)))
      · exact .inl (.inl (.inr ⟨a, by rw [show x - -1 = p1 by omega, show y - 0 = p2 by omega]; exact b⟩))
      · exact .inl (.inr ⟨a, by rw [show x - 0 = p1 by omega, show y - 1 = p2 by omega]; exact b⟩)
      · exact .inr ⟨a, by rw [show x - 0 = p1 by omega, show y - -1 = p2 by omega]; exact b⟩
theorem andS_len {a b : List Nat} (h : a.length = b.length) : (andS a b).length = a.length := by simp [andS, h]
theorem andS_ok {w : Nat} {a b : List Nat} (ha : okS w a) : okS w (andS a b) := by
  intro r hr
  unfold andS at hr
  rw [List.mem_iff_getElem] at hr
  obtain ⟨n, hn, rfl⟩ := hr
  simp only [List.getElem_zipWith]
  exact Nat.lt_of_le_of_lt Nat.and_le_left (ha _ (List.getElem_mem _))
theorem andS_bit {a b : List Nat} (h : a.length = b.length) (x y : Int) : bitS (andS a b) x y = (bitS a x y && bitS b x y) := by
  unfold bitS andS
  by_cases hy : y.toNat < a.length
  · have h1 := hy
    rw [h] at h1
    rw [List.getElem?_eq_getElem (by simp; omega), List.getElem?_eq_getElem hy, List.getElem?_eq_getElem h1]
    simp only [Option.getD_some, List.getElem_zipWith, Nat.testBit_and]
    cases decide (0 ≤ x ∧ 0 ≤ y) <;> simp
  · rw [List.getElem?_eq_none (by simp; omega), List.getElem?_eq_none (by omega), List.getElem?_eq_none (by omega)]
    simp
theorem sh_eq {w h : Nat} {s t : List Nat} (hl : s.length = h) (hs : okS w s) (hl2 : t.length = h) (hs2 : okS w t) (hb : ∀ x y, bitS s x y = true ↔ bitS t x y = true) : s = t :=
  (sheet_ext (fun x y => bitS t x y) hl hs fun x y _ _ _ _ => by rw [Bool.eq_iff_iff]; exact hb x y).trans (sheet_ext (fun x y => bitS t x y) hl2 hs2 fun _ _ _ _ _ _ => rfl).symm
/-- one sheet in another one has fewer cells -/
theorem sum_le : ∀ {s t : List Nat}, s.length = t.length → (∀ n : Nat, ((s[n]?).getD 0) ≤ ((t[n]?).getD 0)) → s.sum ≤ t.sum
  | [], [], _, _ => Nat.le_refl _
  | [], _ :: _, h, _ => by simp at h
  | _ :: _, [], h, _ => by simp at h
  | a :: s, b :: t, h, k => by
    have h1 := k 0
    have h2 := sum_le (s := s) (t := t) (by simpa using h) fun n => by simpa using k (n + 1)
    simp only [List.getElem?_cons_zero, Option.getD_some] at h1
    simp only [List.sum_cons]
    omega
theorem sum_eq : ∀ {s t : List Nat}, s.length = t.length → (∀ n : Nat, ((s[n]?).getD 0) ≤ ((t[n]?).getD 0)) → s.sum = t.sum → s = t
  | [], [], _, _, _ => rfl
  | [], _ :: _, h, _, _ => by simp at h
  | _ :: _, [], h, _, _ => by simp at h
  | a :: s, b :: t, h, k, e => by
    have h1 := k 0
    have h2 := sum_le (s := s) (t := t) (by simpa using h) fun n => by simpa using k (n + 1)
    simp only [List.getElem?_cons_zero, Option.getD_some] at h1
    simp only [List.sum_cons] at e
    have h3 : a = b := by omega
    rw [h3, sum_eq (s := s) (t := t) (by simpa using h) (fun n => by simpa using k (n + 1)) (by omega)]
theorem le_of_bits {a b : Nat} (h : ∀ x, a.testBit x = true → b.testBit x = true) : a ≤ b := by
  have e : a &&& b = a := Nat.eq_of_testBit_eq fun x => by
    rw [Nat.testBit_and]
    cases hx : a.testBit x with
    | false => rfl
    | true => rw [h x hx]; rfl
  rw [← e]
  exact Nat.and_le_right
theorem sub_le {s t : List Nat} (hb : ∀ x y, bitS s x y = true → bitS t x y = true) (n : Nat) : ((s[n]?).getD 0) ≤ ((t[n]?).getD 0) := le_of_bits fun x hx => by
  have := hb (x : Int) (n : Int) (by simp [bitS, hx])
  simpa [bitS] using this
theorem sum_max {w h : Nat} {s : List Nat} (hl : s.length = h) (hs : okS w s) : s.sum ≤ h * 2 ^ w := by
  subst hl
  induction s with
  | nil => simp
  | cons a s ih =>
    have h1 := hs a (by simp)
    have h2 := ih fun r hr => hs r (by simp [hr])
    simp only [List.sum_cons, List.length_cons, Nat.succ_mul]
    omega
/-- the flood of a sheet from a cell -/
def FloodOf (w h : Nat) (s : List Nat) (a b : Int) (t : List Nat) : Prop := t.length = h ∧ okS w t ∧ ∀ x y : Int, bitS t x y = true ↔ Rch (fun p => bitS s p.1 p.2 = true) (a, b) (x, y)
structure FloodI (w h : Nat) (s : List Nat) (a b : Int) (f t : List Nat) : Prop where
  fl : f.length = h
  tl : t.length = h
  fo : okS w f
  to : okS w t
  sub : ∀ x y, bitS f x y = true → bitS t x y = true
  inn : ∀ x y, bitS t x y = true → Rch (fun p => bitS s p.1 p.2 = true) (a, b) (x, y)
  st : bitS t a b = true
  cl : ∀ (p q : Pt), bitS f p.1 p.2 = true → q ∈ nbs p → bitS s q.1 q.2 = true → bitS t q.1 q.2 = true
theorem sh_eqv (a b : List Nat) : PyData.eqv (shD a) (shD b) = decide (a = b) := enc_sh.eqv a b
theorem sh_nod (a : List Nat) : noD (shD a) = true := enc_sh.nod a
theorem sh_dmin (a : List Nat) (n : Nat) : (min (shD a).depth n ≤ 64) = True := enc_sh.dmin (by decide) a n
theorem bits_0 (h : Nat) (x y : Int) : bitS (List.replicate h 0) x y = false := by
  unfold bitS
  rw [List.getElem?_replicate]
  split <;> simp
theorem okS_0 (w h : Nat) : okS w (List.replicate h 0) := fun r hr => by
  rw [List.mem_replicate] at hr
  rw [hr.2]
  exact Nat.two_pow_pos w
theorem flood_0 {w h : Nat} {s : List Nat} {a b : Int} (hb : bitS s a b = false) : FloodOf w h s a b (List.replicate h 0) := by
  refine ⟨List.length_replicate, okS_0 w h, fun x y => ?_⟩
  rw [bits_0]
  refine ⟨fun z => (nomatch z), fun z => ?_⟩
  have := z.start
  simp only [hb] at this
  cases this
theorem flood_i {w h : Nat} {s : List Nat} {a b : Int} (hl : s.length = h) (hs : okS w s) (hb : bitS s a b = true) : FloodI w h s a b (List.replicate h 0) (shC w h [(a, b)]) where
  fl := List.length_replicate
  tl := sheetB_len _ _ _
  fo := okS_0 w h
  to := sheetB_ok _ _ _
  sub := fun x y z => by rw [bits_0] at z; cases z
  inn := fun x y z => by
    rw [shC_bit, Bool.and_eq_true, decide_eq_true_eq, decide_eq_true_eq, List.mem_singleton] at z
    rw [z.2]
    exact .base hb
  st := by
    rw [shC_bit, Bool.and_eq_true, decide_eq_true_eq, decide_eq_true_eq, List.mem_singleton]
    exact ⟨bitS_in hl hs hb, rfl⟩
  cl := fun p q z => by rw [bits_0] at z; cases z
theorem flood_go {w h : Nat} {s f t : List Nat} {a b : Int} (hl : s.length = h) (hs : okS w s) (I : FloodI w h s a b f t) : FloodI w h s a b t (andS s (sprS w h t)) where
  fl := I.tl
  tl := by rw [andS_len (by rw [sprS_len I.tl, hl]), hl]
  fo := I.to
  to := andS_ok hs
  sub := fun x y z => by
    rw [andS_bit (by rw [sprS_len I.tl, hl]), Bool.and_eq_true, sprS_bit I.tl]
    exact ⟨(I.inn x y z).p, .inl z⟩
  inn := fun x y z => by
    rw [andS_bit (by rw [sprS_len I.tl, hl]), Bool.and_eq_true, sprS_bit I.tl] at z
    rcases z with ⟨z1, z2 | ⟨_, p, hp, z2⟩⟩
    · exact I.inn x y z2
    · exact .step (I.inn p.1 p.2 z2) hp z1
  st := by
    rw [andS_bit (by rw [sprS_len I.tl, hl]), Bool.and_eq_true, sprS_bit I.tl]
    exact ⟨(I.inn a b I.st).p, .inl I.st⟩
  cl := fun p q hp hq hb => by
    rw [andS_bit (by rw [sprS_len I.tl, hl]), Bool.and_eq_true, sprS_bit I.tl]
    exact ⟨hb, .inr ⟨bitS_in hl hs hb, p, hq, hp⟩⟩
theorem flood_ms {w h : Nat} {s f t : List Nat} {a b : Int} (I : FloodI w h s a b f t) (ne : t ≠ f) : h * 2 ^ w - t.sum < h * 2 ^ w - f.sum := by
  have h1 := sum_le (by rw [I.fl, I.tl]) (sub_le I.sub)
  have h2 : f.sum ≠ t.sum := fun e => ne (sum_eq (by rw [I.fl, I.tl]) (sub_le I.sub) e).symm
  have h3 := sum_max I.tl I.to
  omega
theorem flood_end {w h : Nat} {s t : List Nat} {a b : Int} (I : FloodI w h s a b t t) : FloodOf w h s a b t :=
  ⟨I.tl, I.to, fun x y => rch_of (P := fun p => bitS s p.1 p.2 = true) (s := (a, b)) (S := fun p => bitS t p.1 p.2 = true) (fun _ => I.st) (fun p q hp hq hb => I.cl p q hp hq hb) (fun p hp => I.inn p.1 p.2 hp) (x, y)⟩
local macro_rules | `(tactic| walk_at "dx") => `(tactic| simp (disch := first | assumption | omega) only [↓e_joined, ↓e_moved, ↓e_common, ↓e_without, ↓ix_sz, ↓gTp_pt, ↓enumK_sh, ↓e_places, ↓e_count, ↓e_nothing, ↓e_has, ↓e_spread, ↓e_is_number, ↓isNum_i, ↓isNum_b, ↓isNum_n, ↓isNum_s, ↓isNum_l, ↓isNum_t, ↓e_is_place, ↓e_sheet_of, ↓e_sheet_of1, sh_eqv, sh_nod, sh_dmin, ↓dVar_0, ↓dVar_1, ↓dVar_2, ↓dVar_3, ↓dVar_4, ↓dVar_5, ↓dVar_6, ↓dVar_7, ↓dVar_8, ↓dVar_9, ↓dVar_10, ↓dVar_11, ↓dVar_12, ↓dVar_13, ↓dVar_14, ↓dVar_15, ↓old_dat, ↓old_loc, ↓old_raw, ↓old_exc, ↓old_ro, ↓wDs_nil, ↓wDs_cons, ↓x_dC, ↓x_dRaw, ↓x_dFrz, ↓x_dCell, ↓x_dStl, ↓x_aNil, ↓x_aCons, ↓x_dLst, ↓x_dTup, ↓x_tVal, ↓x_tAndD, ↓x_tOrD, ↓x_tNotD, ↓x_tYesD, ↓x_dAndV, ↓x_dOrV, ↓x_dNotV, ↓x_dIfE, ↓x_dOp, ↓x_dUn, ↓x_dCB, ↓x_dChain, ↓intK_i, ↓x_oNo, ↓x_oSome, ↓x_dSl, ↓x_gNm, ↓x_gNl0, ↓x_gCn, ↓x_gTp, ↓x_gSb, ↓x_dCall, ↓seqK_tup, ↓seqK_lst, ↓seqK_new, ↓seqK_ro, ↓seqK_str, ↓rng1_i, ↓rng2_i, ↓x_iSeq, ↓x_iRange1, ↓x_iRange2, ↓x_dBM, ↓x_dBM0, ↓x_isStr, ↓bools_k, ↓ints_k, ↓strs_k, ↓lstK_lst, ↓lstK_new, ↓sqK_lst, ↓sqK_new, ↓sqK_tup, ↓sqK_ro, ↓x_oAll, ↓x_oSum, ↓x_oJoin, ↓x_oList, ↓x_oTuple, ↓x_oIsN, ↓x_oNotN, ↓x_lc, ↓int_i, ↓int_b, ↓mem_l, ↓mem_t, ↓mem_n, ↓x_srtS, ↓mul_ni, ↓mul_li, ↓wD_dat, ↓wD_new, ↓wB_b, ↓nN_dat, ↓nN_loc, ↓nN_raw, ↓nN_ro, ↓nN_exc, ↓aO_nil, ↓aO_cons, ↓stl_dat, ↓stl_new, ↓stl_loc, ↓stl_raw, ↓stl_ro, ↓stl_exc, ↓cel_dat, ↓cel_new, ↓cel_loc, ↓cel_raw, ↓cel_ro, ↓add_int, ↓add_strD, ↓add_tup, ↓add_ll, ↓add_ln, ↓add_nl, ↓add_nn, ↓oI_ii, ↓oI0_ii, ↓neg_i, ↓inv_i, ↓mul_int, ↓eq_dd, ↓ne_dd, ↓eq_nd, ↓ne_nd, ↓eq_dn, ↓ne_dn, ↓eq_nn, ↓ne_nn, ↓sign_ss, ↓ix_s, ↓ix_tupD, ↓ix_lstD, ↓ix_new, ↓ix_ro, ↓sl_s, ↓sl_tupD, ↓sl_lstD, ↓sl_new, ↓sl_ro, ↓len_str, ↓len_tup, ↓len_lst, ↓len_new, ↓len_ro, ↓max_ii, ↓min_ii, ↓isi_int, ↓isi_bool, ↓isi_str, ↓isi_list, ↓isi_tuple, ↓isi_dict, ↓exitQ_dat, ↓exitQ_new, ↓exitQ_raw, ↓cl_nil, ↓cl_none, ↓cl_dat, ↓cl_ro, ↓cl_raw, ↓cl_odat, ↓dVar_16, ↓dVar_17, ↓dVar_18, ↓dVar_19, ↓dVar_20, ↓dVar_21, ↓dVar_22, ↓dVar_23, ↓dVar_24, ↓dVar_25, ↓dVar_26, ↓dVar_27, ↓dVar_28, ↓dVar_29, ↓dVar_30, ↓dVar_31, ↓dVar_32, ↓dVar_33, ↓dVar_34, ↓dVar_35, ↓noD_n, ↓noD_b, ↓noD_i, ↓noD_s, ↓noD_l, ↓noD_t, ↓noDs_nil, ↓noDs_cons, ↓noDs_app, ↓noDs_i, ↓noDs_s, ↓noDs_b, ↓exC_k, ↓isIntD_none, ↓isIntD_bool, ↓isIntD_int, ↓isIntD_str, ↓isIntD_list, ↓isIntD_tuple, ↓isIntD_dict, ↓isBoolD_none, ↓isBoolD_bool, ↓isBoolD_int, ↓isBoolD_str, ↓isBoolD_list, ↓isBoolD_tuple, ↓isBoolD_dict, ↓isStrD_none, ↓isStrD_bool, ↓isStrD_int, ↓isStrD_str, ↓isStrD_list, ↓isStrD_tuple, ↓isStrD_dict, ↓isListD_none, ↓isListD_bool, ↓isListD_int, ↓isListD_str, ↓isListD_list, ↓isListD_tuple, ↓isListD_dict, ↓isTupD_none, ↓isTupD_bool, ↓isTupD_int, ↓isTupD_str, ↓isTupD_list, ↓isTupD_tuple, ↓isTupD_dict, ↓isDictD_none, ↓isDictD_bool, ↓isDictD_int, ↓isDictD_str, ↓isDictD_list, ↓isDictD_tuple, ↓isDictD_dict, ↓neg_i2, ↓inv_i2, ↓x_iSeqD, ↓seqDK_d, ↓seqDK_t, ↓seqDK_l, ↓seqDK_s, ↓seqDK_n, ↓seqDK_r, ↓seqDK_c, ↓x_iZipD, ↓zipK_t, ↓zipK_l, ↓x_dNewD, ↓lcD_d, ↓keysK_nil, ↓keysK_i, ↓keysK_s, ↓keysP_nil, ↓keysP_i, ↓keysP_s, ↓c_setD, ↓memA_dict, ↓memA_l, ↓memA_t, ↓memA_n, ↓c_memA, ↓memC_d, ↓memC_l, ↓memC_f, ↓cell_nd, ↓cell_nk, ↓stl_nd, ↓stl_nk, ↓ex_nd, ↓ex_nk, ↓x_dCellA, ↓cellA_new, ↓nextA_eq, ↓stateA_eq, ↓cellA_eq, ↓fg_nil, ↓fg_cons, ↓lcR_l, ↓lcR_f, ↓lcK_l, ↓c_len, ↓c_ix, ↓c_ixC, ↓c_app, ↓c_set, ↓c_isL, ↓c_lstK, ↓c_sqK, ↓c_mem, ↓c_addn, ↓c_addl, ↓c_sl, ↓c_seqK, ↓seqC_l, ↓seqC_f, ↓c_wD, ↓wdC_l, ↓wdC_f, ↓exC_l, ↓exC_f, ↓exC_d, ↓cellK_new, ↓cellK_dat, ↓cellK_loc, ↓get_a0, ↓get_a1, ↓get_a2, ↓get_a3, ↓set_a0, ↓set_a1, ↓set_a2, ↓set_a3, ↓lnD_str, ↓lnD_tup, ↓lnD_lst, ↓lnD_new, ↓lnD_ro, ↓lnD_d, ↓c_lenD, ↓lnC_d, ↓lnC_k, ↓lnC_l, ↓lnC_f, ↓eq_cN, ↓eq_cD, ↓eq_Nc, ↓eq_Dc, ↓ne_cN, ↓ne_cD, ↓ne_Nc, ↓ne_Dc, ↓x_iEnumD, ↓enumK_t, ↓enumK_l, ↓enumK_r, ↓enumK_tk, ↓enumK_lk, ↓srt_d, ↓srt_l, ↓srt_n, ↓c_srt, ↓srtC_l, ↓srtC_f, ↓srtC_d, ↓lsA_t, ↓lsA_l, ↓lsA_n, ↓lsA_r, ↓c_lsA, ↓c_isi_list, ↓c_isi_dict, ↓c_isi_tuple, ↓isiB_l, ↓isiB_f, ↓isiB_d, ↓isiB_k, ↓isi_n_list, ↓isi_n_tuple, ↓x_dListIt, ↓litK_d, ↓augK_s, ↓iadd_ii, ↓c_iaddn, ↓c_iaddl, ↓abs_i, ↓x_dRevL, ↓revK_n, ↓revK_l, ↓cnt_n, ↓cnt_l, ↓idx_l, ↓isLst_l, ↓isLst_n, ↓c_pop, ↓c_popD, ↓c_isD, ↓lcD2_d, ↓lcD2_k, ↓tk_0, ↓tk_a0, ↓tk_a1, ↓tk_a2, ↓tk_a3, ↓tk_a4, dVar_0, dVar_1, dVar_2, dVar_3, dVar_4, dVar_5, dVar_6, dVar_7, dVar_8, dVar_9, dVar_10, dVar_11, dVar_12, dVar_13, dVar_14, dVar_15, old_dat, old_loc, old_raw, old_exc, old_ro, wDs_nil, wDs_cons, x_dC, x_dRaw, x_dFrz, x_dCell, x_dStl, x_aNil, x_aCons, x_dLst, x_dTup, x_tVal, x_tAndD, x_tOrD, x_tNotD, x_tYesD, x_dAndV, x_dOrV, x_dNotV, x_dIfE, x_dOp, x_dUn, x_dCB, x_dChain, intK_i, x_oNo, x_oSome, x_dSl, x_gNm, x_gNl0, x_gCn, x_gTp, x_gSb, x_dCall, seqK_tup, seqK_lst, seqK_new, seqK_ro, seqK_str, rng1_i, rng2_i, x_iSeq, x_iRange1, x_iRange2, x_dBM, x_dBM0, x_isStr, bools_k, ints_k, strs_k, lstK_lst, lstK_new, sqK_lst, sqK_new, sqK_tup, sqK_ro, x_oAll, x_oSum, x_oJoin, x_oList, x_oTuple, x_oIsN, x_oNotN, x_lc, int_i, int_b, mem_l, mem_t, mem_n, x_srtS, mul_ni, mul_li, wD_dat, wD_new, wB_b, nN_dat, nN_loc, nN_raw, nN_ro, nN_exc, aO_nil, aO_cons, stl_dat, stl_new, stl_loc, stl_raw, stl_ro, stl_exc, cel_dat, cel_new, cel_loc, cel_raw, cel_ro, add_int, add_strD, add_tup, add_ll, add_ln, add_nl, add_nn, oI_ii, oI0_ii, neg_i, inv_i, mul_int, eq_dd, ne_dd, eq_nd, ne_nd, eq_dn, ne_dn, eq_nn, ne_nn, sign_ss, ix_s, ix_tupD, ix_lstD, ix_new, ix_ro, sl_s, sl_tupD, sl_lstD, sl_new, sl_ro, len_str, len_tup, len_lst, len_new, len_ro, max_ii, min_ii, isi_int, isi_bool, isi_str, isi_list, isi_tuple, isi_dict, exitQ_dat, exitQ_new, exitQ_raw, cl_nil, cl_none, cl_dat, cl_ro, cl_raw, cl_odat, dVar_16, dVar_17, dVar_18, dVar_19, dVar_20, dVar_21, dVar_22, dVar_23, dVar_24, dVar_25, dVar_26, dVar_27, dVar_28, dVar_29, dVar_30, dVar_31, dVar_32, dVar_33, dVar_34, dVar_35, noD_n, noD_b, noD_i, noD_s, noD_l, noD_t, noDs_nil, noDs_cons, noDs_app, noDs_i, noDs_s, noDs_b, exC_k, isIntD_none, isIntD_bool, isIntD_int, isIntD_str, isIntD_list, isIntD_tuple, isIntD_dict, isBoolD_none, isBoolD_bool, isBoolD_int, isBoolD_str, isBoolD_list, isBoolD_tuple, isBoolD_dict, isStrD_none, isStrD_bool, isStrD_int, isStrD_str, isStrD_list, isStrD_tuple, isStrD_dict, isListD_none, isListD_bool, isListD_int, isListD_str, isListD_list, isListD_tuple, isListD_dict, isTupD_none, isTupD_bool, isTupD_int, isTupD_str, isTupD_list, isTupD_tuple, isTupD_dict, isDictD_none, isDictD_bool, isDictD_int, isDictD_str, isDictD_list, isDictD_tuple, isDictD_dict, neg_i2, inv_i2, x_iSeqD, seqDK_d, seqDK_t, seqDK_l, seqDK_s, seqDK_n, seqDK_r, seqDK_c, x_iZipD, zipK_t, zipK_l, x_dNewD, lcD_d, keysK_nil, keysK_i, keysK_s, keysP_nil, keysP_i, keysP_s, c_setD, memA_dict, memA_l, memA_t, memA_n, c_memA, memC_d, memC_l, memC_f, cell_nd, cell_nk, stl_nd, stl_nk, ex_nd, ex_nk, x_dCellA, cellA_new, nextA_eq, stateA_eq, cellA_eq, fg_nil, fg_cons, lcR_l, lcR_f, lcK_l, c_len, c_ix, c_ixC, c_app, c_set, c_isL, c_lstK, c_sqK, c_mem, c_addn, c_addl, c_sl, c_seqK, seqC_l, seqC_f, c_wD, wdC_l, wdC_f, exC_l, exC_f, exC_d, cellK_new, cellK_dat, cellK_loc, get_a0, get_a1, get_a2, get_a3, set_a0, set_a1, set_a2, set_a3, lnD_str, lnD_tup, lnD_lst, lnD_new, lnD_ro, lnD_d, c_lenD, lnC_d, lnC_k, lnC_l, lnC_f, eq_cN, eq_cD, eq_Nc, eq_Dc, ne_cN, ne_cD, ne_Nc, ne_Dc, x_iEnumD, enumK_t, enumK_l, enumK_r, enumK_tk, enumK_lk, srt_d, srt_l, srt_n, c_srt, srtC_l, srtC_f, srtC_d, lsA_t, lsA_l, lsA_n, lsA_r, c_lsA, c_isi_list, c_isi_dict, c_isi_tuple, isiB_l, isiB_f, isiB_d, isiB_k, isi_n_list, isi_n_tuple, x_dListIt, litK_d, augK_s, iadd_ii, c_iaddn, c_iaddl, abs_i, x_dRevL, revK_n, revK_l, cnt_n, cnt_l, idx_l, isLst_l, isLst_n, c_pop, c_popD, c_isD, lcD2_d, lcD2_k, tk_0, tk_a0, tk_a1, tk_a2, tk_a3, tk_a4, isR_h, isR_app, isR_last, exitQ_ge, exitQ_lt, cl_loc, nle_h, nlt_h, ile_h, ilt_h, cmul_l, cmul_r, cdiv_h, cpow_h, csh_h, csh_0, oLt, oLe, oGt, oGe, oSub, oMod, oDiv, oPow, oShl, oShr, oAnd, oOr, oXor, isRaw, isNon, startD, List.length_map, decide_eq_true_eq, List.map_cons, List.map_nil, List.length_cons, List.length_nil, List.cons_append, List.nil_append, List.append_nil, List.replicate, List.getElem?_cons_zero, List.getElem?_cons_succ, List.set_cons_zero, List.set_cons_succ, List.take_length, true_and, and_true, eqv_int, eqv_bool, eqv_str, dep_int, dep_bool, dep_str, dep_none, min0l, min0r, Option.map_some, Option.map_none, if_true, if_false, Bool.and_true, Bool.true_and, Bool.false_eq_true, Bool.not_true, Bool.not_false, reduceIte, wipeD, List.append_assoc, at_nn, Option.some.injEq, exists_eq_left, exists_eq_left', Int.reduceToNat, Int.reduceLE, Int.reduceLT, List.length_set, Nat.reduceAdd, Nat.reduceLeDiff, Nat.reduceSub, dat_dat, dat_new, lst_lst, lst_new, seq_tup, seq_lst, seq_new, seq_ro, List.length_append, Nat.zero_add, eqv_tup, eqv_lst, eqvA_nn, eqvA_cc, eqvA_nc, eqvA_cn, dep_tup, dep_lst, depA_nil, depA_cons, Nat.max_zero, Nat.zero_max, Nat.lt_add_one, forall_const, oShlA, rng_c, Int.toNat_natCast, List.flatten_nil, decide_true, decide_false])
def sp_flood : SpD := fun es μ q x => ∃ (w : Nat) (h : Nat) (s : List Nat) (a : Int) (b : Int), es = [.dat (szD w h), .dat (shD s), .dat (.int a), .dat (.int b)] ∧ (s.length = h ∧ okS w s ∧ w ≤ 10 ∧ h ≤ 10 ∧ 2 ≤ h ∧ ∀ t, FloodOf w h s a b t → q (.dat (shD t)) μ)
theorem e_flood {w : Nat} {h : Nat} {s : List Nat} {a : Int} {b : Int} {μ : Mu} {q : PQ} {x : XQ} : sp_flood [.dat (szD w h), .dat (shD s), .dat (.int a), .dat (.int b)] μ q x = (s.length = h ∧ okS w s ∧ w ≤ 10 ∧ h ≤ 10 ∧ 2 ≤ h ∧ ∀ t, FloodOf w h s a b t → q (.dat (shD t)) μ) := by
  refine propext ⟨fun hyp0 => ?_, fun hyp0 => ⟨w, h, s, a, b, rfl, hyp0⟩⟩
  obtain ⟨w', h', s', a', b', eq0, hyp0⟩ := hyp0
  simp only [List.cons.injEq, Exn.mk.injEq, EV.dat.injEq, EV.loc.injEq, EV.new.injEq, EV.ro.injEq, EV.exc.injEq, PyData.int.injEq, PyData.str.injEq, PyData.bool.injEq, PyData.list.injEq, PyData.tuple.injEq, and_true, true_and, and_assoc, map_int_inj, szD_inj, shD_inj] at eq0
  obtain ⟨rfl, rfl, rfl, rfl, rfl⟩ := eq0
  exact hyp0
theorem ok_flood (T : Top K mg) : DefAt P w K mg base "flood" 4 ["size", "sheet", "x", "y"] [] [] sp_flood := by
  refine def_ok sp_flood T.F_flood sc_flood T.m_flood T.b_flood (fun cdv A outer s H E hr tk pw => (dss_cons (ds_set (i := 4) sc_flood.nd rfl (by first | exact Or.inl rfl | exact Or.inr rfl) (de_stl (de_call (ok_nothing T) hr (by decide) (by rfl) tk (fun _ _ => .nil) (da_cons (de_stl (dv 0)) da_nil))))
    (dss_cons (ds_if (dt_not (dt_val (de_call (ok_has T) hr (by decide) (by rfl) tk (fun _ _ => .nil) (da_cons (de_stl (dv 1)) (da_cons (de_stl (dv 2)) (da_cons (de_stl (dv 3)) da_nil)))))) (dss_one (ds_ret (dv 4))) dss_nil)
    (dss_cons (ds_set (i := 5) sc_flood.nd rfl (by first | exact Or.inl rfl | exact Or.inr rfl) (de_stl (de_call (ok_sheet_of T) hr (by decide) (by rfl) tk (fun _ _ => .nil) (da_cons (de_stl (dv 0)) (da_cons (de_stl (de_lst (da_cons (de_frz (de_tup (da_cons (de_frz (dv 2)) (da_cons (de_frz (dv 3)) da_nil)))) da_nil))) da_nil)))))
    (dss_cons (ds_whileF [2, 3] pw (dt_cmp (opA_ne hr.units) os_ne (dv 5) (dv 4) (nomark _)) (dss_cons (ds_set (i := 4) sc_flood.nd rfl (by first | exact Or.inl rfl | exact Or.inr rfl) (de_stl (dv 5)))
    (dss_one (ds_set (i := 5) sc_flood.nd rfl (by first | exact Or.inl rfl | exact Or.inr rfl) (de_stl (de_call (ok_common T) hr (by decide) (by rfl) tk (fun _ _ => .nil) (da_cons (de_stl (dv 1)) (da_cons (de_stl (de_call (ok_spread T) hr (by decide) (by rfl) tk (fun _ _ => .nil) (da_cons (de_stl (dv 0)) (da_cons (de_stl (dv 4)) da_nil)))) da_nil))))))))
    (dss_one (ds_ret (dv 4)))))))) ?_
  rintro es μ q x - ⟨w, h, s, a, b, rfl, hl, hs, hw, hh, h2, k⟩
  walk_at "run"
  cases hb : bitS s a b with
  | false =>
    rw [if_pos (by rfl)]
    walk_at "run"
    exact k _ (flood_0 hb)
  | true =>
    rw [if_neg (by simp)]
    walk_at "run"
    refine ⟨bitS_in hl hs hb, ?_⟩
    refine q_whileF (fun p : List Nat × List Nat => FloodI w h s a b p.1 p.2) (fun p => h * 2 ^ w - p.1.sum) (fun η p => (η.set 4 (some (.dat (shD p.1)))).set 5 (some (.dat (shD p.2)))) (fun _ => μ) (List.replicate h 0, shC w h [(a, b)]) rfl rfl (flood_i hl hs hb) ?_
    rintro ⟨f, t⟩ J I hJ
    have tl := I.tl
    have to := I.to
    simp only at tl to
    walk_at "run"
    by_cases e : t = f
    · subst e
      rw [if_neg (by simp)]
      walk_at "run"
      exact k _ (flood_end I)
    · rw [if_pos (by simp [e])]
      walk_at "run"
      refine ⟨tl, to, by rw [sprS_len tl, hl], ?_⟩
      (have j := hJ (t, andS s (sprS w h t)) (flood_go hl hs I) (flood_ms I e); simp only [List.range_succ, List.map_append, List.map_cons, List.map_nil, fg_cons, fg_nil, List.set_cons_succ, List.set_cons_zero] at j; exact j)

local macro_rules | `(tactic| walk_at "dx") => `(tactic| simp (disch := first | assumption | omega) only [↓e_joined, ↓e_moved, ↓e_common, ↓e_without, ↓ix_sz, ↓gTp_pt, ↓enumK_sh, ↓e_places, ↓e_count, ↓e_nothing, ↓e_has, ↓e_spread, ↓e_is_number, ↓isNum_i, ↓isNum_b, ↓isNum_n, ↓isNum_s, ↓isNum_l, ↓isNum_t, ↓e_is_place, ↓e_sheet_of, ↓e_sheet_of1, sh_eqv, sh_nod, sh_dmin, ↓e_flood, ↓dVar_0, ↓dVar_1, ↓dVar_2, ↓dVar_3, ↓dVar_4, ↓dVar_5, ↓dVar_6, ↓dVar_7, ↓dVar_8, ↓dVar_9, ↓dVar_10, ↓dVar_11, ↓dVar_12, ↓dVar_13, ↓dVar_14, ↓dVar_15, ↓old_dat, ↓old_loc, ↓old_raw, ↓old_exc, ↓old_ro, ↓wDs_nil, ↓wDs_cons, ↓x_dC, ↓x_dRaw, ↓x_dFrz, ↓x_dCell, ↓x_dStl, ↓x_aNil, ↓x_aCons, ↓x_dLst, ↓x_dTup, ↓x_tVal, ↓x_tAndD, ↓x_tOrD, ↓x_tNotD, ↓x_tYesD, ↓x_dAndV, ↓x_dOrV, ↓x_dNotV, ↓x_dIfE, ↓x_dOp, ↓x_dUn, ↓x_dCB, ↓x_dChain, ↓intK_i, ↓x_oNo, ↓x_oSome, ↓x_dSl, ↓x_gNm, ↓x_gNl0, ↓x_gCn, ↓x_gTp, ↓x_gSb, ↓x_dCall, ↓seqK_tup, ↓seqK_lst, ↓seqK_new, ↓seqK_ro, ↓seqK_str, ↓rng1_i, ↓rng2_i, ↓x_iSeq, ↓x_iRange1, ↓x_iRange2, ↓x_dBM, ↓x_dBM0, ↓x_isStr, ↓bools_k, ↓ints_k, ↓strs_k, ↓lstK_lst, ↓lstK_new, ↓sqK_lst, ↓sqK_new, ↓sqK_tup, ↓sqK_ro, ↓x_oAll, ↓x_oSum, ↓x_oJoin, ↓x_oList, ↓x_oTuple, ↓x_oIsN, ↓x_oNotN, ↓x_lc, ↓int_i, ↓int_b, ↓mem_l, ↓mem_t, ↓mem_n, ↓x_srtS, ↓mul_ni, ↓mul_li, ↓wD_dat, ↓wD_new, ↓wB_b, ↓nN_dat, ↓nN_loc, ↓nN_raw, ↓nN_ro, ↓nN_exc, ↓aO_nil, ↓aO_cons, ↓stl_dat, ↓stl_new, ↓stl_loc, ↓stl_raw, ↓stl_ro, ↓stl_exc, ↓cel_dat, ↓cel_new, ↓cel_loc, ↓cel_raw, ↓cel_ro, ↓add_int, ↓add_strD, ↓add_tup, ↓add_ll, ↓add_ln, ↓add_nl, ↓add_nn, ↓oI_ii, ↓oI0_ii, ↓neg_i, ↓inv_i, ↓mul_int, ↓eq_dd, ↓ne_dd, ↓eq_nd, ↓ne_nd, ↓eq_dn, ↓ne_dn, ↓eq_nn, ↓ne_nn, ↓sign_ss, ↓ix_s, ↓ix_tupD, ↓ix_lstD, ↓ix_new, ↓ix_ro, ↓sl_s, ↓sl_tupD, ↓sl_lstD, ↓sl_new, ↓sl_ro, ↓len_str, ↓len_tup, ↓len_lst, ↓len_new, ↓len_ro, ↓max_ii, ↓min_ii, ↓isi_int, ↓isi_bool, ↓isi_str, ↓isi_list, ↓isi_tuple, ↓isi_dict, ↓exitQ_dat, ↓exitQ_new, ↓exitQ_raw, ↓cl_nil, ↓cl_none, ↓cl_dat, ↓cl_ro, ↓cl_raw, ↓cl_odat, ↓dVar_16, ↓dVar_17, ↓dVar_18, ↓dVar_19, ↓dVar_20, ↓dVar_21, ↓dVar_22, ↓dVar_23, ↓dVar_24, ↓dVar_25, ↓dVar_26, ↓dVar_27, ↓dVar_28, ↓dVar_29, ↓dVar_30, ↓dVar_31, ↓dVar_32, ↓dVar_33, ↓dVar_34, ↓dVar_35, ↓noD_n, ↓noD_b, ↓noD_i, ↓noD_s, ↓noD_l, ↓noD_t, ↓noDs_nil, ↓noDs_cons, ↓noDs_app, ↓noDs_i, ↓noDs_s, ↓noDs_b, ↓exC_k, ↓isIntD_none, ↓isIntD_bool, ↓isIntD_int, ↓isIntD_str, ↓isIntD_list, ↓isIntD_tuple, ↓isIntD_dict, ↓isBoolD_none, ↓isBoolD_bool, ↓isBoolD_int, ↓isBoolD_str, ↓isBoolD_list, ↓isBoolD_tuple, ↓isBoolD_dict, ↓isStrD_none, ↓isStrD_bool, ↓isStrD_int, ↓isStrD_str, ↓isStrD_list, ↓isStrD_tuple, ↓isStrD_dict, ↓isListD_none, ↓isListD_bool, ↓isListD_int, ↓isListD_str, ↓isListD_list, ↓isListD_tuple, ↓isListD_dict, ↓isTupD_none, ↓isTupD_bool, ↓isTupD_int, ↓isTupD_str, ↓isTupD_list, ↓isTupD_tuple, ↓isTupD_dict, ↓isDictD_none, ↓isDictD_bool, ↓isDictD_int, ↓isDictD_str, ↓isDictD_list, ↓isDictD_tuple, ↓isDictD_dict, ↓neg_i2, ↓inv_i2, ↓x_iSeqD, ↓seqDK_d, ↓seqDK_t, ↓seqDK_l, ↓seqDK_s, ↓seqDK_n, ↓seqDK_r, ↓seqDK_c, ↓x_iZipD, ↓zipK_t, ↓zipK_l, ↓x_dNewD, ↓lcD_d, ↓keysK_nil, ↓keysK_i, ↓keysK_s, ↓keysP_nil, ↓keysP_i, ↓keysP_s, ↓c_setD, ↓memA_dict, ↓memA_l, ↓memA_t, ↓memA_n, ↓c_memA, ↓memC_d, ↓memC_l, ↓memC_f, ↓cell_nd, ↓cell_nk, ↓stl_nd, ↓stl_nk, ↓ex_nd, ↓ex_nk, ↓x_dCellA, ↓cellA_new, ↓nextA_eq, ↓stateA_eq, ↓cellA_eq, ↓fg_nil, ↓fg_cons, ↓lcR_l, ↓lcR_f, ↓lcK_l, ↓c_len, ↓c_ix, ↓c_ixC, ↓c_app, ↓c_set, ↓c_isL, ↓c_lstK, ↓c_sqK, ↓c_mem, ↓c_addn, ↓c_addl, ↓c_sl, ↓c_seqK, ↓seqC_l, ↓seqC_f, ↓c_wD, ↓wdC_l, ↓wdC_f, ↓exC_l, ↓exC_f, ↓exC_d, ↓cellK_new, ↓cellK_dat, ↓cellK_loc, ↓get_a0, ↓get_a1, ↓get_a2, ↓get_a3, ↓set_a0, ↓set_a1, ↓set_a2, ↓set_a3, ↓lnD_str, ↓lnD_tup, ↓lnD_lst, ↓lnD_new, ↓lnD_ro, ↓lnD_d, ↓c_lenD, ↓lnC_d, ↓lnC_k, ↓lnC_l, ↓lnC_f, ↓eq_cN, ↓eq_cD, ↓eq_Nc, ↓eq_Dc, ↓ne_cN, ↓ne_cD, ↓ne_Nc, ↓ne_Dc, ↓x_iEnumD, ↓enumK_t, ↓enumK_l, ↓enumK_r, ↓enumK_tk, ↓enumK_lk, ↓srt_d, ↓srt_l, ↓srt_n, ↓c_srt, ↓srtC_l, ↓srtC_f, ↓srtC_d, ↓lsA_t, ↓lsA_l, ↓lsA_n, ↓lsA_r, ↓c_lsA, ↓c_isi_list, ↓c_isi_dict, ↓c_isi_tuple, ↓isiB_l, ↓isiB_f, ↓isiB_d, ↓isiB_k, ↓isi_n_list, ↓isi_n_tuple, ↓x_dListIt, ↓litK_d, ↓augK_s, ↓iadd_ii, ↓c_iaddn, ↓c_iaddl, ↓abs_i, ↓x_dRevL, ↓revK_n, ↓revK_l, ↓cnt_n, ↓cnt_l, ↓idx_l, ↓isLst_l, ↓isLst_n, ↓c_pop, ↓c_popD, ↓c_isD, ↓lcD2_d, ↓lcD2_k, ↓tk_0, ↓tk_a0, ↓tk_a1, ↓tk_a2, ↓tk_a3, ↓tk_a4, dVar_0, dVar_1, dVar_2, dVar_3, dVar_4, dVar_5, dVar_6, dVar_7, dVar_8, dVar_9, dVar_10, dVar_11, dVar_12, dVar_13, dVar_14, dVar_15, old_dat, old_loc, old_raw, old_exc, old_ro, wDs_nil, wDs_cons, x_dC, x_dRaw, x_dFrz, x_dCell, x_dStl, x_aNil, x_aCons, x_dLst, x_dTup, x_tVal, x_tAndD, x_tOrD, x_tNotD, x_tYesD, x_dAndV, x_dOrV, x_dNotV, x_dIfE, x_dOp, x_dUn, x_dCB, x_dChain, intK_i, x_oNo, x_oSome, x_dSl, x_gNm, x_gNl0, x_gCn, x_gTp, x_gSb, x_dCall, seqK_tup, seqK_lst, seqK_new, seqK_ro, seqK_str, rng1_i, rng2_i, x_iSeq, x_iRange1, x_iRange2, x_dBM, x_dBM0, x_isStr, bools_k, ints_k, strs_k, lstK_lst, lstK_new, sqK_lst, sqK_new, sqK_tup, sqK_ro, x_oAll, x_oSum, x_oJoin, x_oList, x_oTuple, x_oIsN, x_oNotN, x_lc, int_i, int_b, mem_l, mem_t, mem_n, x_srtS, mul_ni, mul_li, wD_dat, wD_new, wB_b, nN_dat, nN_loc, nN_raw, nN_ro, nN_exc, aO_nil, aO_cons, stl_dat, stl_new, stl_loc, stl_raw, stl_ro, stl_exc, cel_dat, cel_new, cel_loc, cel_raw, cel_ro, add_int, add_strD, add_tup, add_ll, add_ln, add_nl, add_nn, oI_ii, oI0_ii, neg_i, inv_i, mul_int, eq_dd, ne_dd, eq_nd, ne_nd, eq_dn, ne_dn, eq_nn, ne_nn, sign_ss, ix_s, ix_tupD, ix_lstD, ix_new, ix_ro, sl_s, sl_tupD, sl_lstD, sl_new, sl_ro, len_str, len_tup, len_lst, len_new, len_ro, max_ii, min_ii, isi_int, isi_bool, isi_str, isi_list, isi_tuple, isi_dict, exitQ_dat, exitQ_new, exitQ_raw, cl_nil, cl_none, cl_dat, cl_ro, cl_raw, cl_odat, dVar_16, dVar_17, dVar_18, dVar_19, dVar_20, dVar_21, dVar_22, dVar_23, dVar_24, dVar_25, dVar_26, dVar_27, dVar_28, dVar_29, dVar_30, dVar_31, dVar_32, dVar_33, dVar_34, dVar_35, noD_n, noD_b, noD_i, noD_s, noD_l, noD_t, noDs_nil, noDs_cons, noDs_app, noDs_i, noDs_s, noDs_b, exC_k, isIntD_none, isIntD_bool, isIntD_int, isIntD_str, isIntD_list, isIntD_tuple, isIntD_dict, isBoolD_none, isBoolD_bool, isBoolD_int, isBoolD_str, isBoolD_list, isBoolD_tuple, isBoolD_dict, isStrD_none, isStrD_bool, isStrD_int, isStrD_str, isStrD_list, isStrD_tuple, isStrD_dict, isListD_none, isListD_bool, isListD_int, isListD_str, isListD_list, isListD_tuple, isListD_dict, isTupD_none, isTupD_bool, isTupD_int, isTupD_str, isTupD_list, isTupD_tuple, isTupD_dict, isDictD_none, isDictD_bool, isDictD_int, isDictD_str, isDictD_list, isDictD_tuple, isDictD_dict, neg_i2, inv_i2, x_iSeqD, seqDK_d, seqDK_t, seqDK_l, seqDK_s, seqDK_n, seqDK_r, seqDK_c, x_iZipD, zipK_t, zipK_l, x_dNewD, lcD_d, keysK_nil, keysK_i, keysK_s, keysP_nil, keysP_i, keysP_s, c_setD, memA_dict, memA_l, memA_t, memA_n, c_memA, memC_d, memC_l, memC_f, cell_nd, cell_nk, stl_nd, stl_nk, ex_nd, ex_nk, x_dCellA, cellA_new, nextA_eq, stateA_eq, cellA_eq, fg_nil, fg_cons, lcR_l, lcR_f, lcK_l, c_len, c_ix, c_ixC, c_app, c_set, c_isL, c_lstK, c_sqK, c_mem, c_addn, c_addl, c_sl, c_seqK, seqC_l, seqC_f, c_wD, wdC_l, wdC_f, exC_l, exC_f, exC_d, cellK_new, cellK_dat, cellK_loc, get_a0, get_a1, get_a2, get_a3, set_a0, set_a1, set_a2, set_a3, lnD_str, lnD_tup, lnD_lst, lnD_new, lnD_ro, lnD_d, c_lenD, lnC_d, lnC_k, lnC_l, lnC_f, eq_cN, eq_cD, eq_Nc, eq_Dc, ne_cN, ne_cD, ne_Nc, ne_Dc, x_iEnumD, enumK_t, enumK_l, enumK_r, enumK_tk, enumK_lk, srt_d, srt_l, srt_n, c_srt, srtC_l, srtC_f, srtC_d, lsA_t, lsA_l, lsA_n, lsA_r, c_lsA, c_isi_list, c_isi_dict, c_isi_tuple, isiB_l, isiB_f, isiB_d, isiB_k, isi_n_list, isi_n_tuple, x_dListIt, litK_d, augK_s, iadd_ii, c_iaddn, c_iaddl, abs_i, x_dRevL, revK_n, revK_l, cnt_n, cnt_l, idx_l, isLst_l, isLst_n, c_pop, c_popD, c_isD, lcD2_d, lcD2_k, tk_0, tk_a0, tk_a1, tk_a2, tk_a3, tk_a4, isR_h, isR_app, isR_last, exitQ_ge, exitQ_lt, cl_loc, nle_h, nlt_h, ile_h, ilt_h, cmul_l, cmul_r, cdiv_h, cpow_h, csh_h, csh_0, oLt, oLe, oGt, oGe, oSub, oMod, oDiv, oPow, oShl, oShr, oAnd, oOr, oXor, isRaw, isNon, startD, List.length_map, decide_eq_true_eq, List.map_cons, List.map_nil, List.length_cons, List.length_nil, List.cons_append, List.nil_append, List.append_nil, List.replicate, List.getElem?_cons_zero, List.getElem?_cons_succ, List.set_cons_zero, List.set_cons_succ, List.take_length, true_and, and_true, eqv_int, eqv_bool, eqv_str, dep_int, dep_bool, dep_str, dep_none, min0l, min0r, Option.map_some, Option.map_none, if_true, if_false, Bool.and_true, Bool.true_and, Bool.false_eq_true, Bool.not_true, Bool.not_false, reduceIte, wipeD, List.append_assoc, at_nn, Option.some.injEq, exists_eq_left, exists_eq_left', Int.reduceToNat, Int.reduceLE, Int.reduceLT, List.length_set, Nat.reduceAdd, Nat.reduceLeDiff, Nat.reduceSub, dat_dat, dat_new, lst_lst, lst_new, seq_tup, seq_lst, seq_new, seq_ro, List.length_append, Nat.zero_add, eqv_tup, eqv_lst, eqvA_nn, eqvA_cc, eqvA_nc, eqvA_cn, dep_tup, dep_lst, depA_nil, depA_cons, Nat.max_zero, Nat.zero_max, Nat.lt_add_one, forall_const, oShlA, rng_c, Int.toNat_natCast, List.flatten_nil, decide_true, decide_false])
def wid1 (w h : Nat) (s : List Nat) : List Nat := orS s (orS (movS w h s 1 0) (movS w h s (-1) 0))
def gro1 (w h : Nat) (s : List Nat) : List Nat := orS (wid1 w h s) (orS (movS w h (wid1 w h s) 0 1) (movS w h (wid1 w h s) 0 (-1)))
def groN (w h : Nat) : Nat → List Nat → List Nat
  | 0, s => s
  | n + 1, s => gro1 w h (groN w h n s)
theorem wid1_len {w h : Nat} {s : List Nat} (hl : s.length = h) : (wid1 w h s).length = h := by
  unfold wid1
  rw [orS_len (by rw [orS_len (by rw [movS_len, movS_len]), movS_len, hl]), hl]
theorem wid1_ok {w h : Nat} {s : List Nat} (hs : okS w s) : okS w (wid1 w h s) := orS_ok hs (orS_ok (movS_ok _ _ _ _ _) (movS_ok _ _ _ _ _))
theorem gro1_len {w h : Nat} {s : List Nat} (hl : s.length = h) : (gro1 w h s).length = h := by
  unfold gro1
  rw [orS_len (by rw [orS_len (by rw [movS_len, movS_len]), movS_len, wid1_len hl]), wid1_len hl]
theorem gro1_ok {w h : Nat} {s : List Nat} (hs : okS w s) : okS w (gro1 w h s) := orS_ok (wid1_ok hs) (orS_ok (movS_ok _ _ _ _ _) (movS_ok _ _ _ _ _))
theorem groN_len {w h : Nat} {s : List Nat} (hl : s.length = h) : ∀ n, (groN w h n s).length = h
  | 0 => hl
  | n + 1 => gro1_len (groN_len hl n)
theorem groN_ok {w h : Nat} {s : List Nat} (hs : okS w s) : ∀ n, okS w (groN w h n s)
  | 0 => hs
  | n + 1 => gro1_ok (groN_ok hs n)
def sp_grown : SpD := fun es μ q x => ∃ (w : Nat) (h : Nat) (s : List Nat) (g : Int), es = [.dat (szD w h), .dat (shD s), .dat (.int g)] ∧ (s.length = h ∧ okS w s ∧ w ≤ 10 ∧ h ≤ 10 ∧ 0 ≤ g ∧ g ≤ 2 ∧ q (.dat (shD (groN w h g.toNat s))) μ)
theorem e_grown {w : Nat} {h : Nat} {s : List Nat} {g : Int} {μ : Mu} {q : PQ} {x : XQ} : sp_grown [.dat (szD w h), .dat (shD s), .dat (.int g)] μ q x = (s.length = h ∧ okS w s ∧ w ≤ 10 ∧ h ≤ 10 ∧ 0 ≤ g ∧ g ≤ 2 ∧ q (.dat (shD (groN w h g.toNat s))) μ) := by
  refine propext ⟨fun hyp0 => ?_, fun hyp0 => ⟨w, h, s, g, rfl, hyp0⟩⟩
  obtain ⟨w', h', s', g', eq0, hyp0⟩ := hyp0
  simp only [List.cons.injEq, Exn.mk.injEq, EV.dat.injEq, EV.loc.injEq, EV.new.injEq, EV.ro.injEq, EV.exc.injEq, PyData.int.injEq, PyData.str.injEq, PyData.bool.injEq, PyData.list.injEq, PyData.tuple.injEq, and_true, true_and, and_assoc, map_int_inj, szD_inj, shD_inj] at eq0
  obtain ⟨rfl, rfl, rfl, rfl⟩ := eq0
  exact hyp0
theorem ok_grown (T : Top K mg) : DefAt P w K mg base "grown" 2 ["size", "sheet", "gap"] [] [] sp_grown := by
  refine def_ok sp_grown T.F_grown sc_grown T.m_grown T.b_grown (fun cdv A outer s H E hr tk pw => (dss_cons (ds_set (i := 3) sc_grown.nd rfl (by first | exact Or.inl rfl | exact Or.inr rfl) (de_stl (dv 1)))
    (dss_cons (ds_forF [1, 2, 4, 5] pw rfl (di_range1 (by rfl) T.n_range (da_cons (dv 2) da_nil)) (dg_name (i := 4) sc_grown.nd rfl (by first | exact Or.inl rfl | exact Or.inr rfl)) (dss_cons (ds_set (i := 5) sc_grown.nd rfl (by first | exact Or.inl rfl | exact Or.inr rfl) (de_stl (de_call (ok_joined T) hr (by decide) (by rfl) tk (fun _ _ => .nil) (da_cons (de_stl (dv 3)) (da_cons (de_stl (de_call (ok_joined T) hr (by decide) (by rfl) tk (fun _ _ => .nil) (da_cons (de_stl (de_call (ok_moved T) hr (by decide) (by rfl) tk (fun _ _ => .nil) (da_cons (de_stl (dv 0)) (da_cons (de_stl (dv 3)) (da_cons de_int (da_cons de_int da_nil)))))) (da_cons (de_stl (de_call (ok_moved T) hr (by decide) (by rfl) tk (fun _ _ => .nil) (da_cons (de_stl (dv 0)) (da_cons (de_stl (dv 3)) (da_cons (de_stl (de_un un_neg us_neg de_int)) (da_cons de_int da_nil)))))) da_nil)))) da_nil)))))
    (dss_one (ds_set (i := 3) sc_grown.nd rfl (by first | exact Or.inl rfl | exact Or.inr rfl) (de_stl (de_call (ok_joined T) hr (by decide) (by rfl) tk (fun _ _ => .nil) (da_cons (de_stl (dv 5)) (da_cons (de_stl (de_call (ok_joined T) hr (by decide) (by rfl) tk (fun _ _ => .nil) (da_cons (de_stl (de_call (ok_moved T) hr (by decide) (by rfl) tk (fun _ _ => .nil) (da_cons (de_stl (dv 0)) (da_cons (de_stl (dv 5)) (da_cons de_int (da_cons de_int da_nil)))))) (da_cons (de_stl (de_call (ok_moved T) hr (by decide) (by rfl) tk (fun _ _ => .nil) (da_cons (de_stl (dv 0)) (da_cons (de_stl (dv 5)) (da_cons de_int (da_cons (de_stl (de_un un_neg us_neg de_int)) da_nil)))))) da_nil)))) da_nil))))))))
    (dss_one (ds_ret (dv 3)))))) ?_
  rintro es μ q x - ⟨w, h, s, g, rfl, hl, hs, hw, hh, g0, g2, k⟩
  walk_at "run"
  refine for_stR (fun i (t : List Nat) => t = groN w h i s) (fun η t => η.set 3 (some (.dat (shD t)))) (fun μ _ => μ) s rfl rfl rfl (fun _ => trivial) ?_ ?_
  · rintro i t J hi rfl hJ
    have l1 := groN_len (w := w) hl i
    have o1 := groN_ok (h := h) hs i
    have l2 := wid1_len (w := w) l1
    have o2 := wid1_ok (h := h) o1
    walk_at "run"
    refine ⟨l1, o1, l1, o1, by rw [movS_len, movS_len], by rw [movS_len]; omega, by rw [orS_len (by rw [movS_len, movS_len]), movS_len, l1], ?_⟩
    have ew : orS (groN w h i s) (orS (movS w h (groN w h i s) 1 0) (movS w h (groN w h i s) (-1) 0)) = wid1 w h (groN w h i s) := rfl
    rw [ew]
    walk_at "run"
    refine ⟨l2, o2, l2, o2, by rw [movS_len, movS_len], by rw [movS_len]; omega, by rw [orS_len (by rw [movS_len, movS_len]), movS_len, l2], ?_⟩
    exact hJ _ rfl
  · rintro t rfl
    walk_at "run"
    exact k
local macro_rules | `(tactic| walk_at "dx") => `(tactic| simp (disch := first | assumption | omega) only [↓e_joined, ↓e_moved, ↓e_common, ↓e_without, ↓ix_sz, ↓gTp_pt, ↓enumK_sh, ↓e_places, ↓e_count, ↓e_nothing, ↓e_has, ↓e_spread, ↓e_is_number, ↓isNum_i, ↓isNum_b, ↓isNum_n, ↓isNum_s, ↓isNum_l, ↓isNum_t, ↓e_is_place, ↓e_sheet_of, ↓e_sheet_of1, sh_eqv, sh_nod, sh_dmin, ↓e_flood, ↓e_grown, ↓dVar_0, ↓dVar_1, ↓dVar_2, ↓dVar_3, ↓dVar_4, ↓dVar_5, ↓dVar_6, ↓dVar_7, ↓dVar_8, ↓dVar_9, ↓dVar_10, ↓dVar_11, ↓dVar_12, ↓dVar_13, ↓dVar_14, ↓dVar_15, ↓old_dat, ↓old_loc, ↓old_raw, ↓old_exc, ↓old_ro, ↓wDs_nil, ↓wDs_cons, ↓x_dC, ↓x_dRaw, ↓x_dFrz, ↓x_dCell, ↓x_dStl, ↓x_aNil, ↓x_aCons, ↓x_dLst, ↓x_dTup, ↓x_tVal, ↓x_tAndD, ↓x_tOrD, ↓x_tNotD, ↓x_tYesD, ↓x_dAndV, ↓x_dOrV, ↓x_dNotV, ↓x_dIfE, ↓x_dOp, ↓x_dUn, ↓x_dCB, ↓x_dChain, ↓intK_i, ↓x_oNo, ↓x_oSome, ↓x_dSl, ↓x_gNm, ↓x_gNl0, ↓x_gCn, ↓x_gTp, ↓x_gSb, ↓x_dCall, ↓seqK_tup, ↓seqK_lst, ↓seqK_new, ↓seqK_ro, ↓seqK_str, ↓rng1_i, ↓rng2_i, ↓x_iSeq, ↓x_iRange1, ↓x_iRange2, ↓x_dBM, ↓x_dBM0, ↓x_isStr, ↓bools_k, ↓ints_k, ↓strs_k, ↓lstK_lst, ↓lstK_new, ↓sqK_lst, ↓sqK_new, ↓sqK_tup, ↓sqK_ro, ↓x_oAll, ↓x_oSum, ↓x_oJoin, ↓x_oList, ↓x_oTuple, ↓x_oIsN, ↓x_oNotN, ↓x_lc, ↓int_i, ↓int_b, ↓mem_l, ↓mem_t, ↓mem_n, ↓x_srtS, ↓mul_ni, ↓mul_li, ↓wD_dat, ↓wD_new, ↓wB_b, ↓nN_dat, ↓nN_loc, ↓nN_raw, ↓nN_ro, ↓nN_exc, ↓aO_nil, ↓aO_cons, ↓stl_dat, ↓stl_new, ↓stl_loc, ↓stl_raw, ↓stl_ro, ↓stl_exc, ↓cel_dat, ↓cel_new, ↓cel_loc, ↓cel_raw, ↓cel_ro, ↓add_int, ↓add_strD, ↓add_tup, ↓add_ll, ↓add_ln, ↓add_nl, ↓add_nn, ↓oI_ii, ↓oI0_ii, ↓neg_i, ↓inv_i, ↓mul_int, ↓eq_dd, ↓ne_dd, ↓eq_nd, ↓ne_nd, ↓eq_dn, ↓ne_dn, ↓eq_nn, ↓ne_nn, ↓sign_ss, ↓ix_s, ↓ix_tupD, ↓ix_lstD, ↓ix_new, ↓ix_ro, ↓sl_s, ↓sl_tupD, ↓sl_lstD, ↓sl_new, ↓sl_ro, ↓len_str, ↓len_tup, ↓len_lst, ↓len_new, ↓len_ro, ↓max_ii, ↓min_ii, ↓isi_int, ↓isi_bool, ↓isi_str, ↓isi_list, ↓isi_tuple, ↓isi_dict, ↓exitQ_dat, ↓exitQ_new, ↓exitQ_raw, ↓cl_nil, ↓cl_none, ↓cl_dat, ↓cl_ro, ↓cl_raw, ↓cl_odat, ↓dVar_16, ↓dVar_17, ↓dVar_18, ↓dVar_19, ↓dVar_20, ↓dVar_21, ↓dVar_22, ↓dVar_23, ↓dVar_24, ↓dVar_25, ↓dVar_26, ↓dVar_27, ↓dVar_28, ↓dVar_29, ↓dVar_30, ↓dVar_31, ↓dVar_32, ↓dVar_33, ↓dVar_34, ↓dVar_35, ↓noD_n, ↓noD_b, ↓noD_i, ↓noD_s, ↓noD_l, ↓noD_t, ↓noDs_nil, ↓noDs_cons, ↓noDs_app, ↓noDs_i, ↓noDs_s, ↓noDs_b, ↓exC_k, ↓isIntD_none, ↓isIntD_bool, ↓isIntD_int, ↓isIntD_str, ↓isIntD_list, ↓isIntD_tuple, ↓isIntD_dict, ↓isBoolD_none, ↓isBoolD_bool, ↓isBoolD_int, ↓isBoolD_str, ↓isBoolD_list, ↓isBoolD_tuple, ↓isBoolD_dict, ↓isStrD_none, ↓isStrD_bool, ↓isStrD_int, ↓isStrD_str, ↓isStrD_list, ↓isStrD_tuple, ↓isStrD_dict, ↓isListD_none, ↓isListD_bool, ↓isListD_int, ↓isListD_str, ↓isListD_list, ↓isListD_tuple, ↓isListD_dict, ↓isTupD_none, ↓isTupD_bool, ↓isTupD_int, ↓isTupD_str, ↓isTupD_list, ↓isTupD_tuple, ↓isTupD_dict, ↓isDictD_none, ↓isDictD_bool, ↓isDictD_int, ↓isDictD_str, ↓isDictD_list, ↓isDictD_tuple, ↓isDictD_dict, ↓neg_i2, ↓inv_i2, ↓x_iSeqD, ↓seqDK_d, ↓seqDK_t, ↓seqDK_l, ↓seqDK_s, ↓seqDK_n, ↓seqDK_r, ↓seqDK_c, ↓x_iZipD, ↓zipK_t, ↓zipK_l, ↓x_dNewD, ↓lcD_d, ↓keysK_nil, ↓keysK_i, ↓keysK_s, ↓keysP_nil, ↓keysP_i, ↓keysP_s, ↓c_setD, ↓memA_dict, ↓memA_l, ↓memA_t, ↓memA_n, ↓c_memA, ↓memC_d, ↓memC_l, ↓memC_f, ↓cell_nd, ↓cell_nk, ↓stl_nd, ↓stl_nk, ↓ex_nd, ↓ex_nk, ↓x_dCellA, ↓cellA_new, ↓nextA_eq, ↓stateA_eq, ↓cellA_eq, ↓fg_nil, ↓fg_cons, ↓lcR_l, ↓lcR_f, ↓lcK_l, ↓c_len, ↓c_ix, ↓c_ixC, ↓c_app, ↓c_set, ↓c_isL, ↓c_lstK, ↓c_sqK, ↓c_mem, ↓c_addn, ↓c_addl, ↓c_sl, ↓c_seqK, ↓seqC_l, ↓seqC_f, ↓c_wD, ↓wdC_l, ↓wdC_f, ↓exC_l, ↓exC_f, ↓exC_d, ↓cellK_new, ↓cellK_dat, ↓cellK_loc, ↓get_a0, ↓get_a1, ↓get_a2, ↓get_a3, ↓set_a0, ↓set_a1, ↓set_a2, ↓set_a3, ↓lnD_str, ↓lnD_tup, ↓lnD_lst, ↓lnD_new, ↓lnD_ro, ↓lnD_d, ↓c_lenD, ↓lnC_d, ↓lnC_k, ↓lnC_l, ↓lnC_f, ↓eq_cN, ↓eq_cD, ↓eq_Nc, ↓eq_Dc, ↓ne_cN, ↓ne_cD, ↓ne_Nc, ↓ne_Dc, ↓x_iEnumD, ↓enumK_t, ↓enumK_l, ↓enumK_r, ↓enumK_tk, ↓enumK_lk, ↓srt_d, ↓srt_l, ↓srt_n, ↓c_srt, ↓srtC_l, ↓srtC_f, ↓srtC_d, ↓lsA_t, ↓lsA_l, ↓lsA_n, ↓lsA_r, ↓c_lsA, ↓c_isi_list, ↓c_isi_dict, ↓c_isi_tuple, ↓isiB_l, ↓isiB_f, ↓isiB_d, ↓isiB_k, ↓isi_n_list, ↓isi_n_tuple, ↓x_dListIt, ↓litK_d, ↓augK_s, ↓iadd_ii, ↓c_iaddn, ↓c_iaddl, ↓abs_i, ↓x_dRevL, ↓revK_n, ↓revK_l, ↓cnt_n, ↓cnt_l, ↓idx_l, ↓isLst_l, ↓isLst_n, ↓c_pop, ↓c_popD, ↓c_isD, ↓lcD2_d, ↓lcD2_k, ↓tk_0, ↓tk_a0, ↓tk_a1, ↓tk_a2, ↓tk_a3, ↓tk_a4, dVar_0, dVar_1, dVar_2, dVar_3, dVar_4, dVar_5, dVar_6, dVar_7, dVar_8, dVar_9, dVar_10, dVar_11, dVar_12, dVar_13, dVar_14, dVar_15, old_dat, old_loc, old_raw, old_exc, old_ro, wDs_nil, wDs_cons, x_dC, x_dRaw, x_dFrz, x_dCell, x_dStl, x_aNil, x_aCons, x_dLst, x_dTup, x_tVal, x_tAndD, x_tOrD, x_tNotD, x_tYesD, x_dAndV, x_dOrV, x_dNotV, x_dIfE, x_dOp, x_dUn, x_dCB, x_dChain, intK_i, x_oNo, x_oSome, x_dSl, x_gNm, x_gNl0, x_gCn, x_gTp, x_gSb, x_dCall, seqK_tup, seqK_lst, seqK_new, seqK_ro, seqK_str, rng1_i, rng2_i, x_iSeq, x_iRange1, x_iRange2, x_dBM, x_dBM0, x_isStr, bools_k, ints_k, strs_k, lstK_lst, lstK_new, sqK_lst, sqK_new, sqK_tup, sqK_ro, x_oAll, x_oSum, x_oJoin, x_oList, x_oTuple, x_oIsN, x_oNotN, x_lc, int_i, int_b, mem_l, mem_t, mem_n, x_srtS, mul_ni, mul_li, wD_dat, wD_new, wB_b, nN_dat, nN_loc, nN_raw, nN_ro, nN_exc, aO_nil, aO_cons, stl_dat, stl_new, stl_loc, stl_raw, stl_ro, stl_exc, cel_dat, cel_new, cel_loc, cel_raw, cel_ro, add_int, add_strD, add_tup, add_ll, add_ln, add_nl, add_nn, oI_ii, oI0_ii, neg_i, inv_i, mul_int, eq_dd, ne_dd, eq_nd, ne_nd, eq_dn, ne_dn, eq_nn, ne_nn, sign_ss, ix_s, ix_tupD, ix_lstD, ix_new, ix_ro, sl_s, sl_tupD, sl_lstD, sl_new, sl_ro, len_str, len_tup, len_lst, len_new, len_ro, max_ii, min_ii, isi_int, isi_bool, isi_str, isi_list, isi_tuple, isi_dict, exitQ_dat, exitQ_new, exitQ_raw, cl_nil, cl_none, cl_dat, cl_ro, cl_raw, cl_odat, dVar_16, dVar_17, dVar_18, dVar_19, dVar_20, dVar_21, dVar_22, dVar_23, dVar_24, dVar_25, dVar_26, dVar_27, dVar_28, dVar_29, dVar_30, dVar_31, dVar_32, dVar_33, dVar_34, dVar_35, noD_n, noD_b, noD_i, noD_s, noD_l, noD_t, noDs_nil, noDs_cons, noDs_app, noDs_i, noDs_s, noDs_b, exC_k, isIntD_none, isIntD_bool, isIntD_int, isIntD_str, isIntD_list, isIntD_tuple, isIntD_dict, isBoolD_none, isBoolD_bool, isBoolD_int, isBoolD_str, isBoolD_list, isBoolD_tuple, isBoolD_dict, isStrD_none, isStrD_bool, isStrD_int, isStrD_str, isStrD_list, isStrD_tuple, isStrD_dict, isListD_none, isListD_bool, isListD_int, isListD_str, isListD_list, isListD_tuple, isListD_dict, isTupD_none, isTupD_bool, isTupD_int, isTupD_str, isTupD_list, isTupD_tuple, isTupD_dict, isDictD_none, isDictD_bool, isDictD_int, isDictD_str, isDictD_list, isDictD_tuple, isDictD_dict, neg_i2, inv_i2, x_iSeqD, seqDK_d, seqDK_t, seqDK_l, seqDK_s, seqDK_n, seqDK_r, seqDK_c, x_iZipD, zipK_t, zipK_l, x_dNewD, lcD_d, keysK_nil, keysK_i, keysK_s, keysP_nil, keysP_i, keysP_s, c_setD, memA_dict, memA_l, memA_t, memA_n, c_memA, memC_d, memC_l, memC_f, cell_nd, cell_nk, stl_nd, stl_nk, ex_nd, ex_nk, x_dCellA, cellA_new, nextA_eq, stateA_eq, cellA_eq, fg_nil, fg_cons, lcR_l, lcR_f, lcK_l, c_len, c_ix, c_ixC, c_app, c_set, c_isL, c_lstK, c_sqK, c_mem, c_addn, c_addl, c_sl, c_seqK, seqC_l, seqC_f, c_wD, wdC_l, wdC_f, exC_l, exC_f, exC_d, cellK_new, cellK_dat, cellK_loc, get_a0, get_a1, get_a2, get_a3, set_a0, set_a1, set_a2, set_a3, lnD_str, lnD_tup, lnD_lst, lnD_new, lnD_ro, lnD_d, c_lenD, lnC_d, lnC_k, lnC_l, lnC_f, eq_cN, eq_cD, eq_Nc, eq_Dc, ne_cN, ne_cD, ne_Nc, ne_Dc, x_iEnumD, enumK_t, enumK_l, enumK_r, enumK_tk, enumK_lk, srt_d, srt_l, srt_n, c_srt, srtC_l, srtC_f, srtC_d, lsA_t, lsA_l, lsA_n, lsA_r, c_lsA, c_isi_list, c_isi_dict, c_isi_tuple, isiB_l, isiB_f, isiB_d, isiB_k, isi_n_list, isi_n_tuple, x_dListIt, litK_d, augK_s, iadd_ii, c_iaddn, c_iaddl, abs_i, x_dRevL, revK_n, revK_l, cnt_n, cnt_l, idx_l, isLst_l, isLst_n, c_pop, c_popD, c_isD, lcD2_d, lcD2_k, tk_0, tk_a0, tk_a1, tk_a2, tk_a3, tk_a4, isR_h, isR_app, isR_last, exitQ_ge, exitQ_lt, cl_loc, nle_h, nlt_h, ile_h, ilt_h, cmul_l, cmul_r, cdiv_h, cpow_h, csh_h, csh_0, oLt, oLe, oGt, oGe, oSub, oMod, oDiv, oPow, oShl, oShr, oAnd, oOr, oXor, isRaw, isNon, startD, List.length_map, decide_eq_true_eq, List.map_cons, List.map_nil, List.length_cons, List.length_nil, List.cons_append, List.nil_append, List.append_nil, List.replicate, List.getElem?_cons_zero, List.getElem?_cons_succ, List.set_cons_zero, List.set_cons_succ, List.take_length, true_and, and_true, eqv_int, eqv_bool, eqv_str, dep_int, dep_bool, dep_str, dep_none, min0l, min0r, Option.map_some, Option.map_none, if_true, if_false, Bool.and_true, Bool.true_and, Bool.false_eq_true, Bool.not_true, Bool.not_false, reduceIte, wipeD, List.append_assoc, at_nn, Option.some.injEq, exists_eq_left, exists_eq_left', Int.reduceToNat, Int.reduceLE, Int.reduceLT, List.length_set, Nat.reduceAdd, Nat.reduceLeDiff, Nat.reduceSub, dat_dat, dat_new, lst_lst, lst_new, seq_tup, seq_lst, seq_new, seq_ro, List.length_append, Nat.zero_add, eqv_tup, eqv_lst, eqvA_nn, eqvA_cc, eqvA_nc, eqvA_cn, dep_tup, dep_lst, depA_nil, depA_cons, Nat.max_zero, Nat.zero_max, Nat.lt_add_one, forall_const, oShlA, rng_c, Int.toNat_natCast, List.flatten_nil, decide_true, decide_false])

def turB (w h : Nat) (s : List Nat) : List Nat := sheetB h w fun x y => bitS s y ((h : Int) - 1 - x)
def mirB (w h : Nat) (s : List Nat) : List Nat := sheetB w h fun x y => bitS s ((w : Int) - 1 - x) y
def turP (h : Nat) (c : Pt) : Pt := ((h : Int) - 1 - c.2, c.1)
def mirP (w : Nat) (c : Pt) : Pt := ((w : Int) - 1 - c.1, c.2)
theorem mem_places {s : List Nat} {p : Pt} : p ∈ (cellsB s).mergeSort leP ↔ bitS s p.1 p.2 = true := by
  rw [(List.mergeSort_perm _ _).mem_iff, mem_cellsB]
theorem shC_tur {w h : Nat} {s : List Nat} : shC h w (((cellsB s).mergeSort leP).map (turP h)) = turB w h s := by
  unfold shC turB
  refine sheetB_congr fun x y _ _ _ _ => ?_
  rw [Bool.eq_iff_iff, decide_eq_true_eq, List.mem_map]
  constructor
  · rintro ⟨p, hp, e⟩
    rw [mem_places] at hp
    have e1 := congrArg Prod.fst e
    have e2 := congrArg Prod.snd e
    unfold turP at e1 e2
    simp only at e1 e2
    rw [← e2, show (h : Int) - 1 - x = p.2 by omega]
    exact hp
  · intro hb
    exact ⟨(y, (h : Int) - 1 - x), mem_places.mpr hb, Prod.ext (by unfold turP; simp only; omega) rfl⟩
theorem shC_mir {w h : Nat} {s : List Nat} : shC w h (((cellsB s).mergeSort leP).map (mirP w)) = mirB w h s := by
  unfold shC mirB
  refine sheetB_congr fun x y _ _ _ _ => ?_
  rw [Bool.eq_iff_iff, decide_eq_true_eq, List.mem_map]
  constructor
  · rintro ⟨p, hp, e⟩
    rw [mem_places] at hp
    have e1 := congrArg Prod.fst e
    have e2 := congrArg Prod.snd e
    unfold mirP at e1 e2
    simp only at e1 e2
    rw [← e2, show (w : Int) - 1 - x = p.1 by omega]
    exact hp
  · intro hb
    exact ⟨((w : Int) - 1 - x, y), mem_places.mpr hb, Prod.ext (by unfold mirP; simp only; omega) rfl⟩
theorem places_len {s : List Nat} (hs : okS 10 s) (hl : s.length ≤ 10) : ((cellsB s).mergeSort leP).length ≤ 100 := by
  rw [List.length_mergeSort]
  have := cellsB_len hs
  omega
theorem okS_up {w : Nat} {s : List Nat} (hs : okS w s) (hw : w ≤ 10) : okS 10 s := fun r hr => Nat.lt_of_lt_of_le (hs r hr) (Nat.pow_le_pow_right (by decide) hw)
def sp_turned_sheet : SpD := fun es μ q x => ∃ (w : Nat) (h : Nat) (s : List Nat), es = [.dat (szD w h), .dat (shD s)] ∧ (s.length = h ∧ okS w s ∧ 3 ≤ w ∧ w ≤ 10 ∧ 3 ≤ h ∧ h ≤ 10 ∧ q (.dat (shD (turB w h s))) μ)
theorem e_turned_sheet {w : Nat} {h : Nat} {s : List Nat} {μ : Mu} {q : PQ} {x : XQ} : sp_turned_sheet [.dat (szD w h), .dat (shD s)] μ q x = (s.length = h ∧ okS w s ∧ 3 ≤ w ∧ w ≤ 10 ∧ 3 ≤ h ∧ h ≤ 10 ∧ q (.dat (shD (turB w h s))) μ) := by
  refine propext ⟨fun hyp0 => ?_, fun hyp0 => ⟨w, h, s, rfl, hyp0⟩⟩
  obtain ⟨w', h', s', eq0, hyp0⟩ := hyp0
  simp only [List.cons.injEq, Exn.mk.injEq, EV.dat.injEq, EV.loc.injEq, EV.new.injEq, EV.ro.injEq, EV.exc.injEq, PyData.int.injEq, PyData.str.injEq, PyData.bool.injEq, PyData.list.injEq, PyData.tuple.injEq, and_true, true_and, and_assoc, map_int_inj, szD_inj, shD_inj] at eq0
  obtain ⟨rfl, rfl, rfl⟩ := eq0
  exact hyp0
theorem ok_turned_sheet (T : Top K mg) : DefAt P w K mg base "turned_sheet" 4 ["size", "sheet"] [] [] sp_turned_sheet := by
  refine def_ok sp_turned_sheet T.F_turned_sheet sc_turned_sheet T.m_turned_sheet T.b_turned_sheet (fun cdv A outer s H E hr tk pw => (dss_one (ds_ret (de_call (ok_sheet_of T) hr (by decide) (by rfl) tk (fun _ _ => .nil) (da_cons (de_stl (de_tup (da_cons (de_frz (de_ix ix_seq os_ix (dv 0) de_int (fun _ _ => rfl))) (da_cons (de_frz (de_ix ix_seq os_ix (dv 0) de_int (fun _ _ => rfl))) da_nil)))) (da_cons (de_stl (de_lc (own := [("x", 2), ("y", 3)]) rfl sc_turned_sheet.nd (di_seqD (de_call (ok_places T) hr (by decide) (by rfl) tk (fun _ _ => .nil) (da_cons (de_stl (dv 1)) da_nil))) (blkOk_by (N := ["size", "sheet", "x", "y"]) (sc := defScope s_turned_sheet) (by decide +kernel)) (by decide) (fun _ _ _ _ _ => (dg_tup (n := 2) rfl (dgs_cons (dg_name (i := 2) sc_turned_sheet.nd rfl (by first | exact Or.inl rfl | exact Or.inr rfl)) (dgs_cons (dg_name (i := 3) sc_turned_sheet.nd rfl (by first | exact Or.inl rfl | exact Or.inr rfl)) dgs_nil)))) (fun _ _ _ _ _ => dts_nil) (fun _ _ _ _ _ => (de_tup (da_cons (de_frz (de_op op_sub os_sub (de_op op_sub os_sub (de_ix ix_seq os_ix (dv 0) de_int (fun _ _ => rfl)) de_int) (dv 3))) (da_cons (de_frz (dv 2)) da_nil)))))) da_nil)))))) ?_
  rintro es μ q x - ⟨w, h, s, rfl, hl, hs, w3, w10, h3, h10, k⟩
  have hp := places_len (okS_up hs w10) (by omega)
  walk_at "run"
  refine ⟨okS_up hs w10, ?_⟩
  walk_at "run"
  refine lc_mapD (f := fun c => ptD (turP h c)) (by omega) trivial (fun c K hc hK => ?e) ?_
  case e => (try walk_at "dx"); exact hK
  have e : (((cellsB s).mergeSort leP).map fun c => ptD (turP h c)) = (((cellsB s).mergeSort leP).map (turP h)).map ptD := by rw [List.map_map]; rfl
  rw [e, show PyData.tuple [.int (h : Int), .int (w : Int)] = szD h w from rfl]
  (try walk_at "dx")
  refine ⟨fun p hp => ?_, ?_⟩
  · obtain ⟨c, hc, rfl⟩ := List.mem_map.mp hp
    have := bitS_in hl hs (mem_places.mp hc)
    unfold inF at this ⊢
    unfold turP
    simp only at this ⊢
    omega
  · rw [shC_tur]
    (try walk_at "dx")
    exact k
def sp_mirrored : SpD := fun es μ q x => ∃ (w : Nat) (h : Nat) (s : List Nat), es = [.dat (szD w h), .dat (shD s)] ∧ (s.length = h ∧ okS w s ∧ 3 ≤ w ∧ w ≤ 10 ∧ 3 ≤ h ∧ h ≤ 10 ∧ q (.dat (shD (mirB w h s))) μ)
theorem e_mirrored {w : Nat} {h : Nat} {s : List Nat} {μ : Mu} {q : PQ} {x : XQ} : sp_mirrored [.dat (szD w h), .dat (shD s)] μ q x = (s.length = h ∧ okS w s ∧ 3 ≤ w ∧ w ≤ 10 ∧ 3 ≤ h ∧ h ≤ 10 ∧ q (.dat (shD (mirB w h s))) μ) := by
  refine propext ⟨fun hyp0 => ?_, fun hyp0 => ⟨w, h, s, rfl, hyp0⟩⟩
  obtain ⟨w', h', s', eq0, hyp0⟩ := hyp0
  simp only [List.cons.injEq, Exn.mk.injEq, EV.dat.injEq, EV.loc.injEq, EV.new.injEq, EV.ro.injEq, EV.exc.injEq, PyData.int.injEq, PyData.str.injEq, PyData.bool.injEq, PyData.list.injEq, PyData.tuple.injEq, and_true, true_and, and_assoc, map_int_inj, szD_inj, shD_inj] at eq0
  obtain ⟨rfl, rfl, rfl⟩ := eq0
  exact hyp0
theorem ok_mirrored (T : Top K mg) : DefAt P w K mg base "mirrored" 4 ["size", "sheet"] [] [] sp_mirrored := by
  refine def_ok sp_mirrored T.F_mirrored sc_mirrored T.m_mirrored T.b_mirrored (fun cdv A outer s H E hr tk pw => (dss_one (ds_ret (de_call (ok_sheet_of T) hr (by decide) (by rfl) tk (fun _ _ => .nil) (da_cons (de_stl (dv 0)) (da_cons (de_stl (de_lc (own := [("x", 2), ("y", 3)]) rfl sc_mirrored.nd (di_seqD (de_call (ok_places T) hr (by decide) (by rfl) tk (fun _ _ => .nil) (da_cons (de_stl (dv 1)) da_nil))) (blkOk_by (N := ["size", "sheet", "x", "y"]) (sc := defScope s_mirrored) (by decide +kernel)) (by decide) (fun _ _ _ _ _ => (dg_tup (n := 2) rfl (dgs_cons (dg_name (i := 2) sc_mirrored.nd rfl (by first | exact Or.inl rfl | exact Or.inr rfl)) (dgs_cons (dg_name (i := 3) sc_mirrored.nd rfl (by first | exact Or.inl rfl | exact Or.inr rfl)) dgs_nil)))) (fun _ _ _ _ _ => dts_nil) (fun _ _ _ _ _ => (de_tup (da_cons (de_frz (de_op op_sub os_sub (de_op op_sub os_sub (de_ix ix_seq os_ix (dv 0) de_int (fun _ _ => rfl)) de_int) (dv 2))) (da_cons (de_frz (dv 3)) da_nil)))))) da_nil)))))) ?_
  rintro es μ q x - ⟨w, h, s, rfl, hl, hs, w3, w10, h3, h10, k⟩
  have hp := places_len (okS_up hs w10) (by omega)
  walk_at "run"
  refine ⟨okS_up hs w10, ?_⟩
  walk_at "run"
  refine lc_mapD (f := fun c => ptD (mirP w c)) (by omega) trivial (fun c K hc hK => ?e) ?_
  case e => (try walk_at "dx"); exact hK
  have e : (((cellsB s).mergeSort leP).map fun c => ptD (mirP w c)) = (((cellsB s).mergeSort leP).map (mirP w)).map ptD := by rw [List.map_map]; rfl
  rw [e]
  (try walk_at "dx")
  refine ⟨fun p hp => ?_, ?_⟩
  · obtain ⟨c, hc, rfl⟩ := List.mem_map.mp hp
    have := bitS_in hl hs (mem_places.mp hc)
    unfold inF at this ⊢
    unfold mirP
    simp only at this ⊢
    omega
  · rw [shC_mir]
    (try walk_at "dx")
    exact k

local macro_rules | `(tactic| walk_at "dx") => `(tactic| simp (disch := first | assumption | omega) only [↓e_joined, ↓e_moved, ↓e_common, ↓e_without, ↓ix_sz, ↓gTp_pt, ↓enumK_sh, ↓e_places, ↓e_count, ↓e_nothing, ↓e_has, ↓e_spread, ↓e_is_number, ↓isNum_i, ↓isNum_b, ↓isNum_n, ↓isNum_s, ↓isNum_l, ↓isNum_t, ↓e_is_place, ↓e_sheet_of, ↓e_sheet_of1, sh_eqv, sh_nod, sh_dmin, ↓e_flood, ↓e_grown, ↓e_turned_sheet, ↓e_mirrored, ↓dVar_0, ↓dVar_1, ↓dVar_2, ↓dVar_3, ↓dVar_4, ↓dVar_5, ↓dVar_6, ↓dVar_7, ↓dVar_8, ↓dVar_9, ↓dVar_10, ↓dVar_11, ↓dVar_12, ↓dVar_13, ↓dVar_14, ↓dVar_15, ↓old_dat, ↓old_loc, ↓old_raw, ↓old_exc, ↓old_ro, ↓wDs_nil, ↓wDs_cons, ↓x_dC, ↓x_dRaw, ↓x_dFrz, ↓x_dCell, ↓x_dStl, ↓x_aNil, ↓x_aCons, ↓x_dLst, ↓x_dTup, ↓x_tVal, ↓x_tAndD, ↓x_tOrD, ↓x_tNotD, ↓x_tYesD, ↓x_dAndV, ↓x_dOrV, ↓x_dNotV, ↓x_dIfE, ↓x_dOp, ↓x_dUn, ↓x_dCB, ↓x_dChain, ↓intK_i, ↓x_oNo, ↓x_oSome, ↓x_dSl, ↓x_gNm, ↓x_gNl0, ↓x_gCn, ↓x_gTp, ↓x_gSb, ↓x_dCall, ↓seqK_tup, ↓seqK_lst, ↓seqK_new, ↓seqK_ro, ↓seqK_str, ↓rng1_i, ↓rng2_i, ↓x_iSeq, ↓x_iRange1, ↓x_iRange2, ↓x_dBM, ↓x_dBM0, ↓x_isStr, ↓bools_k, ↓ints_k, ↓strs_k, ↓lstK_lst, ↓lstK_new, ↓sqK_lst, ↓sqK_new, ↓sqK_tup, ↓sqK_ro, ↓x_oAll, ↓x_oSum, ↓x_oJoin, ↓x_oList, ↓x_oTuple, ↓x_oIsN, ↓x_oNotN, ↓x_lc, ↓int_i, ↓int_b, ↓mem_l, ↓mem_t, ↓mem_n, ↓x_srtS, ↓mul_ni, ↓mul_li, ↓wD_dat, ↓wD_new, ↓wB_b, ↓nN_dat, ↓nN_loc, ↓nN_raw, ↓nN_ro, ↓nN_exc, ↓aO_nil, ↓aO_cons, ↓stl_dat, ↓stl_new, ↓stl_loc, ↓stl_raw, ↓stl_ro, ↓stl_exc, ↓cel_dat, ↓cel_new, ↓cel_loc, ↓cel_raw, ↓cel_ro, ↓add_int, ↓add_strD, ↓add_tup, ↓add_ll, ↓add_ln, ↓add_nl, ↓add_nn, ↓oI_ii, ↓oI0_ii, ↓neg_i, ↓inv_i, ↓mul_int, ↓eq_dd, ↓ne_dd, ↓eq_nd, ↓ne_nd, ↓eq_dn, ↓ne_dn, ↓eq_nn, ↓ne_nn, ↓sign_ss, ↓ix_s, ↓ix_tupD, ↓ix_lstD, ↓ix_new, ↓ix_ro, ↓sl_s, ↓sl_tupD, ↓sl_lstD, ↓sl_new, ↓sl_ro, ↓len_str, ↓len_tup, ↓len_lst, ↓len_new, ↓len_ro, ↓max_ii, ↓min_ii, ↓isi_int, ↓isi_bool, ↓isi_str, ↓isi_list, ↓isi_tuple, ↓isi_dict, ↓exitQ_dat, ↓exitQ_new, ↓exitQ_raw, ↓cl_nil, ↓cl_none, ↓cl_dat, ↓cl_ro, ↓cl_raw, ↓cl_odat, ↓dVar_16, ↓dVar_17, ↓dVar_18, ↓dVar_19, ↓dVar_20, ↓dVar_21, ↓dVar_22, ↓dVar_23, ↓dVar_24, ↓dVar_25, ↓dVar_26, ↓dVar_27, ↓dVar_28, ↓dVar_29, ↓dVar_30, ↓dVar_31, ↓dVar_32, ↓dVar_33, ↓dVar_34, ↓dVar_35, ↓noD_n, ↓noD_b, ↓noD_i, ↓noD_s, ↓noD_l, ↓noD_t, ↓noDs_nil, ↓noDs_cons, ↓noDs_app, ↓noDs_i, ↓noDs_s, ↓noDs_b, ↓exC_k, ↓isIntD_none, ↓isIntD_bool, ↓isIntD_int, ↓isIntD_str, ↓isIntD_list, ↓isIntD_tuple, ↓isIntD_dict, ↓isBoolD_none, ↓isBoolD_bool, ↓isBoolD_int, ↓isBoolD_str, ↓isBoolD_list, ↓isBoolD_tuple, ↓isBoolD_dict, ↓isStrD_none, ↓isStrD_bool, ↓isStrD_int, ↓isStrD_str, ↓isStrD_list, ↓isStrD_tuple, ↓isStrD_dict, ↓isListD_none, ↓isListD_bool, ↓isListD_int, ↓isListD_str, ↓isListD_list, ↓isListD_tuple, ↓isListD_dict, ↓isTupD_none, ↓isTupD_bool, ↓isTupD_int, ↓isTupD_str, ↓isTupD_list, ↓isTupD_tuple, ↓isTupD_dict, ↓isDictD_none, ↓isDictD_bool, ↓isDictD_int, ↓isDictD_str, ↓isDictD_list, ↓isDictD_tuple, ↓isDictD_dict, ↓neg_i2, ↓inv_i2, ↓x_iSeqD, ↓seqDK_d, ↓seqDK_t, ↓seqDK_l, ↓seqDK_s, ↓seqDK_n, ↓seqDK_r, ↓seqDK_c, ↓x_iZipD, ↓zipK_t, ↓zipK_l, ↓x_dNewD, ↓lcD_d, ↓keysK_nil, ↓keysK_i, ↓keysK_s, ↓keysP_nil, ↓keysP_i, ↓keysP_s, ↓c_setD, ↓memA_dict, ↓memA_l, ↓memA_t, ↓memA_n, ↓c_memA, ↓memC_d, ↓memC_l, ↓memC_f, ↓cell_nd, ↓cell_nk, ↓stl_nd, ↓stl_nk, ↓ex_nd, ↓ex_nk, ↓x_dCellA, ↓cellA_new, ↓nextA_eq, ↓stateA_eq, ↓cellA_eq, ↓fg_nil, ↓fg_cons, ↓lcR_l, ↓lcR_f, ↓lcK_l, ↓c_len, ↓c_ix, ↓c_ixC, ↓c_app, ↓c_set, ↓c_isL, ↓c_lstK, ↓c_sqK, ↓c_mem, ↓c_addn, ↓c_addl, ↓c_sl, ↓c_seqK, ↓seqC_l, ↓seqC_f, ↓c_wD, ↓wdC_l, ↓wdC_f, ↓exC_l, ↓exC_f, ↓exC_d, ↓cellK_new, ↓cellK_dat, ↓cellK_loc, ↓get_a0, ↓get_a1, ↓get_a2, ↓get_a3, ↓set_a0, ↓set_a1, ↓set_a2, ↓set_a3, ↓lnD_str, ↓lnD_tup, ↓lnD_lst, ↓lnD_new, ↓lnD_ro, ↓lnD_d, ↓c_lenD, ↓lnC_d, ↓lnC_k, ↓lnC_l, ↓lnC_f, ↓eq_cN, ↓eq_cD, ↓eq_Nc, ↓eq_Dc, ↓ne_cN, ↓ne_cD, ↓ne_Nc, ↓ne_Dc, ↓x_iEnumD, ↓enumK_t, ↓enumK_l, ↓enumK_r, ↓enumK_tk, ↓enumK_lk, ↓srt_d, ↓srt_l, ↓srt_n, ↓c_srt, ↓srtC_l, ↓srtC_f, ↓srtC_d, ↓lsA_t, ↓lsA_l, ↓lsA_n, ↓lsA_r, ↓c_lsA, ↓c_isi_list, ↓c_isi_dict, ↓c_isi_tuple, ↓isiB_l, ↓isiB_f, ↓isiB_d, ↓isiB_k, ↓isi_n_list, ↓isi_n_tuple, ↓x_dListIt, ↓litK_d, ↓augK_s, ↓iadd_ii, ↓c_iaddn, ↓c_iaddl, ↓abs_i, ↓x_dRevL, ↓revK_n, ↓revK_l, ↓cnt_n, ↓cnt_l, ↓idx_l, ↓isLst_l, ↓isLst_n, ↓c_pop, ↓c_popD, ↓c_isD, ↓lcD2_d, ↓lcD2_k, ↓tk_0, ↓tk_a0, ↓tk_a1, ↓tk_a2, ↓tk_a3, ↓tk_a4, dVar_0, dVar_1, dVar_2, dVar_3, dVar_4, dVar_5, dVar_6, dVar_7, dVar_8, dVar_9, dVar_10, dVar_11, dVar_12, dVar_13, dVar_14, dVar_15, old_dat, old_loc, old_raw, old_exc, old_ro, wDs_nil, wDs_cons, x_dC, x_dRaw, x_dFrz, x_dCell, x_dStl, x_aNil, x_aCons, x_dLst, x_dTup, x_tVal, x_tAndD, x_tOrD, x_tNotD, x_tYesD, x_dAndV, x_dOrV, x_dNotV, x_dIfE, x_dOp, x_dUn, x_dCB, x_dChain, intK_i, x_oNo, x_oSome, x_dSl, x_gNm, x_gNl0, x_gCn, x_gTp, x_gSb, x_dCall, seqK_tup, seqK_lst, seqK_new, seqK_ro, seqK_str, rng1_i, rng2_i, x_iSeq, x_iRange1, x_iRange2, x_dBM, x_dBM0, x_isStr, bools_k, ints_k, strs_k, lstK_lst, lstK_new, sqK_lst, sqK_new, sqK_tup, sqK_ro, x_oAll, x_oSum, x_oJoin, x_oList, x_oTuple, x_oIsN, x_oNotN, x_lc, int_i, int_b, mem_l, mem_t, mem_n, x_srtS, mul_ni, mul_li, wD_dat, wD_new, wB_b, nN_dat, nN_loc, nN_raw, nN_ro, nN_exc, aO_nil, aO_cons, stl_dat, stl_new, stl_loc, stl_raw, stl_ro, stl_exc, cel_dat, cel_new, cel_loc, cel_raw, cel_ro, add_int, add_strD, add_tup, add_ll, add_ln, add_nl, add_nn, oI_ii, oI0_ii, neg_i, inv_i, mul_int, eq_dd, ne_dd, eq_nd, ne_nd, eq_dn, ne_dn, eq_nn, ne_nn, sign_ss, ix_s, ix_tupD, ix_lstD, ix_new, ix_ro, sl_s, sl_tupD, sl_lstD, sl_new, sl_ro, len_str, len_tup, len_lst, len_new, len_ro, max_ii, min_ii, isi_int, isi_bool, isi_str, isi_list, isi_tuple, isi_dict, exitQ_dat, exitQ_new, exitQ_raw, cl_nil, cl_none, cl_dat, cl_ro, cl_raw, cl_odat, dVar_16, dVar_17, dVar_18, dVar_19, dVar_20, dVar_21, dVar_22, dVar_23, dVar_24, dVar_25, dVar_26, dVar_27, dVar_28, dVar_29, dVar_30, dVar_31, dVar_32, dVar_33, dVar_34, dVar_35, noD_n, noD_b, noD_i, noD_s, noD_l, noD_t, noDs_nil, noDs_cons, noDs_app, noDs_i, noDs_s, noDs_b, exC_k, isIntD_none, isIntD_bool, isIntD_int, isIntD_str, isIntD_list, isIntD_tuple, isIntD_dict, isBoolD_none, isBoolD_bool, isBoolD_int, isBoolD_str, isBoolD_list, isBoolD_tuple, isBoolD_dict, isStrD_none, isStrD_bool, isStrD_int, isStrD_str, isStrD_list, isStrD_tuple, isStrD_dict, isListD_none, isListD_bool, isListD_int, isListD_str, isListD_list, isListD_tuple, isListD_dict, isTupD_none, isTupD_bool, isTupD_int, isTupD_str, isTupD_list, isTupD_tuple, isTupD_dict, isDictD_none, isDictD_bool, isDictD_int, isDictD_str, isDictD_list, isDictD_tuple, isDictD_dict, neg_i2, inv_i2, x_iSeqD, seqDK_d, seqDK_t, seqDK_l, seqDK_s, seqDK_n, seqDK_r, seqDK_c, x_iZipD, zipK_t, zipK_l, x_dNewD, lcD_d, keysK_nil, keysK_i, keysK_s, keysP_nil, keysP_i, keysP_s, c_setD, memA_dict, memA_l, memA_t, memA_n, c_memA, memC_d, memC_l, memC_f, cell_nd, cell_nk, stl_nd, stl_nk, ex_nd, ex_nk, x_dCellA, cellA_new, nextA_eq, stateA_eq, cellA_eq, fg_nil, fg_cons, lcR_l, lcR_f, lcK_l, c_len, c_ix, c_ixC, c_app, c_set, c_isL, c_lstK, c_sqK, c_mem, c_addn, c_addl, c_sl, c_seqK, seqC_l, seqC_f, c_wD, wdC_l, wdC_f, exC_l, exC_f, exC_d, cellK_new, cellK_dat, cellK_loc, get_a0, get_a1, get_a2, get_a3, set_a0, set_a1, set_a2, set_a3, lnD_str, lnD_tup, lnD_lst, lnD_new, lnD_ro, lnD_d, c_lenD, lnC_d, lnC_k, lnC_l, lnC_f, eq_cN, eq_cD, eq_Nc, eq_Dc, ne_cN, ne_cD, ne_Nc, ne_Dc, x_iEnumD, enumK_t, enumK_l, enumK_r, enumK_tk, enumK_lk, srt_d, srt_l, srt_n, c_srt, srtC_l, srtC_f, srtC_d, lsA_t, lsA_l, lsA_n, lsA_r, c_lsA, c_isi_list, c_isi_dict, c_isi_tuple, isiB_l, isiB_f, isiB_d, isiB_k, isi_n_list, isi_n_tuple, x_dListIt, litK_d, augK_s, iadd_ii, c_iaddn, c_iaddl, abs_i, x_dRevL, revK_n, revK_l, cnt_n, cnt_l, idx_l, isLst_l, isLst_n, c_pop, c_popD, c_isD, lcD2_d, lcD2_k, tk_0, tk_a0, tk_a1, tk_a2, tk_a3, tk_a4, isR_h, isR_app, isR_last, exitQ_ge, exitQ_lt, cl_loc, nle_h, nlt_h, ile_h, ilt_h, cmul_l, cmul_r, cdiv_h, cpow_h, csh_h, csh_0, oLt, oLe, oGt, oGe, oSub, oMod, oDiv, oPow, oShl, oShr, oAnd, oOr, oXor, isRaw, isNon, startD, List.length_map, decide_eq_true_eq, List.map_cons, List.map_nil, List.length_cons, List.length_nil, List.cons_append, List.nil_append, List.append_nil, List.replicate, List.getElem?_cons_zero, List.getElem?_cons_succ, List.set_cons_zero, List.set_cons_succ, List.take_length, true_and, and_true, eqv_int, eqv_bool, eqv_str, dep_int, dep_bool, dep_str, dep_none, min0l, min0r, Option.map_some, Option.map_none, if_true, if_false, Bool.and_true, Bool.true_and, Bool.false_eq_true, Bool.not_true, Bool.not_false, reduceIte, wipeD, List.append_assoc, at_nn, Option.some.injEq, exists_eq_left, exists_eq_left', Int.reduceToNat, Int.reduceLE, Int.reduceLT, List.length_set, Nat.reduceAdd, Nat.reduceLeDiff, Nat.reduceSub, dat_dat, dat_new, lst_lst, lst_new, seq_tup, seq_lst, seq_new, seq_ro, List.length_append, Nat.zero_add, eqv_tup, eqv_lst, eqvA_nn, eqvA_cc, eqvA_nc, eqvA_cn, dep_tup, dep_lst, depA_nil, depA_cons, Nat.max_zero, Nat.zero_max, Nat.lt_add_one, forall_const, oShlA, rng_c, Int.toNat_natCast, List.flatten_nil, decide_true, decide_false])
def sp_law_floor : SpD := fun es μ q x => ∃ (w : Nat) (h : Nat), es = [.dat (szD w h)] ∧ (w ≤ 20 ∧ h ≤ 20 ∧ q (.dat (.list ((flr w h).map ptD))) μ)
theorem e_law_floor {w : Nat} {h : Nat} {μ : Mu} {q : PQ} {x : XQ} : sp_law_floor [.dat (szD w h)] μ q x = (w ≤ 20 ∧ h ≤ 20 ∧ q (.dat (.list ((flr w h).map ptD))) μ) := by
  refine propext ⟨fun hyp0 => ?_, fun hyp0 => ⟨w, h, rfl, hyp0⟩⟩
  obtain ⟨w', h', eq0, hyp0⟩ := hyp0
  simp only [List.cons.injEq, Exn.mk.injEq, EV.dat.injEq, EV.loc.injEq, EV.new.injEq, EV.ro.injEq, EV.exc.injEq, PyData.int.injEq, PyData.str.injEq, PyData.bool.injEq, PyData.list.injEq, PyData.tuple.injEq, and_true, true_and, and_assoc, map_int_inj, szD_inj] at eq0
  obtain ⟨rfl, rfl⟩ := eq0
  exact hyp0
theorem ok_law_floor (T : Top K mg) : DefAt P w K mg base "_law_floor" 1 ["_law_size_here"] [] [] sp_law_floor := by
  refine def_ok sp_law_floor T.F_law_floor sc_law_floor T.m_law_floor T.b_law_floor (fun cdv A outer s H E hr tk pw => (dss_cons (ds_set (i := 1) sc_law_floor.nd rfl (by first | exact Or.inl rfl | exact Or.inr rfl) (de_stl (de_lst da_nil)))
    (dss_cons (ds_forF [2] pw rfl (di_range1 (by rfl) T.n_range (da_cons (de_ix ix_seq os_ix (dv 0) de_int (fun _ _ => rfl)) da_nil)) (dg_name (i := 2) sc_law_floor.nd rfl (by first | exact Or.inl rfl | exact Or.inr rfl)) (dss_one (ds_set (i := 1) sc_law_floor.nd rfl (by first | exact Or.inl rfl | exact Or.inr rfl) (de_stl (de_op opA_add os_add (dv 1) (de_lc (own := [("_law_y", 3)]) rfl sc_law_floor.nd (di_range1 (by rfl) T.n_range (da_cons (de_ix ix_seq os_ix (dv 0) de_int (fun _ _ => rfl)) da_nil)) (blkOk_by (N := ["_law_size_here", "_law_found", "_law_x", "_law_y"]) (sc := defScope s_law_floor) (by decide +kernel)) (by decide) (fun _ _ _ _ _ => (dg_name (i := 3) sc_law_floor.nd rfl (by first | exact Or.inl rfl | exact Or.inr rfl))) (fun _ _ _ _ _ => dts_nil) (fun _ _ _ _ _ => (de_tup (da_cons (de_frz (dv 2)) (da_cons (de_frz (dv 3)) da_nil))))))))))
    (dss_one (ds_ret (dv 1)))))) ?_
  rintro es μ q x - ⟨w, h, rfl, hw, hh, k⟩
  simp only [szD_eq]
  walk_at "run"
  refine for_stR (fun i (t : List Pt) => t = flr i h) (fun η t => η.set 1 (some (.dat (.list (t.map ptD))))) (fun μ _ => μ) [] rfl rfl rfl (fun _ => trivial) ?_ ?_
  · rintro i t J hi rfl hJ
    have hl := flr_le (a := 20) (b := 20) (w := i) (h := h) (by omega) hh
    walk_at "run"
    refine lc_rng (f := ?f) (by omega) trivial (fun a K ha hK => ?e) ?_
    case e => (try walk_at "dx"); exact hK
    (try walk_at "dx")
    (try walk_at "ok")
    refine Eq.mp ?_ (hJ _ rfl)
    rw [flr_succ, List.map_append, List.map_map]
    simp only [fg_cons, fg_nil, List.set_cons_succ, List.set_cons_zero, ptD, Int.zero_add, Function.comp_def]
    (try walk_at "dx")
  · rintro t rfl
    walk_at "run"
    exact k
local macro_rules | `(tactic| walk_at "dx") => `(tactic| simp (disch := first | assumption | omega) only [↓e_joined, ↓e_moved, ↓e_common, ↓e_without, ↓ix_sz, ↓gTp_pt, ↓enumK_sh, ↓e_places, ↓e_count, ↓e_nothing, ↓e_has, ↓e_spread, ↓e_is_number, ↓isNum_i, ↓isNum_b, ↓isNum_n, ↓isNum_s, ↓isNum_l, ↓isNum_t, ↓e_is_place, ↓e_sheet_of, ↓e_sheet_of1, sh_eqv, sh_nod, sh_dmin, ↓e_flood, ↓e_grown, ↓e_turned_sheet, ↓e_mirrored, ↓e_law_floor, ↓dVar_0, ↓dVar_1, ↓dVar_2, ↓dVar_3, ↓dVar_4, ↓dVar_5, ↓dVar_6, ↓dVar_7, ↓dVar_8, ↓dVar_9, ↓dVar_10, ↓dVar_11, ↓dVar_12, ↓dVar_13, ↓dVar_14, ↓dVar_15, ↓old_dat, ↓old_loc, ↓old_raw, ↓old_exc, ↓old_ro, ↓wDs_nil, ↓wDs_cons, ↓x_dC, ↓x_dRaw, ↓x_dFrz, ↓x_dCell, ↓x_dStl, ↓x_aNil, ↓x_aCons, ↓x_dLst, ↓x_dTup, ↓x_tVal, ↓x_tAndD, ↓x_tOrD, ↓x_tNotD, ↓x_tYesD, ↓x_dAndV, ↓x_dOrV, ↓x_dNotV, ↓x_dIfE, ↓x_dOp, ↓x_dUn, ↓x_dCB, ↓x_dChain, ↓intK_i, ↓x_oNo, ↓x_oSome, ↓x_dSl, ↓x_gNm, ↓x_gNl0, ↓x_gCn, ↓x_gTp, ↓x_gSb, ↓x_dCall, ↓seqK_tup, ↓seqK_lst, ↓seqK_new, ↓seqK_ro, ↓seqK_str, ↓rng1_i, ↓rng2_i, ↓x_iSeq, ↓x_iRange1, ↓x_iRange2, ↓x_dBM, ↓x_dBM0, ↓x_isStr, ↓bools_k, ↓ints_k, ↓strs_k, ↓lstK_lst, ↓lstK_new, ↓sqK_lst, ↓sqK_new, ↓sqK_tup, ↓sqK_ro, ↓x_oAll, ↓x_oSum, ↓x_oJoin, ↓x_oList, ↓x_oTuple, ↓x_oIsN, ↓x_oNotN, ↓x_lc, ↓int_i, ↓int_b, ↓mem_l, ↓mem_t, ↓mem_n, ↓x_srtS, ↓mul_ni, ↓mul_li, ↓wD_dat, ↓wD_new, ↓wB_b, ↓nN_dat, ↓nN_loc, ↓nN_raw, ↓nN_ro, ↓nN_exc, ↓aO_nil, ↓aO_cons, ↓stl_dat, ↓stl_new, ↓stl_loc, ↓stl_raw, ↓stl_ro, ↓stl_exc, ↓cel_dat, ↓cel_new, ↓cel_loc, ↓cel_raw, ↓cel_ro, ↓add_int, ↓add_strD, ↓add_tup, ↓add_ll, ↓add_ln, ↓add_nl, ↓add_nn, ↓oI_ii, ↓oI0_ii, ↓neg_i, ↓inv_i, ↓mul_int, ↓eq_dd, ↓ne_dd, ↓eq_nd, ↓ne_nd, ↓eq_dn, ↓ne_dn, ↓eq_nn, ↓ne_nn, ↓sign_ss, ↓ix_s, ↓ix_tupD, ↓ix_lstD, ↓ix_new, ↓ix_ro, ↓sl_s, ↓sl_tupD, ↓sl_lstD, ↓sl_new, ↓sl_ro, ↓len_str, ↓len_tup, ↓len_lst, ↓len_new, ↓len_ro, ↓max_ii, ↓min_ii, ↓isi_int, ↓isi_bool, ↓isi_str, ↓isi_list, ↓isi_tuple, ↓isi_dict, ↓exitQ_dat, ↓exitQ_new, ↓exitQ_raw, ↓cl_nil, ↓cl_none, ↓cl_dat, ↓cl_ro, ↓cl_raw, ↓cl_odat, ↓dVar_16, ↓dVar_17, ↓dVar_18, ↓dVar_19, ↓dVar_20, ↓dVar_21, ↓dVar_22, ↓dVar_23, ↓dVar_24, ↓dVar_25, ↓dVar_26, ↓dVar_27, ↓dVar_28, ↓dVar_29, ↓dVar_30, ↓dVar_31, ↓dVar_32, ↓dVar_33, ↓dVar_34, ↓dVar_35, ↓noD_n, ↓noD_b, ↓noD_i, ↓noD_s, ↓noD_l, ↓noD_t, ↓noDs_nil, ↓noDs_cons, ↓noDs_app, ↓noDs_i, ↓noDs_s, ↓noDs_b, ↓exC_k, ↓isIntD_none, ↓isIntD_bool, ↓isIntD_int, ↓isIntD_str, ↓isIntD_list, ↓isIntD_tuple, ↓isIntD_dict, ↓isBoolD_none, ↓isBoolD_bool, ↓isBoolD_int, ↓isBoolD_str, ↓isBoolD_list, ↓isBoolD_tuple, ↓isBoolD_dict, ↓isStrD_none, ↓isStrD_bool, ↓isStrD_int, ↓isStrD_str, ↓isStrD_list, ↓isStrD_tuple, ↓isStrD_dict, ↓isListD_none, ↓isListD_bool, ↓isListD_int, ↓isListD_str, ↓isListD_list, ↓isListD_tuple, ↓isListD_dict, ↓isTupD_none, ↓isTupD_bool, ↓isTupD_int, ↓isTupD_str, ↓isTupD_list, ↓isTupD_tuple, ↓isTupD_dict, ↓isDictD_none, ↓isDictD_bool, ↓isDictD_int, ↓isDictD_str, ↓isDictD_list, ↓isDictD_tuple, ↓isDictD_dict, ↓neg_i2, ↓inv_i2, ↓x_iSeqD, ↓seqDK_d, ↓seqDK_t, ↓seqDK_l, ↓seqDK_s, ↓seqDK_n, ↓seqDK_r, ↓seqDK_c, ↓x_iZipD, ↓zipK_t, ↓zipK_l, ↓x_dNewD, ↓lcD_d, ↓keysK_nil, ↓keysK_i, ↓keysK_s, ↓keysP_nil, ↓keysP_i, ↓keysP_s, ↓c_setD, ↓memA_dict, ↓memA_l, ↓memA_t, ↓memA_n, ↓c_memA, ↓memC_d, ↓memC_l, ↓memC_f, ↓cell_nd, ↓cell_nk, ↓stl_nd, ↓stl_nk, ↓ex_nd, ↓ex_nk, ↓x_dCellA, ↓cellA_new, ↓nextA_eq, ↓stateA_eq, ↓cellA_eq, ↓fg_nil, ↓fg_cons, ↓lcR_l, ↓lcR_f, ↓lcK_l, ↓c_len, ↓c_ix, ↓c_ixC, ↓c_app, ↓c_set, ↓c_isL, ↓c_lstK, ↓c_sqK, ↓c_mem, ↓c_addn, ↓c_addl, ↓c_sl, ↓c_seqK, ↓seqC_l, ↓seqC_f, ↓c_wD, ↓wdC_l, ↓wdC_f, ↓exC_l, ↓exC_f, ↓exC_d, ↓cellK_new, ↓cellK_dat, ↓cellK_loc, ↓get_a0, ↓get_a1, ↓get_a2, ↓get_a3, ↓set_a0, ↓set_a1, ↓set_a2, ↓set_a3, ↓lnD_str, ↓lnD_tup, ↓lnD_lst, ↓lnD_new, ↓lnD_ro, ↓lnD_d, ↓c_lenD, ↓lnC_d, ↓lnC_k, ↓lnC_l, ↓lnC_f, ↓eq_cN, ↓eq_cD, ↓eq_Nc, ↓eq_Dc, ↓ne_cN, ↓ne_cD, ↓ne_Nc, ↓ne_Dc, ↓x_iEnumD, ↓enumK_t, ↓enumK_l, ↓enumK_r, ↓enumK_tk, ↓enumK_lk, ↓srt_d, ↓srt_l, ↓srt_n, ↓c_srt, ↓srtC_l, ↓srtC_f, ↓srtC_d, ↓lsA_t, ↓lsA_l, ↓lsA_n, ↓lsA_r, ↓c_lsA, ↓c_isi_list, ↓c_isi_dict, ↓c_isi_tuple, ↓isiB_l, ↓isiB_f, ↓isiB_d, ↓isiB_k, ↓isi_n_list, ↓isi_n_tuple, ↓x_dListIt, ↓litK_d, ↓augK_s, ↓iadd_ii, ↓c_iaddn, ↓c_iaddl, ↓abs_i, ↓x_dRevL, ↓revK_n, ↓revK_l, ↓cnt_n, ↓cnt_l, ↓idx_l, ↓isLst_l, ↓isLst_n, ↓c_pop, ↓c_popD, ↓c_isD, ↓lcD2_d, ↓lcD2_k, ↓tk_0, ↓tk_a0, ↓tk_a1, ↓tk_a2, ↓tk_a3, ↓tk_a4, dVar_0, dVar_1, dVar_2, dVar_3, dVar_4, dVar_5, dVar_6, dVar_7, dVar_8, dVar_9, dVar_10, dVar_11, dVar_12, dVar_13, dVar_14, dVar_15, old_dat, old_loc, old_raw, old_exc, old_ro, wDs_nil, wDs_cons, x_dC, x_dRaw, x_dFrz, x_dCell, x_dStl, x_aNil, x_aCons, x_dLst, x_dTup, x_tVal, x_tAndD, x_tOrD, x_tNotD, x_tYesD, x_dAndV, x_dOrV, x_dNotV, x_dIfE, x_dOp, x_dUn, x_dCB, x_dChain, intK_i, x_oNo, x_oSome, x_dSl, x_gNm, x_gNl0, x_gCn, x_gTp, x_gSb, x_dCall, seqK_tup, seqK_lst, seqK_new, seqK_ro, seqK_str, rng1_i, rng2_i, x_iSeq, x_iRange1, x_iRange2, x_dBM, x_dBM0, x_isStr, bools_k, ints_k, strs_k, lstK_lst, lstK_new, sqK_lst, sqK_new, sqK_tup, sqK_ro, x_oAll, x_oSum, x_oJoin, x_oList, x_oTuple, x_oIsN, x_oNotN, x_lc, int_i, int_b, mem_l, mem_t, mem_n, x_srtS, mul_ni, mul_li, wD_dat, wD_new, wB_b, nN_dat, nN_loc, nN_raw, nN_ro, nN_exc, aO_nil, aO_cons, stl_dat, stl_new, stl_loc, stl_raw, stl_ro, stl_exc, cel_dat, cel_new, cel_loc, cel_raw, cel_ro, add_int, add_strD, add_tup, add_ll, add_ln, add_nl, add_nn, oI_ii, oI0_ii, neg_i, inv_i, mul_int, eq_dd, ne_dd, eq_nd, ne_nd, eq_dn, ne_dn, eq_nn, ne_nn, sign_ss, ix_s, ix_tupD, ix_lstD, ix_new, ix_ro, sl_s, sl_tupD, sl_lstD, sl_new, sl_ro, len_str, len_tup, len_lst, len_new, len_ro, max_ii, min_ii, isi_int, isi_bool, isi_str, isi_list, isi_tuple, isi_dict, exitQ_dat, exitQ_new, exitQ_raw, cl_nil, cl_none, cl_dat, cl_ro, cl_raw, cl_odat, dVar_16, dVar_17, dVar_18, dVar_19, dVar_20, dVar_21, dVar_22, dVar_23, dVar_24, dVar_25, dVar_26, dVar_27, dVar_28, dVar_29, dVar_30, dVar_31, dVar_32, dVar_33, dVar_34, dVar_35, noD_n, noD_b, noD_i, noD_s, noD_l, noD_t, noDs_nil, noDs_cons, noDs_app, noDs_i, noDs_s, noDs_b, exC_k, isIntD_none, isIntD_bool, isIntD_int, isIntD_str, isIntD_list, isIntD_tuple, isIntD_dict, isBoolD_none, isBoolD_bool, isBoolD_int, isBoolD_str, isBoolD_list, isBoolD_tuple, isBoolD_dict, isStrD_none, isStrD_bool, isStrD_int, isStrD_str, isStrD_list, isStrD_tuple, isStrD_dict, isListD_none, isListD_bool, isListD_int, isListD_str, isListD_list, isListD_tuple, isListD_dict, isTupD_none, isTupD_bool, isTupD_int, isTupD_str, isTupD_list, isTupD_tuple, isTupD_dict, isDictD_none, isDictD_bool, isDictD_int, isDictD_str, isDictD_list, isDictD_tuple, isDictD_dict, neg_i2, inv_i2, x_iSeqD, seqDK_d, seqDK_t, seqDK_l, seqDK_s, seqDK_n, seqDK_r, seqDK_c, x_iZipD, zipK_t, zipK_l, x_dNewD, lcD_d, keysK_nil, keysK_i, keysK_s, keysP_nil, keysP_i, keysP_s, c_setD, memA_dict, memA_l, memA_t, memA_n, c_memA, memC_d, memC_l, memC_f, cell_nd, cell_nk, stl_nd, stl_nk, ex_nd, ex_nk, x_dCellA, cellA_new, nextA_eq, stateA_eq, cellA_eq, fg_nil, fg_cons, lcR_l, lcR_f, lcK_l, c_len, c_ix, c_ixC, c_app, c_set, c_isL, c_lstK, c_sqK, c_mem, c_addn, c_addl, c_sl, c_seqK, seqC_l, seqC_f, c_wD, wdC_l, wdC_f, exC_l, exC_f, exC_d, cellK_new, cellK_dat, cellK_loc, get_a0, get_a1, get_a2, get_a3, set_a0, set_a1, set_a2, set_a3, lnD_str, lnD_tup, lnD_lst, lnD_new, lnD_ro, lnD_d, c_lenD, lnC_d, lnC_k, lnC_l, lnC_f, eq_cN, eq_cD, eq_Nc, eq_Dc, ne_cN, ne_cD, ne_Nc, ne_Dc, x_iEnumD, enumK_t, enumK_l, enumK_r, enumK_tk, enumK_lk, srt_d, srt_l, srt_n, c_srt, srtC_l, srtC_f, srtC_d, lsA_t, lsA_l, lsA_n, lsA_r, c_lsA, c_isi_list, c_isi_dict, c_isi_tuple, isiB_l, isiB_f, isiB_d, isiB_k, isi_n_list, isi_n_tuple, x_dListIt, litK_d, augK_s, iadd_ii, c_iaddn, c_iaddl, abs_i, x_dRevL, revK_n, revK_l, cnt_n, cnt_l, idx_l, isLst_l, isLst_n, c_pop, c_popD, c_isD, lcD2_d, lcD2_k, tk_0, tk_a0, tk_a1, tk_a2, tk_a3, tk_a4, isR_h, isR_app, isR_last, exitQ_ge, exitQ_lt, cl_loc, nle_h, nlt_h, ile_h, ilt_h, cmul_l, cmul_r, cdiv_h, cpow_h, csh_h, csh_0, oLt, oLe, oGt, oGe, oSub, oMod, oDiv, oPow, oShl, oShr, oAnd, oOr, oXor, isRaw, isNon, startD, List.length_map, decide_eq_true_eq, List.map_cons, List.map_nil, List.length_cons, List.length_nil, List.cons_append, List.nil_append, List.append_nil, List.replicate, List.getElem?_cons_zero, List.getElem?_cons_succ, List.set_cons_zero, List.set_cons_succ, List.take_length, true_and, and_true, eqv_int, eqv_bool, eqv_str, dep_int, dep_bool, dep_str, dep_none, min0l, min0r, Option.map_some, Option.map_none, if_true, if_false, Bool.and_true, Bool.true_and, Bool.false_eq_true, Bool.not_true, Bool.not_false, reduceIte, wipeD, List.append_assoc, at_nn, Option.some.injEq, exists_eq_left, exists_eq_left', Int.reduceToNat, Int.reduceLE, Int.reduceLT, List.length_set, Nat.reduceAdd, Nat.reduceLeDiff, Nat.reduceSub, dat_dat, dat_new, lst_lst, lst_new, seq_tup, seq_lst, seq_new, seq_ro, List.length_append, Nat.zero_add, eqv_tup, eqv_lst, eqvA_nn, eqvA_cc, eqvA_nc, eqvA_cn, dep_tup, dep_lst, depA_nil, depA_cons, Nat.max_zero, Nat.zero_max, Nat.lt_add_one, forall_const, oShlA, rng_c, Int.toNat_natCast, List.flatten_nil, decide_true, decide_false])

/-- places told by a dict or by a list -/
def plcs (d : PyData) (cs : List Pt) : Prop := d = dctD cs ∨ d = .list (cs.map ptD)
theorem sum_bits (f : Nat → Bool) : ∀ w : Nat, (((List.range w).filter f).map fun x : Nat => (2 : Int) ^ x).sum = ((rowB w f : Nat) : Int)
  | 0 => rfl
  | w + 1 => by
    rw [List.range_succ, List.filter_append, List.map_append, List.sum_append, sum_bits f w]
    show _ = ((rowB w f + (if f w then 2 ^ w else 0) : Nat) : Int)
    by_cases hf : f w = true
    · simp [hf]
    · simp [hf]
theorem has_pt (cs : List Pt) (c : Pt) : has (cs.map ptD) (ptD c) = decide (c ∈ cs) := (enc_pt.has cs c).trans (decide_eq_decide.mpr Iff.rfl)
theorem memA_plcs {d : PyData} {cs : List Pt} (hp : plcs d cs) (x y : Int) {neg : Bool} {μ : Mu} {q : PQ} : oMemA neg (.dat (.tuple [.int x, .int y])) (.dat d) μ q = q (.dat (.bool (if neg then !decide ((x, y) ∈ cs) else decide ((x, y) ∈ cs)))) μ := by
  rcases hp with rfl | rfl
  · unfold dctD
    rw [memA_dict, allT_pt, ptD_eq, hasKs_pt]
    simp [keysP_i, keysP_nil]
  · rw [memA_l, mem_l, ptD_eq, has_pt, noD_l, noDs_pt]
    have h1 : noD (ptD (x, y)) = true := enc_pt.nod _
    have h2 : (ptD (x, y)).depth ≤ 60 := Nat.le_trans (enc_pt.dep _) (by decide)
    simp [h1, h2]
def sp_law_sheet : SpD := fun es μ q x => ∃ (w : Nat) (h : Nat) (d : PyData), es = [.dat (szD w h), .dat d] ∧ (w ≤ 10 ∧ h ≤ 10 ∧ ∃ cs : List Pt, plcs d cs ∧ q (.dat (shD (shC w h cs))) μ)
theorem e_law_sheet {w : Nat} {h : Nat} {d : PyData} {μ : Mu} {q : PQ} {x : XQ} : sp_law_sheet [.dat (szD w h), .dat d] μ q x = (w ≤ 10 ∧ h ≤ 10 ∧ ∃ cs : List Pt, plcs d cs ∧ q (.dat (shD (shC w h cs))) μ) := by
  refine propext ⟨fun hyp0 => ?_, fun hyp0 => ⟨w, h, d, rfl, hyp0⟩⟩
  obtain ⟨w', h', d', eq0, hyp0⟩ := hyp0
  simp only [List.cons.injEq, Exn.mk.injEq, EV.dat.injEq, EV.loc.injEq, EV.new.injEq, EV.ro.injEq, EV.exc.injEq, PyData.int.injEq, PyData.str.injEq, PyData.bool.injEq, PyData.list.injEq, PyData.tuple.injEq, and_true, true_and, and_assoc, map_int_inj, szD_inj] at eq0
  obtain ⟨rfl, rfl, rfl⟩ := eq0
  exact hyp0
theorem ok_law_sheet (T : Top K mg) : DefAt P w K mg base "_law_sheet" 1 ["_law_size_here", "_law_cells_here"] [] [] sp_law_sheet := by
  refine def_ok sp_law_sheet T.F_law_sheet sc_law_sheet T.m_law_sheet T.b_law_sheet (fun cdv A outer s H E hr tk pw => (dss_cons (ds_set (i := 2) sc_law_sheet.nd rfl (by first | exact Or.inl rfl | exact Or.inr rfl) (de_cell (de_lst da_nil)))
    (dss_cons (ds_forF [3] pw rfl (di_range1 (by rfl) T.n_range (da_cons (de_ix ix_seq os_ix (dv 0) de_int (fun _ _ => rfl)) da_nil)) (dg_name (i := 3) sc_law_sheet.nd rfl (by first | exact Or.inl rfl | exact Or.inr rfl)) (dss_one (ds_expr (de_bm PySem.F.plainAttrs_list PySem.F.slot_list_append PySem.F.type_list_append mt_append rc_lst ms_append (dv 2) (da_cons (de_frz (de_callB (cr_sum rfl) cs_sum (by rfl) T.n_sum bb_sum (da_cons (de_lc (own := [("_law_x", 4)]) rfl sc_law_sheet.nd (di_range1 (by rfl) T.n_range (da_cons (de_ix ix_seq os_ix (dv 0) de_int (fun _ _ => rfl)) da_nil)) (blkOk_by (N := ["_law_size_here", "_law_cells_here", "_law_rows", "_law_y", "_law_x"]) (sc := defScope s_law_sheet) (by decide +kernel)) (by decide) (fun _ _ _ _ _ => (dg_name (i := 4) sc_law_sheet.nd rfl (by first | exact Or.inl rfl | exact Or.inr rfl))) (fun _ _ _ _ _ => (dts_one (dt_cmp (opA_in hr.units) os_memA (de_tup (da_cons (de_frz (dv 4)) (da_cons (de_frz (dv 3)) da_nil))) (dv 1) (by rfl)))) (fun _ _ _ _ _ => (de_op opA_shl os_shlA de_int (dv 4)))) da_nil))) da_nil)))))
    (dss_one (ds_ret (de_callTy call_tuple_of cs_tuple (by rfl) T.n_tuple bt_tuple (da_cons (dv 2) da_nil))))))) ?_
  rintro es μ q x - ⟨w, h, d, rfl, hw, hh, cs, hp, k⟩
  simp only [szD_eq]
  walk_at "run"
  refine for_stR (fun i (n : Nat) => n = i) (fun η _ => η) (fun _ n => μ ++ [.lst ((List.range n).map fun y : Nat => .int ((rowB w (fun x => decide (((x : Int), (y : Int)) ∈ cs)) : Nat) : Int))]) 0 rfl rfl rfl (fun _ => trivial) ?_ ?_
  · rintro i n J hi rfl hJ
    walk_at "run"
    refine lc_rngF (p := fun x => decide (((x : Int), (n : Int)) ∈ cs)) (f := fun x : Nat => .int (1 * 2 ^ (0 + (x : Int)).toNat)) (by omega) trivial (fun a K K' ha hK => ?e) ?_
    case e =>
      (try walk_at "dx")
      rw [memA_plcs hp, Int.zero_add, Int.zero_add]
      (try walk_at "dx")
      simp only [Int.zero_add, decide_eq_true_eq] at hK ⊢
      exact hK
    have e : ((List.range w).filter fun x : Nat => decide (((x : Int), (n : Int)) ∈ cs)).map (fun x : Nat => PyData.int (1 * 2 ^ (0 + (x : Int)).toNat)) = (((List.range w).filter fun x : Nat => decide (((x : Int), (n : Int)) ∈ cs)).map fun x : Nat => (2 : Int) ^ x).map .int := by
      rw [List.map_map]
      refine List.map_congr_left fun x _ => ?_
      simp
    rw [e]
    (try walk_at "dx")
    rw [sum_bits]
    (try walk_at "ok")
    (have j := hJ (n + 1) rfl; simp only [List.range_succ, List.map_append, List.map_cons, List.map_nil, fg_cons, fg_nil, List.set_cons_succ, List.set_cons_zero] at j; exact j)
  · rintro n rfl
    walk_at "run"
    have e : ((List.range n).map fun y : Nat => PyData.int ((rowB w (fun x => decide (((x : Int), (y : Int)) ∈ cs)) : Nat) : Int)) = (shC w n cs).map fun n : Nat => .int (n : Int) := by
      unfold shC sheetB
      rw [List.map_map]
      rfl
    rw [e]
    exact k
theorem seqDK_pt {r : RI} {cs : List Pt} {μ : Mu} : seqDK r (.dat (dctD cs)) μ = r ((cs.map ptD).map .dat) (fun _ => True) μ := by
  unfold dctD
  rw [seqDK_d, List.map_map, List.map_map]
  rfl
local macro_rules | `(tactic| walk_at "dx") => `(tactic| simp (disch := first | assumption | omega) only [↓e_joined, ↓e_moved, ↓e_common, ↓e_without, ↓ix_sz, ↓gTp_pt, ↓enumK_sh, ↓e_places, ↓e_count, ↓e_nothing, ↓e_has, ↓e_spread, ↓e_is_number, ↓isNum_i, ↓isNum_b, ↓isNum_n, ↓isNum_s, ↓isNum_l, ↓isNum_t, ↓e_is_place, ↓e_sheet_of, ↓e_sheet_of1, sh_eqv, sh_nod, sh_dmin, ↓e_flood, ↓e_grown, ↓e_turned_sheet, ↓e_mirrored, ↓e_law_floor, ↓e_law_sheet, ↓seqDK_pt, ↓gTp_pt, ↓kvT_pt, ↓ix_sz, ↓dVar_0, ↓dVar_1, ↓dVar_2, ↓dVar_3, ↓dVar_4, ↓dVar_5, ↓dVar_6, ↓dVar_7, ↓dVar_8, ↓dVar_9, ↓dVar_10, ↓dVar_11, ↓dVar_12, ↓dVar_13, ↓dVar_14, ↓dVar_15, ↓old_dat, ↓old_loc, ↓old_raw, ↓old_exc, ↓old_ro, ↓wDs_nil, ↓wDs_cons, ↓x_dC, ↓x_dRaw, ↓x_dFrz, ↓x_dCell, ↓x_dStl, ↓x_aNil, ↓x_aCons, ↓x_dLst, ↓x_dTup, ↓x_tVal, ↓x_tAndD, ↓x_tOrD, ↓x_tNotD, ↓x_tYesD, ↓x_dAndV, ↓x_dOrV, ↓x_dNotV, ↓x_dIfE, ↓x_dOp, ↓x_dUn, ↓x_dCB, ↓x_dChain, ↓intK_i, ↓x_oNo, ↓x_oSome, ↓x_dSl, ↓x_gNm, ↓x_gNl0, ↓x_gCn, ↓x_gTp, ↓x_gSb, ↓x_dCall, ↓seqK_tup, ↓seqK_lst, ↓seqK_new, ↓seqK_ro, ↓seqK_str, ↓rng1_i, ↓rng2_i, ↓x_iSeq, ↓x_iRange1, ↓x_iRange2, ↓x_dBM, ↓x_dBM0, ↓x_isStr, ↓bools_k, ↓ints_k, ↓strs_k, ↓lstK_lst, ↓lstK_new, ↓sqK_lst, ↓sqK_new, ↓sqK_tup, ↓sqK_ro, ↓x_oAll, ↓x_oSum, ↓x_oJoin, ↓x_oList, ↓x_oTuple, ↓x_oIsN, ↓x_oNotN, ↓x_lc, ↓int_i, ↓int_b, ↓mem_l, ↓mem_t, ↓mem_n, ↓x_srtS, ↓mul_ni, ↓mul_li, ↓wD_dat, ↓wD_new, ↓wB_b, ↓nN_dat, ↓nN_loc, ↓nN_raw, ↓nN_ro, ↓nN_exc, ↓aO_nil, ↓aO_cons, ↓stl_dat, ↓stl_new, ↓stl_loc, ↓stl_raw, ↓stl_ro, ↓stl_exc, ↓cel_dat, ↓cel_new, ↓cel_loc, ↓cel_raw, ↓cel_ro, ↓add_int, ↓add_strD, ↓add_tup, ↓add_ll, ↓add_ln, ↓add_nl, ↓add_nn, ↓oI_ii, ↓oI0_ii, ↓neg_i, ↓inv_i, ↓mul_int, ↓eq_dd, ↓ne_dd, ↓eq_nd, ↓ne_nd, ↓eq_dn, ↓ne_dn, ↓eq_nn, ↓ne_nn, ↓sign_ss, ↓ix_s, ↓ix_tupD, ↓ix_lstD, ↓ix_new, ↓ix_ro, ↓sl_s, ↓sl_tupD, ↓sl_lstD, ↓sl_new, ↓sl_ro, ↓len_str, ↓len_tup, ↓len_lst, ↓len_new, ↓len_ro, ↓max_ii, ↓min_ii, ↓isi_int, ↓isi_bool, ↓isi_str, ↓isi_list, ↓isi_tuple, ↓isi_dict, ↓exitQ_dat, ↓exitQ_new, ↓exitQ_raw, ↓cl_nil, ↓cl_none, ↓cl_dat, ↓cl_ro, ↓cl_raw, ↓cl_odat, ↓dVar_16, ↓dVar_17, ↓dVar_18, ↓dVar_19, ↓dVar_20, ↓dVar_21, ↓dVar_22, ↓dVar_23, ↓dVar_24, ↓dVar_25, ↓dVar_26, ↓dVar_27, ↓dVar_28, ↓dVar_29, ↓dVar_30, ↓dVar_31, ↓dVar_32, ↓dVar_33, ↓dVar_34, ↓dVar_35, ↓noD_n, ↓noD_b, ↓noD_i, ↓noD_s, ↓noD_l, ↓noD_t, ↓noDs_nil, ↓noDs_cons, ↓noDs_app, ↓noDs_i, ↓noDs_s, ↓noDs_b, ↓exC_k, ↓isIntD_none, ↓isIntD_bool, ↓isIntD_int, ↓isIntD_str, ↓isIntD_list, ↓isIntD_tuple, ↓isIntD_dict, ↓isBoolD_none, ↓isBoolD_bool, ↓isBoolD_int, ↓isBoolD_str, ↓isBoolD_list, ↓isBoolD_tuple, ↓isBoolD_dict, ↓isStrD_none, ↓isStrD_bool, ↓isStrD_int, ↓isStrD_str, ↓isStrD_list, ↓isStrD_tuple, ↓isStrD_dict, ↓isListD_none, ↓isListD_bool, ↓isListD_int, ↓isListD_str, ↓isListD_list, ↓isListD_tuple, ↓isListD_dict, ↓isTupD_none, ↓isTupD_bool, ↓isTupD_int, ↓isTupD_str, ↓isTupD_list, ↓isTupD_tuple, ↓isTupD_dict, ↓isDictD_none, ↓isDictD_bool, ↓isDictD_int, ↓isDictD_str, ↓isDictD_list, ↓isDictD_tuple, ↓isDictD_dict, ↓neg_i2, ↓inv_i2, ↓x_iSeqD, ↓seqDK_d, ↓seqDK_t, ↓seqDK_l, ↓seqDK_s, ↓seqDK_n, ↓seqDK_r, ↓seqDK_c, ↓x_iZipD, ↓zipK_t, ↓zipK_l, ↓x_dNewD, ↓lcD_d, ↓keysK_nil, ↓keysK_i, ↓keysK_s, ↓keysP_nil, ↓keysP_i, ↓keysP_s, ↓c_setD, ↓memA_dict, ↓memA_l, ↓memA_t, ↓memA_n, ↓c_memA, ↓memC_d, ↓memC_l, ↓memC_f, ↓cell_nd, ↓cell_nk, ↓stl_nd, ↓stl_nk, ↓ex_nd, ↓ex_nk, ↓x_dCellA, ↓cellA_new, ↓nextA_eq, ↓stateA_eq, ↓cellA_eq, ↓fg_nil, ↓fg_cons, ↓lcR_l, ↓lcR_f, ↓lcK_l, ↓c_len, ↓c_ix, ↓c_ixC, ↓c_app, ↓c_set, ↓c_isL, ↓c_lstK, ↓c_sqK, ↓c_mem, ↓c_addn, ↓c_addl, ↓c_sl, ↓c_seqK, ↓seqC_l, ↓seqC_f, ↓c_wD, ↓wdC_l, ↓wdC_f, ↓exC_l, ↓exC_f, ↓exC_d, ↓cellK_new, ↓cellK_dat, ↓cellK_loc, ↓get_a0, ↓get_a1, ↓get_a2, ↓get_a3, ↓set_a0, ↓set_a1, ↓set_a2, ↓set_a3, ↓lnD_str, ↓lnD_tup, ↓lnD_lst, ↓lnD_new, ↓lnD_ro, ↓lnD_d, ↓c_lenD, ↓lnC_d, ↓lnC_k, ↓lnC_l, ↓lnC_f, ↓eq_cN, ↓eq_cD, ↓eq_Nc, ↓eq_Dc, ↓ne_cN, ↓ne_cD, ↓ne_Nc, ↓ne_Dc, ↓x_iEnumD, ↓enumK_t, ↓enumK_l, ↓enumK_r, ↓enumK_tk, ↓enumK_lk, ↓srt_d, ↓srt_l, ↓srt_n, ↓c_srt, ↓srtC_l, ↓srtC_f, ↓srtC_d, ↓lsA_t, ↓lsA_l, ↓lsA_n, ↓lsA_r, ↓c_lsA, ↓c_isi_list, ↓c_isi_dict, ↓c_isi_tuple, ↓isiB_l, ↓isiB_f, ↓isiB_d, ↓isiB_k, ↓isi_n_list, ↓isi_n_tuple, ↓x_dListIt, ↓litK_d, ↓augK_s, ↓iadd_ii, ↓c_iaddn, ↓c_iaddl, ↓abs_i, ↓x_dRevL, ↓revK_n, ↓revK_l, ↓cnt_n, ↓cnt_l, ↓idx_l, ↓isLst_l, ↓isLst_n, ↓c_pop, ↓c_popD, ↓c_isD, ↓lcD2_d, ↓lcD2_k, ↓tk_0, ↓tk_a0, ↓tk_a1, ↓tk_a2, ↓tk_a3, ↓tk_a4, dVar_0, dVar_1, dVar_2, dVar_3, dVar_4, dVar_5, dVar_6, dVar_7, dVar_8, dVar_9, dVar_10, dVar_11, dVar_12, dVar_13, dVar_14, dVar_15, old_dat, old_loc, old_raw, old_exc, old_ro, wDs_nil, wDs_cons, x_dC, x_dRaw, x_dFrz, x_dCell, x_dStl, x_aNil, x_aCons, x_dLst, x_dTup, x_tVal, x_tAndD, x_tOrD, x_tNotD, x_tYesD, x_dAndV, x_dOrV, x_dNotV, x_dIfE, x_dOp, x_dUn, x_dCB, x_dChain, intK_i, x_oNo, x_oSome, x_dSl, x_gNm, x_gNl0, x_gCn, x_gTp, x_gSb, x_dCall, seqK_tup, seqK_lst, seqK_new, seqK_ro, seqK_str, rng1_i, rng2_i, x_iSeq, x_iRange1, x_iRange2, x_dBM, x_dBM0, x_isStr, bools_k, ints_k, strs_k, lstK_lst, lstK_new, sqK_lst, sqK_new, sqK_tup, sqK_ro, x_oAll, x_oSum, x_oJoin, x_oList, x_oTuple, x_oIsN, x_oNotN, x_lc, int_i, int_b, mem_l, mem_t, mem_n, x_srtS, mul_ni, mul_li, wD_dat, wD_new, wB_b, nN_dat, nN_loc, nN_raw, nN_ro, nN_exc, aO_nil, aO_cons, stl_dat, stl_new, stl_loc, stl_raw, stl_ro, stl_exc, cel_dat, cel_new, cel_loc, cel_raw, cel_ro, add_int, add_strD, add_tup, add_ll, add_ln, add_nl, add_nn, oI_ii, oI0_ii, neg_i, inv_i, mul_int, eq_dd, ne_dd, eq_nd, ne_nd, eq_dn, ne_dn, eq_nn, ne_nn, sign_ss, ix_s, ix_tupD, ix_lstD, ix_new, ix_ro, sl_s, sl_tupD, sl_lstD, sl_new, sl_ro, len_str, len_tup, len_lst, len_new, len_ro, max_ii, min_ii, isi_int, isi_bool, isi_str, isi_list, isi_tuple, isi_dict, exitQ_dat, exitQ_new, exitQ_raw, cl_nil, cl_none, cl_dat, cl_ro, cl_raw, cl_odat, dVar_16, dVar_17, dVar_18, dVar_19, dVar_20, dVar_21, dVar_22, dVar_23, dVar_24, dVar_25, dVar_26, dVar_27, dVar_28, dVar_29, dVar_30, dVar_31, dVar_32, dVar_33, dVar_34, dVar_35, noD_n, noD_b, noD_i, noD_s, noD_l, noD_t, noDs_nil, noDs_cons, noDs_app, noDs_i, noDs_s, noDs_b, exC_k, isIntD_none, isIntD_bool, isIntD_int, isIntD_str, isIntD_list, isIntD_tuple, isIntD_dict, isBoolD_none, isBoolD_bool, isBoolD_int, isBoolD_str, isBoolD_list, isBoolD_tuple, isBoolD_dict, isStrD_none, isStrD_bool, isStrD_int, isStrD_str, isStrD_list, isStrD_tuple, isStrD_dict, isListD_none, isListD_bool, isListD_int, isListD_str, isListD_list, isListD_tuple, isListD_dict, isTupD_none, isTupD_bool, isTupD_int, isTupD_str, isTupD_list, isTupD_tuple, isTupD_dict, isDictD_none, isDictD_bool, isDictD_int, isDictD_str, isDictD_list, isDictD_tuple, isDictD_dict, neg_i2, inv_i2, x_iSeqD, seqDK_d, seqDK_t, seqDK_l, seqDK_s, seqDK_n, seqDK_r, seqDK_c, x_iZipD, zipK_t, zipK_l, x_dNewD, lcD_d, keysK_nil, keysK_i, keysK_s, keysP_nil, keysP_i, keysP_s, c_setD, memA_dict, memA_l, memA_t, memA_n, c_memA, memC_d, memC_l, memC_f, cell_nd, cell_nk, stl_nd, stl_nk, ex_nd, ex_nk, x_dCellA, cellA_new, nextA_eq, stateA_eq, cellA_eq, fg_nil, fg_cons, lcR_l, lcR_f, lcK_l, c_len, c_ix, c_ixC, c_app, c_set, c_isL, c_lstK, c_sqK, c_mem, c_addn, c_addl, c_sl, c_seqK, seqC_l, seqC_f, c_wD, wdC_l, wdC_f, exC_l, exC_f, exC_d, cellK_new, cellK_dat, cellK_loc, get_a0, get_a1, get_a2, get_a3, set_a0, set_a1, set_a2, set_a3, lnD_str, lnD_tup, lnD_lst, lnD_new, lnD_ro, lnD_d, c_lenD, lnC_d, lnC_k, lnC_l, lnC_f, eq_cN, eq_cD, eq_Nc, eq_Dc, ne_cN, ne_cD, ne_Nc, ne_Dc, x_iEnumD, enumK_t, enumK_l, enumK_r, enumK_tk, enumK_lk, srt_d, srt_l, srt_n, c_srt, srtC_l, srtC_f, srtC_d, lsA_t, lsA_l, lsA_n, lsA_r, c_lsA, c_isi_list, c_isi_dict, c_isi_tuple, isiB_l, isiB_f, isiB_d, isiB_k, isi_n_list, isi_n_tuple, x_dListIt, litK_d, augK_s, iadd_ii, c_iaddn, c_iaddl, abs_i, x_dRevL, revK_n, revK_l, cnt_n, cnt_l, idx_l, isLst_l, isLst_n, c_pop, c_popD, c_isD, lcD2_d, lcD2_k, tk_0, tk_a0, tk_a1, tk_a2, tk_a3, tk_a4, isR_h, isR_app, isR_last, exitQ_ge, exitQ_lt, cl_loc, nle_h, nlt_h, ile_h, ilt_h, cmul_l, cmul_r, cdiv_h, cpow_h, csh_h, csh_0, oLt, oLe, oGt, oGe, oSub, oMod, oDiv, oPow, oShl, oShr, oAnd, oOr, oXor, isRaw, isNon, startD, List.length_map, decide_eq_true_eq, List.map_cons, List.map_nil, List.length_cons, List.length_nil, List.cons_append, List.nil_append, List.append_nil, List.replicate, List.getElem?_cons_zero, List.getElem?_cons_succ, List.set_cons_zero, List.set_cons_succ, List.take_length, true_and, and_true, eqv_int, eqv_bool, eqv_str, dep_int, dep_bool, dep_str, dep_none, min0l, min0r, Option.map_some, Option.map_none, if_true, if_false, Bool.and_true, Bool.true_and, Bool.false_eq_true, Bool.not_true, Bool.not_false, reduceIte, wipeD, List.append_assoc, at_nn, Option.some.injEq, exists_eq_left, exists_eq_left', Int.reduceToNat, Int.reduceLE, Int.reduceLT, List.length_set, Nat.reduceAdd, Nat.reduceLeDiff, Nat.reduceSub, dat_dat, dat_new, lst_lst, lst_new, seq_tup, seq_lst, seq_new, seq_ro, List.length_append, Nat.zero_add, eqv_tup, eqv_lst, eqvA_nn, eqvA_cc, eqvA_nc, eqvA_cn, dep_tup, dep_lst, depA_nil, depA_cons, Nat.max_zero, Nat.zero_max, Nat.lt_add_one, forall_const, oShlA, rng_c, Int.toNat_natCast, List.flatten_nil, decide_true, decide_false])

def sp_law_same : SpD := fun es μ q x => ∃ (a : List Nat) (b : List Nat), es = [.dat (shD a), .dat (shD b)] ∧ (a.length ≤ 1000 ∧ q (.dat (.bool (decide (a = b)))) μ)
theorem e_law_same {a : List Nat} {b : List Nat} {μ : Mu} {q : PQ} {x : XQ} : sp_law_same [.dat (shD a), .dat (shD b)] μ q x = (a.length ≤ 1000 ∧ q (.dat (.bool (decide (a = b)))) μ) := by
  refine propext ⟨fun hyp0 => ?_, fun hyp0 => ⟨a, b, rfl, hyp0⟩⟩
  obtain ⟨a', b', eq0, hyp0⟩ := hyp0
  simp only [List.cons.injEq, Exn.mk.injEq, EV.dat.injEq, EV.loc.injEq, EV.new.injEq, EV.ro.injEq, EV.exc.injEq, PyData.int.injEq, PyData.str.injEq, PyData.bool.injEq, PyData.list.injEq, PyData.tuple.injEq, and_true, true_and, and_assoc, map_int_inj, shD_inj] at eq0
  obtain ⟨rfl, rfl⟩ := eq0
  exact hyp0
theorem shD_eqv (a b : List Nat) : PyData.eqv (.tuple (a.map fun n : Nat => .int (n : Int))) (.tuple (b.map fun n : Nat => .int (n : Int))) = decide (a = b) := enc_sh.eqv a b
theorem shD_nod (a : List Nat) : noDs (a.map fun n : Nat => PyData.int (n : Int)) = true := noDs_map (fun _ => noD_i) a
theorem shD_dep (a : List Nat) : PyData.depthAll (a.map fun n : Nat => PyData.int (n : Int)) ≤ 0 := depA_map _ (fun _ => by rw [dep_int]; omega) a
theorem ok_law_same (T : Top K mg) : DefAt P w K mg base "_law_same" 1 ["_law_found", "_law_due"] [] [] sp_law_same := by
  refine def_ok sp_law_same T.F_law_same sc_law_same T.m_law_same T.b_law_same (fun cdv A outer s H E hr tk pw => (dss_cons (ds_if (dw_or (dt_not (dt_val (de_callB call_isiY cs_isi (by rfl) T.n_isinstance bb_isinstance (da_cons (dv 0) (da_cons (de_ty T.n_tuple bt_tuple) da_nil))))) (dw_or1 (dt_cmp (opA_ne hr.units) os_ne (dv 0) (dv 1) (nomark _)))).dt (dss_one (ds_ret de_bl)) dss_nil)
    (dss_one (ds_ret (de_cmp (opA_eq hr.units) os_eq (de_lc (own := [("_law_row", 2)]) rfl sc_law_same.nd (di_seqD (dv 0)) (blkOk_by (N := ["_law_found", "_law_due", "_law_row"]) (sc := defScope s_law_same) (by decide +kernel)) (by decide) (fun _ _ _ _ _ => (dg_name (i := 2) sc_law_same.nd rfl (by first | exact Or.inl rfl | exact Or.inr rfl))) (fun _ _ _ _ _ => (dts_one (dw_or (dt_not (dt_val (de_callB call_isiY cs_isi (by rfl) T.n_isinstance bb_isinstance (da_cons (dv 2) (da_cons (de_ty T.n_int bt_int) da_nil))))) (dw_or1 (dt_val (de_callB call_isiY cs_isi (by rfl) T.n_isinstance bb_isinstance (da_cons (dv 2) (da_cons (de_ty T.n_bool bt_bool) da_nil)))))).dt)) (fun _ _ _ _ _ => (dv 2))) (de_lst da_nil) (nomark _)))))) ?_
  rintro es μ q x - ⟨a, b, rfl, hl, k⟩
  have hd := shD_dep a
  simp only [shD_eq]
  walk_at "run"
  rw [shD_nod, shD_nod]
  refine ⟨⟨rfl, rfl⟩, ?_⟩
  have e := shD_eqv a b
  rw [eqv_tup] at e
  rw [e]
  by_cases hab : a = b
  · rw [if_neg (by simp [hab])]
    walk_at "run"
    refine lc_filterD (p := fun _ => false) (f := fun n : Nat => .int (n : Int)) (by omega) trivial (fun n K K' hn hK => ?e) ?_
    case e => (try walk_at "dx"); exact hK
    rw [show a.filter (fun _ => false) = [] from List.filter_eq_nil_iff.mpr (fun _ _ => by simp)]
    (try walk_at "dx")
    rw [decide_eq_true hab] at k
    exact k
  · rw [if_pos (by simp [hab])]
    walk_at "run"
    rw [decide_eq_false hab] at k
    exact k

def sp_law_size : SpD := fun es μ q x => ∃ (n : Nat), es = [.loc n] ∧ (isR μ n ∧ ∀ w h : Nat, 3 ≤ w → w ≤ 10 → 3 ≤ h → h ≤ 10 → q (.dat (szD w h)) μ)
theorem e_law_size {n : Nat} {μ : Mu} {q : PQ} {x : XQ} : sp_law_size [.loc n] μ q x = (isR μ n ∧ ∀ w h : Nat, 3 ≤ w → w ≤ 10 → 3 ≤ h → h ≤ 10 → q (.dat (szD w h)) μ) := by
  refine propext ⟨fun hyp0 => ?_, fun hyp0 => ⟨n, rfl, hyp0⟩⟩
  obtain ⟨n', eq0, hyp0⟩ := hyp0
  simp only [List.cons.injEq, Exn.mk.injEq, EV.dat.injEq, EV.loc.injEq, EV.new.injEq, EV.ro.injEq, EV.exc.injEq, PyData.int.injEq, PyData.str.injEq, PyData.bool.injEq, PyData.list.injEq, PyData.tuple.injEq, and_true, true_and, and_assoc, map_int_inj, ] at eq0
  subst eq0
  exact hyp0
theorem ok_law_size (T : Top K mg) : DefAt P w K mg base "_law_size" 2 ["_law_state_here"] [] [] sp_law_size := by
  refine def_ok sp_law_size T.F_law_size sc_law_size T.m_law_size T.b_law_size (fun cdv A outer s H E hr tk pw => (dss_one (ds_ret (de_tup (da_cons (de_frz (de_op opA_add os_add de_int (de_call (ok_law_next T) hr (by decide) (by rfl) tk (fun _ _ => .nil) (da_cons (de_cell (dv 0)) (da_cons de_int da_nil))))) (da_cons (de_frz (de_op opA_add os_add de_int (de_call (ok_law_next T) hr (by decide) (by rfl) tk (fun _ _ => .nil) (da_cons (de_cell (dv 0)) (da_cons de_int da_nil))))) da_nil)))))) ?_
  rintro es μ q x - ⟨n, rfl, hs, k⟩
  have hn := hs.lt
  walk_at "run"
  intro a a0 a1 b b0 b1
  have := k (3 + a).toNat (3 + b).toNat (by omega) (by omega) (by omega) (by omega)
  unfold szD at this
  rwa [Int.toNat_of_nonneg (by omega), Int.toNat_of_nonneg (by omega)] at this

local macro_rules | `(tactic| walk_at "dx") => `(tactic| simp (disch := first | assumption | omega) only [↓e_joined, ↓e_moved, ↓e_common, ↓e_without, ↓ix_sz, ↓gTp_pt, ↓enumK_sh, ↓e_places, ↓e_count, ↓e_nothing, ↓e_has, ↓e_spread, ↓e_is_number, ↓isNum_i, ↓isNum_b, ↓isNum_n, ↓isNum_s, ↓isNum_l, ↓isNum_t, ↓e_is_place, ↓e_sheet_of, ↓e_sheet_of1, sh_eqv, sh_nod, sh_dmin, ↓e_flood, ↓e_grown, ↓e_turned_sheet, ↓e_mirrored, ↓e_law_floor, ↓e_law_sheet, ↓seqDK_pt, ↓gTp_pt, ↓kvT_pt, ↓ix_sz, ↓e_law_same, ↓e_law_size, ↓dVar_0, ↓dVar_1, ↓dVar_2, ↓dVar_3, ↓dVar_4, ↓dVar_5, ↓dVar_6, ↓dVar_7, ↓dVar_8, ↓dVar_9, ↓dVar_10, ↓dVar_11, ↓dVar_12, ↓dVar_13, ↓dVar_14, ↓dVar_15, ↓old_dat, ↓old_loc, ↓old_raw, ↓old_exc, ↓old_ro, ↓wDs_nil, ↓wDs_cons, ↓x_dC, ↓x_dRaw, ↓x_dFrz, ↓x_dCell, ↓x_dStl, ↓x_aNil, ↓x_aCons, ↓x_dLst, ↓x_dTup, ↓x_tVal, ↓x_tAndD, ↓x_tOrD, ↓x_tNotD, ↓x_tYesD, ↓x_dAndV, ↓x_dOrV, ↓x_dNotV, ↓x_dIfE, ↓x_dOp, ↓x_dUn, ↓x_dCB, ↓x_dChain, ↓intK_i, ↓x_oNo, ↓x_oSome, ↓x_dSl, ↓x_gNm, ↓x_gNl0, ↓x_gCn, ↓x_gTp, ↓x_gSb, ↓x_dCall, ↓seqK_tup, ↓seqK_lst, ↓seqK_new, ↓seqK_ro, ↓seqK_str, ↓rng1_i, ↓rng2_i, ↓x_iSeq, ↓x_iRange1, ↓x_iRange2, ↓x_dBM, ↓x_dBM0, ↓x_isStr, ↓bools_k, ↓ints_k, ↓strs_k, ↓lstK_lst, ↓lstK_new, ↓sqK_lst, ↓sqK_new, ↓sqK_tup, ↓sqK_ro, ↓x_oAll, ↓x_oSum, ↓x_oJoin, ↓x_oList, ↓x_oTuple, ↓x_oIsN, ↓x_oNotN, ↓x_lc, ↓int_i, ↓int_b, ↓mem_l, ↓mem_t, ↓mem_n, ↓x_srtS, ↓mul_ni, ↓mul_li, ↓wD_dat, ↓wD_new, ↓wB_b, ↓nN_dat, ↓nN_loc, ↓nN_raw, ↓nN_ro, ↓nN_exc, ↓aO_nil, ↓aO_cons, ↓stl_dat, ↓stl_new, ↓stl_loc, ↓stl_raw, ↓stl_ro, ↓stl_exc, ↓cel_dat, ↓cel_new, ↓cel_loc, ↓cel_raw, ↓cel_ro, ↓add_int, ↓add_strD, ↓add_tup, ↓add_ll, ↓add_ln, ↓add_nl, ↓add_nn, ↓oI_ii, ↓oI0_ii, ↓neg_i, ↓inv_i, ↓mul_int, ↓eq_dd, ↓ne_dd, ↓eq_nd, ↓ne_nd, ↓eq_dn, ↓ne_dn, ↓eq_nn, ↓ne_nn, ↓sign_ss, ↓ix_s, ↓ix_tupD, ↓ix_lstD, ↓ix_new, ↓ix_ro, ↓sl_s, ↓sl_tupD, ↓sl_lstD, ↓sl_new, ↓sl_ro, ↓len_str, ↓len_tup, ↓len_lst, ↓len_new, ↓len_ro, ↓max_ii, ↓min_ii, ↓isi_int, ↓isi_bool, ↓isi_str, ↓isi_list, ↓isi_tuple, ↓isi_dict, ↓exitQ_dat, ↓exitQ_new, ↓exitQ_raw, ↓cl_nil, ↓cl_none, ↓cl_dat, ↓cl_ro, ↓cl_raw, ↓cl_odat, ↓dVar_16, ↓dVar_17, ↓dVar_18, ↓dVar_19, ↓dVar_20, ↓dVar_21, ↓dVar_22, ↓dVar_23, ↓dVar_24, ↓dVar_25, ↓dVar_26, ↓dVar_27, ↓dVar_28, ↓dVar_29, ↓dVar_30, ↓dVar_31, ↓dVar_32, ↓dVar_33, ↓dVar_34, ↓dVar_35, ↓noD_n, ↓noD_b, ↓noD_i, ↓noD_s, ↓noD_l, ↓noD_t, ↓noDs_nil, ↓noDs_cons, ↓noDs_app, ↓noDs_i, ↓noDs_s, ↓noDs_b, ↓exC_k, ↓isIntD_none, ↓isIntD_bool, ↓isIntD_int, ↓isIntD_str, ↓isIntD_list, ↓isIntD_tuple, ↓isIntD_dict, ↓isBoolD_none, ↓isBoolD_bool, ↓isBoolD_int, ↓isBoolD_str, ↓isBoolD_list, ↓isBoolD_tuple, ↓isBoolD_dict, ↓isStrD_none, ↓isStrD_bool, ↓isStrD_int, ↓isStrD_str, ↓isStrD_list, ↓isStrD_tuple, ↓isStrD_dict, ↓isListD_none, ↓isListD_bool, ↓isListD_int, ↓isListD_str, ↓isListD_list, ↓isListD_tuple, ↓isListD_dict, ↓isTupD_none, ↓isTupD_bool, ↓isTupD_int, ↓isTupD_str, ↓isTupD_list, ↓isTupD_tuple, ↓isTupD_dict, ↓isDictD_none, ↓isDictD_bool, ↓isDictD_int, ↓isDictD_str, ↓isDictD_list, ↓isDictD_tuple, ↓isDictD_dict, ↓neg_i2, ↓inv_i2, ↓x_iSeqD, ↓seqDK_d, ↓seqDK_t, ↓seqDK_l, ↓seqDK_s, ↓seqDK_n, ↓seqDK_r, ↓seqDK_c, ↓x_iZipD, ↓zipK_t, ↓zipK_l, ↓x_dNewD, ↓lcD_d, ↓keysK_nil, ↓keysK_i, ↓keysK_s, ↓keysP_nil, ↓keysP_i, ↓keysP_s, ↓c_setD, ↓memA_dict, ↓memA_l, ↓memA_t, ↓memA_n, ↓c_memA, ↓memC_d, ↓memC_l, ↓memC_f, ↓cell_nd, ↓cell_nk, ↓stl_nd, ↓stl_nk, ↓ex_nd, ↓ex_nk, ↓x_dCellA, ↓cellA_new, ↓nextA_eq, ↓stateA_eq, ↓cellA_eq, ↓fg_nil, ↓fg_cons, ↓lcR_l, ↓lcR_f, ↓lcK_l, ↓c_len, ↓c_ix, ↓c_ixC, ↓c_app, ↓c_set, ↓c_isL, ↓c_lstK, ↓c_sqK, ↓c_mem, ↓c_addn, ↓c_addl, ↓c_sl, ↓c_seqK, ↓seqC_l, ↓seqC_f, ↓c_wD, ↓wdC_l, ↓wdC_f, ↓exC_l, ↓exC_f, ↓exC_d, ↓cellK_new, ↓cellK_dat, ↓cellK_loc, ↓get_a0, ↓get_a1, ↓get_a2, ↓get_a3, ↓set_a0, ↓set_a1, ↓set_a2, ↓set_a3, ↓lnD_str, ↓lnD_tup, ↓lnD_lst, ↓lnD_new, ↓lnD_ro, ↓lnD_d, ↓c_lenD, ↓lnC_d, ↓lnC_k, ↓lnC_l, ↓lnC_f, ↓eq_cN, ↓eq_cD, ↓eq_Nc, ↓eq_Dc, ↓ne_cN, ↓ne_cD, ↓ne_Nc, ↓ne_Dc, ↓x_iEnumD, ↓enumK_t, ↓enumK_l, ↓enumK_r, ↓enumK_tk, ↓enumK_lk, ↓srt_d, ↓srt_l, ↓srt_n, ↓c_srt, ↓srtC_l, ↓srtC_f, ↓srtC_d, ↓lsA_t, ↓lsA_l, ↓lsA_n, ↓lsA_r, ↓c_lsA, ↓c_isi_list, ↓c_isi_dict, ↓c_isi_tuple, ↓isiB_l, ↓isiB_f, ↓isiB_d, ↓isiB_k, ↓isi_n_list, ↓isi_n_tuple, ↓x_dListIt, ↓litK_d, ↓augK_s, ↓iadd_ii, ↓c_iaddn, ↓c_iaddl, ↓abs_i, ↓x_dRevL, ↓revK_n, ↓revK_l, ↓cnt_n, ↓cnt_l, ↓idx_l, ↓isLst_l, ↓isLst_n, ↓c_pop, ↓c_popD, ↓c_isD, ↓lcD2_d, ↓lcD2_k, ↓tk_0, ↓tk_a0, ↓tk_a1, ↓tk_a2, ↓tk_a3, ↓tk_a4, dVar_0, dVar_1, dVar_2, dVar_3, dVar_4, dVar_5, dVar_6, dVar_7, dVar_8, dVar_9, dVar_10, dVar_11, dVar_12, dVar_13, dVar_14, dVar_15, old_dat, old_loc, old_raw, old_exc, old_ro, wDs_nil, wDs_cons, x_dC, x_dRaw, x_dFrz, x_dCell, x_dStl, x_aNil, x_aCons, x_dLst, x_dTup, x_tVal, x_tAndD, x_tOrD, x_tNotD, x_tYesD, x_dAndV, x_dOrV, x_dNotV, x_dIfE, x_dOp, x_dUn, x_dCB, x_dChain, intK_i, x_oNo, x_oSome, x_dSl, x_gNm, x_gNl0, x_gCn, x_gTp, x_gSb, x_dCall, seqK_tup, seqK_lst, seqK_new, seqK_ro, seqK_str, rng1_i, rng2_i, x_iSeq, x_iRange1, x_iRange2, x_dBM, x_dBM0, x_isStr, bools_k, ints_k, strs_k, lstK_lst, lstK_new, sqK_lst, sqK_new, sqK_tup, sqK_ro, x_oAll, x_oSum, x_oJoin, x_oList, x_oTuple, x_oIsN, x_oNotN, x_lc, int_i, int_b, mem_l, mem_t, mem_n, x_srtS, mul_ni, mul_li, wD_dat, wD_new, wB_b, nN_dat, nN_loc, nN_raw, nN_ro, nN_exc, aO_nil, aO_cons, stl_dat, stl_new, stl_loc, stl_raw, stl_ro, stl_exc, cel_dat, cel_new, cel_loc, cel_raw, cel_ro, add_int, add_strD, add_tup, add_ll, add_ln, add_nl, add_nn, oI_ii, oI0_ii, neg_i, inv_i, mul_int, eq_dd, ne_dd, eq_nd, ne_nd, eq_dn, ne_dn, eq_nn, ne_nn, sign_ss, ix_s, ix_tupD, ix_lstD, ix_new, ix_ro, sl_s, sl_tupD, sl_lstD, sl_new, sl_ro, len_str, len_tup, len_lst, len_new, len_ro, max_ii, min_ii, isi_int, isi_bool, isi_str, isi_list, isi_tuple, isi_dict, exitQ_dat, exitQ_new, exitQ_raw, cl_nil, cl_none, cl_dat, cl_ro, cl_raw, cl_odat, dVar_16, dVar_17, dVar_18, dVar_19, dVar_20, dVar_21, dVar_22, dVar_23, dVar_24, dVar_25, dVar_26, dVar_27, dVar_28, dVar_29, dVar_30, dVar_31, dVar_32, dVar_33, dVar_34, dVar_35, noD_n, noD_b, noD_i, noD_s, noD_l, noD_t, noDs_nil, noDs_cons, noDs_app, noDs_i, noDs_s, noDs_b, exC_k, isIntD_none, isIntD_bool, isIntD_int, isIntD_str, isIntD_list, isIntD_tuple, isIntD_dict, isBoolD_none, isBoolD_bool, isBoolD_int, isBoolD_str, isBoolD_list, isBoolD_tuple, isBoolD_dict, isStrD_none, isStrD_bool, isStrD_int, isStrD_str, isStrD_list, isStrD_tuple, isStrD_dict, isListD_none, isListD_bool, isListD_int, isListD_str, isListD_list, isListD_tuple, isListD_dict, isTupD_none, isTupD_bool, isTupD_int, isTupD_str, isTupD_list, isTupD_tuple, isTupD_dict, isDictD_none, isDictD_bool, isDictD_int, isDictD_str, isDictD_list, isDictD_tuple, isDictD_dict, neg_i2, inv_i2, x_iSeqD, seqDK_d, seqDK_t, seqDK_l, seqDK_s, seqDK_n, seqDK_r, seqDK_c, x_iZipD, zipK_t, zipK_l, x_dNewD, lcD_d, keysK_nil, keysK_i, keysK_s, keysP_nil, keysP_i, keysP_s, c_setD, memA_dict, memA_l, memA_t, memA_n, c_memA, memC_d, memC_l, memC_f, cell_nd, cell_nk, stl_nd, stl_nk, ex_nd, ex_nk, x_dCellA, cellA_new, nextA_eq, stateA_eq, cellA_eq, fg_nil, fg_cons, lcR_l, lcR_f, lcK_l, c_len, c_ix, c_ixC, c_app, c_set, c_isL, c_lstK, c_sqK, c_mem, c_addn, c_addl, c_sl, c_seqK, seqC_l, seqC_f, c_wD, wdC_l, wdC_f, exC_l, exC_f, exC_d, cellK_new, cellK_dat, cellK_loc, get_a0, get_a1, get_a2, get_a3, set_a0, set_a1, set_a2, set_a3, lnD_str, lnD_tup, lnD_lst, lnD_new, lnD_ro, lnD_d, c_lenD, lnC_d, lnC_k, lnC_l, lnC_f, eq_cN, eq_cD, eq_Nc, eq_Dc, ne_cN, ne_cD, ne_Nc, ne_Dc, x_iEnumD, enumK_t, enumK_l, enumK_r, enumK_tk, enumK_lk, srt_d, srt_l, srt_n, c_srt, srtC_l, srtC_f, srtC_d, lsA_t, lsA_l, lsA_n, lsA_r, c_lsA, c_isi_list, c_isi_dict, c_isi_tuple, isiB_l, isiB_f, isiB_d, isiB_k, isi_n_list, isi_n_tuple, x_dListIt, litK_d, augK_s, iadd_ii, c_iaddn, c_iaddl, abs_i, x_dRevL, revK_n, revK_l, cnt_n, cnt_l, idx_l, isLst_l, isLst_n, c_pop, c_popD, c_isD, lcD2_d, lcD2_k, tk_0, tk_a0, tk_a1, tk_a2, tk_a3, tk_a4, isR_h, isR_app, isR_last, exitQ_ge, exitQ_lt, cl_loc, nle_h, nlt_h, ile_h, ilt_h, cmul_l, cmul_r, cdiv_h, cpow_h, csh_h, csh_0, oLt, oLe, oGt, oGe, oSub, oMod, oDiv, oPow, oShl, oShr, oAnd, oOr, oXor, isRaw, isNon, startD, List.length_map, decide_eq_true_eq, List.map_cons, List.map_nil, List.length_cons, List.length_nil, List.cons_append, List.nil_append, List.append_nil, List.replicate, List.getElem?_cons_zero, List.getElem?_cons_succ, List.set_cons_zero, List.set_cons_succ, List.take_length, true_and, and_true, eqv_int, eqv_bool, eqv_str, dep_int, dep_bool, dep_str, dep_none, min0l, min0r, Option.map_some, Option.map_none, if_true, if_false, Bool.and_true, Bool.true_and, Bool.false_eq_true, Bool.not_true, Bool.not_false, reduceIte, wipeD, List.append_assoc, at_nn, Option.some.injEq, exists_eq_left, exists_eq_left', Int.reduceToNat, Int.reduceLE, Int.reduceLT, List.length_set, Nat.reduceAdd, Nat.reduceLeDiff, Nat.reduceSub, dat_dat, dat_new, lst_lst, lst_new, seq_tup, seq_lst, seq_new, seq_ro, List.length_append, Nat.zero_add, eqv_tup, eqv_lst, eqvA_nn, eqvA_cc, eqvA_nc, eqvA_cn, dep_tup, dep_lst, depA_nil, depA_cons, Nat.max_zero, Nat.zero_max, Nat.lt_add_one, forall_const, oShlA, rng_c, Int.toNat_natCast, List.flatten_nil, decide_true, decide_false])
theorem nodup_ins {cs : List Pt} (h : cs.Nodup) (c : Pt) : (insC cs c).Nodup := by
  unfold insC
  split
  · exact h
  · rename_i hc
    rw [List.nodup_append]
    exact ⟨h, by simp, fun a ha b hb e => hc (by rw [List.mem_singleton] at hb; rw [← hb, ← e]; exact ha)⟩
def sp_law_cells : SpD := fun es μ q x => ∃ (n : Nat) (w : Nat) (h : Nat), es = [.loc n, .dat (szD w h)] ∧ (isR μ n ∧ w ≤ 20 ∧ h ≤ 20 ∧ ∀ cs : List Pt, (∀ c ∈ cs, inF w h c) → cs.length ≤ 400 → cs.Nodup → q (.newd (cs.map ptE)) μ)
theorem e_law_cells {n : Nat} {w : Nat} {h : Nat} {μ : Mu} {q : PQ} {x : XQ} : sp_law_cells [.loc n, .dat (szD w h)] μ q x = (isR μ n ∧ w ≤ 20 ∧ h ≤ 20 ∧ ∀ cs : List Pt, (∀ c ∈ cs, inF w h c) → cs.length ≤ 400 → cs.Nodup → q (.newd (cs.map ptE)) μ) := by
  refine propext ⟨fun hyp0 => ?_, fun hyp0 => ⟨n, w, h, rfl, hyp0⟩⟩
  obtain ⟨n', w', h', eq0, hyp0⟩ := hyp0
  simp only [List.cons.injEq, Exn.mk.injEq, EV.dat.injEq, EV.loc.injEq, EV.new.injEq, EV.ro.injEq, EV.exc.injEq, PyData.int.injEq, PyData.str.injEq, PyData.bool.injEq, PyData.list.injEq, PyData.tuple.injEq, and_true, true_and, and_assoc, map_int_inj, szD_inj] at eq0
  obtain ⟨rfl, rfl, rfl⟩ := eq0
  exact hyp0
theorem ok_law_cells (T : Top K mg) : DefAt P w K mg base "_law_cells" 2 ["_law_state_here", "_law_size_here"] [] [] sp_law_cells := by
  refine def_ok sp_law_cells T.F_law_cells sc_law_cells T.m_law_cells T.b_law_cells (fun cdv A outer s H E hr tk pw => (dss_cons (ds_set (i := 2) sc_law_cells.nd rfl (by first | exact Or.inl rfl | exact Or.inr rfl) (de_stl (de_call (ok_law_next T) hr (by decide) (by rfl) tk (fun _ _ => .nil) (da_cons (de_cell (dv 0)) (da_cons de_int da_nil)))))
    (dss_cons (ds_set (i := 3) sc_law_cells.nd rfl (by first | exact Or.inl rfl | exact Or.inr rfl) (de_stl (de_ix ix_seq os_ix (de_lst (da_cons de_int (da_cons de_int (da_cons de_int (da_cons de_int (da_cons de_int (da_cons de_int da_nil))))))) (dv 2) (fun _ _ => rfl))))
    (dss_cons (ds_set (i := 4) sc_law_cells.nd rfl (by first | exact Or.inl rfl | exact Or.inr rfl) (de_cell de_dnewT))
    (dss_cons (ds_forF [5, 6] pw rfl (di_seqD (de_call (ok_law_floor T) hr (by decide) (by rfl) tk (fun _ _ => .nil) (da_cons (de_stl (dv 1)) da_nil))) (dg_tup (n := 2) rfl (dgs_cons (dg_name (i := 5) sc_law_cells.nd rfl (by first | exact Or.inl rfl | exact Or.inr rfl)) (dgs_cons (dg_name (i := 6) sc_law_cells.nd rfl (by first | exact Or.inl rfl | exact Or.inr rfl)) dgs_nil))) (dss_one (ds_if (dw_or (dt_cmp (opA_eq hr.units) os_eq (de_call (ok_law_next T) hr (by decide) (by rfl) tk (fun _ _ => .nil) (da_cons (de_cell (dv 0)) (da_cons (de_stl (dv 3)) da_nil))) de_int (nomark _)) (dw_or1 (dw_and (dt_cmp (opA_eq hr.units) os_eq (dv 2) de_int (nomark _)) (dw_and1 (dw_or (dt_cmp (opA_in hr.units) os_memA (dv 5) (de_tup (da_cons de_int (da_cons (de_frz (de_op op_sub os_sub (de_ix ix_seq os_ix (dv 1) de_int (fun _ _ => rfl)) de_int)) da_nil))) (by rfl)) (dw_or1 (dt_cmp (opA_in hr.units) os_memA (dv 6) (de_tup (da_cons de_int (da_cons (de_frz (de_op op_sub os_sub (de_ix ix_seq os_ix (dv 1) de_int (fun _ _ => rfl)) de_int)) da_nil))) (by rfl)))).dt)).dt)).dt (dss_one (ds_asg de_bl (dg_sub (W := WF) (dv 4) (de_tup (da_cons (de_frz (dv 5)) (da_cons (de_frz (dv 6)) da_nil))) (set_dictU hr.units) ss_dict))) dss_nil)))
    (dss_one (ds_ret (dv 4)))))))) ?_
  rintro es μ q x - ⟨n, w, h, rfl, hs, hw, hh, k⟩
  have hn := hs.lt
  have hfl := flr_le (a := 20) (b := 20) hw hh
  walk_at "run"
  intro r r0 r1
  walk_at "run"
  refine pick_at r0 (by simpa using r1) ?_
  intro d hd
  obtain ⟨m, rfl, m0, m5⟩ : ∃ m : Int, d = .int m ∧ 1 ≤ m ∧ m ≤ 9 := by
    simp only [List.mem_cons, List.not_mem_nil, or_false] at hd
    rcases hd with rfl | rfl | rfl | rfl | rfl | rfl
    all_goals exact ⟨_, rfl, by omega, by omega⟩
  walk_at "run"
  refine for_stD (fun i (cs : List Pt) => cs.length ≤ i ∧ (∀ c ∈ cs, inF w h c) ∧ cs.Nodup) (fun η _ => η) (fun _ cs => μ ++ [.dct (cs.map ptE)]) [] rfl rfl ⟨Nat.le_refl _, by simp, by simp⟩ (fun _ => trivial) ?_ ?_
  · rintro i c cs J hi ⟨hl, hin, hnd⟩ hJ
    have hc := mem_flr.mp (List.mem_of_getElem? hi)
    have hi' := get_lt hi
    walk_at "run"
    intro r2 a0 a1
    have no : _ := hJ cs ⟨by omega, hin, hnd⟩
    have yes : _ := hJ (insC cs (c.1, c.2)) ⟨Nat.le_trans (len_ins _ _) (by omega), fun x hx => (mem_ins.mp hx).elim (hin x) fun e => e ▸ hc, nodup_ins hnd _⟩
    simp only [fg_cons, fg_nil, List.set_cons_succ, List.set_cons_zero] at no yes
    repeat' split
    all_goals
      first
      | exact no
      | (walk_at "run"
         (try walk_at "ok")
         rw [put_pt]
         exact yes)
  · rintro cs ⟨hl, hin, hnd⟩
    walk_at "run"
    exact k cs hin (by omega) hnd
local macro_rules | `(tactic| walk_at "dx") => `(tactic| simp (disch := first | assumption | omega) only [↓e_joined, ↓e_moved, ↓e_common, ↓e_without, ↓ix_sz, ↓gTp_pt, ↓enumK_sh, ↓e_places, ↓e_count, ↓e_nothing, ↓e_has, ↓e_spread, ↓e_is_number, ↓isNum_i, ↓isNum_b, ↓isNum_n, ↓isNum_s, ↓isNum_l, ↓isNum_t, ↓e_is_place, ↓e_sheet_of, ↓e_sheet_of1, sh_eqv, sh_nod, sh_dmin, ↓e_flood, ↓e_grown, ↓e_turned_sheet, ↓e_mirrored, ↓e_law_floor, ↓e_law_sheet, ↓seqDK_pt, ↓gTp_pt, ↓kvT_pt, ↓ix_sz, ↓e_law_same, ↓e_law_size, ↓e_law_cells, ↓dVar_0, ↓dVar_1, ↓dVar_2, ↓dVar_3, ↓dVar_4, ↓dVar_5, ↓dVar_6, ↓dVar_7, ↓dVar_8, ↓dVar_9, ↓dVar_10, ↓dVar_11, ↓dVar_12, ↓dVar_13, ↓dVar_14, ↓dVar_15, ↓old_dat, ↓old_loc, ↓old_raw, ↓old_exc, ↓old_ro, ↓wDs_nil, ↓wDs_cons, ↓x_dC, ↓x_dRaw, ↓x_dFrz, ↓x_dCell, ↓x_dStl, ↓x_aNil, ↓x_aCons, ↓x_dLst, ↓x_dTup, ↓x_tVal, ↓x_tAndD, ↓x_tOrD, ↓x_tNotD, ↓x_tYesD, ↓x_dAndV, ↓x_dOrV, ↓x_dNotV, ↓x_dIfE, ↓x_dOp, ↓x_dUn, ↓x_dCB, ↓x_dChain, ↓intK_i, ↓x_oNo, ↓x_oSome, ↓x_dSl, ↓x_gNm, ↓x_gNl0, ↓x_gCn, ↓x_gTp, ↓x_gSb, ↓x_dCall, ↓seqK_tup, ↓seqK_lst, ↓seqK_new, ↓seqK_ro, ↓seqK_str, ↓rng1_i, ↓rng2_i, ↓x_iSeq, ↓x_iRange1, ↓x_iRange2, ↓x_dBM, ↓x_dBM0, ↓x_isStr, ↓bools_k, ↓ints_k, ↓strs_k, ↓lstK_lst, ↓lstK_new, ↓sqK_lst, ↓sqK_new, ↓sqK_tup, ↓sqK_ro, ↓x_oAll, ↓x_oSum, ↓x_oJoin, ↓x_oList, ↓x_oTuple, ↓x_oIsN, ↓x_oNotN, ↓x_lc, ↓int_i, ↓int_b, ↓mem_l, ↓mem_t, ↓mem_n, ↓x_srtS, ↓mul_ni, ↓mul_li, ↓wD_dat, ↓wD_new, ↓wB_b, ↓nN_dat, ↓nN_loc, ↓nN_raw, ↓nN_ro, ↓nN_exc, ↓aO_nil, ↓aO_cons, ↓stl_dat, ↓stl_new, ↓stl_loc, ↓stl_raw, ↓stl_ro, ↓stl_exc, ↓cel_dat, ↓cel_new, ↓cel_loc, ↓cel_raw, ↓cel_ro, ↓add_int, ↓add_strD, ↓add_tup, ↓add_ll, ↓add_ln, ↓add_nl, ↓add_nn, ↓oI_ii, ↓oI0_ii, ↓neg_i, ↓inv_i, ↓mul_int, ↓eq_dd, ↓ne_dd, ↓eq_nd, ↓ne_nd, ↓eq_dn, ↓ne_dn, ↓eq_nn, ↓ne_nn, ↓sign_ss, ↓ix_s, ↓ix_tupD, ↓ix_lstD, ↓ix_new, ↓ix_ro, ↓sl_s, ↓sl_tupD, ↓sl_lstD, ↓sl_new, ↓sl_ro, ↓len_str, ↓len_tup, ↓len_lst, ↓len_new, ↓len_ro, ↓max_ii, ↓min_ii, ↓isi_int, ↓isi_bool, ↓isi_str, ↓isi_list, ↓isi_tuple, ↓isi_dict, ↓exitQ_dat, ↓exitQ_new, ↓exitQ_raw, ↓cl_nil, ↓cl_none, ↓cl_dat, ↓cl_ro, ↓cl_raw, ↓cl_odat, ↓dVar_16, ↓dVar_17, ↓dVar_18, ↓dVar_19, ↓dVar_20, ↓dVar_21, ↓dVar_22, ↓dVar_23, ↓dVar_24, ↓dVar_25, ↓dVar_26, ↓dVar_27, ↓dVar_28, ↓dVar_29, ↓dVar_30, ↓dVar_31, ↓dVar_32, ↓dVar_33, ↓dVar_34, ↓dVar_35, ↓noD_n, ↓noD_b, ↓noD_i, ↓noD_s, ↓noD_l, ↓noD_t, ↓noDs_nil, ↓noDs_cons, ↓noDs_app, ↓noDs_i, ↓noDs_s, ↓noDs_b, ↓exC_k, ↓isIntD_none, ↓isIntD_bool, ↓isIntD_int, ↓isIntD_str, ↓isIntD_list, ↓isIntD_tuple, ↓isIntD_dict, ↓isBoolD_none, ↓isBoolD_bool, ↓isBoolD_int, ↓isBoolD_str, ↓isBoolD_list, ↓isBoolD_tuple, ↓isBoolD_dict, ↓isStrD_none, ↓isStrD_bool, ↓isStrD_int, ↓isStrD_str, ↓isStrD_list, ↓isStrD_tuple, ↓isStrD_dict, ↓isListD_none, ↓isListD_bool, ↓isListD_int, ↓isListD_str, ↓isListD_list, ↓isListD_tuple, ↓isListD_dict, ↓isTupD_none, ↓isTupD_bool, ↓isTupD_int, ↓isTupD_str, ↓isTupD_list, ↓isTupD_tuple, ↓isTupD_dict, ↓isDictD_none, ↓isDictD_bool, ↓isDictD_int, ↓isDictD_str, ↓isDictD_list, ↓isDictD_tuple, ↓isDictD_dict, ↓neg_i2, ↓inv_i2, ↓x_iSeqD, ↓seqDK_d, ↓seqDK_t, ↓seqDK_l, ↓seqDK_s, ↓seqDK_n, ↓seqDK_r, ↓seqDK_c, ↓x_iZipD, ↓zipK_t, ↓zipK_l, ↓x_dNewD, ↓lcD_d, ↓keysK_nil, ↓keysK_i, ↓keysK_s, ↓keysP_nil, ↓keysP_i, ↓keysP_s, ↓c_setD, ↓memA_dict, ↓memA_l, ↓memA_t, ↓memA_n, ↓c_memA, ↓memC_d, ↓memC_l, ↓memC_f, ↓cell_nd, ↓cell_nk, ↓stl_nd, ↓stl_nk, ↓ex_nd, ↓ex_nk, ↓x_dCellA, ↓cellA_new, ↓nextA_eq, ↓stateA_eq, ↓cellA_eq, ↓fg_nil, ↓fg_cons, ↓lcR_l, ↓lcR_f, ↓lcK_l, ↓c_len, ↓c_ix, ↓c_ixC, ↓c_app, ↓c_set, ↓c_isL, ↓c_lstK, ↓c_sqK, ↓c_mem, ↓c_addn, ↓c_addl, ↓c_sl, ↓c_seqK, ↓seqC_l, ↓seqC_f, ↓c_wD, ↓wdC_l, ↓wdC_f, ↓exC_l, ↓exC_f, ↓exC_d, ↓cellK_new, ↓cellK_dat, ↓cellK_loc, ↓get_a0, ↓get_a1, ↓get_a2, ↓get_a3, ↓set_a0, ↓set_a1, ↓set_a2, ↓set_a3, ↓lnD_str, ↓lnD_tup, ↓lnD_lst, ↓lnD_new, ↓lnD_ro, ↓lnD_d, ↓c_lenD, ↓lnC_d, ↓lnC_k, ↓lnC_l, ↓lnC_f, ↓eq_cN, ↓eq_cD, ↓eq_Nc, ↓eq_Dc, ↓ne_cN, ↓ne_cD, ↓ne_Nc, ↓ne_Dc, ↓x_iEnumD, ↓enumK_t, ↓enumK_l, ↓enumK_r, ↓enumK_tk, ↓enumK_lk, ↓srt_d, ↓srt_l, ↓srt_n, ↓c_srt, ↓srtC_l, ↓srtC_f, ↓srtC_d, ↓lsA_t, ↓lsA_l, ↓lsA_n, ↓lsA_r, ↓c_lsA, ↓c_isi_list, ↓c_isi_dict, ↓c_isi_tuple, ↓isiB_l, ↓isiB_f, ↓isiB_d, ↓isiB_k, ↓isi_n_list, ↓isi_n_tuple, ↓x_dListIt, ↓litK_d, ↓augK_s, ↓iadd_ii, ↓c_iaddn, ↓c_iaddl, ↓abs_i, ↓x_dRevL, ↓revK_n, ↓revK_l, ↓cnt_n, ↓cnt_l, ↓idx_l, ↓isLst_l, ↓isLst_n, ↓c_pop, ↓c_popD, ↓c_isD, ↓lcD2_d, ↓lcD2_k, ↓tk_0, ↓tk_a0, ↓tk_a1, ↓tk_a2, ↓tk_a3, ↓tk_a4, dVar_0, dVar_1, dVar_2, dVar_3, dVar_4, dVar_5, dVar_6, dVar_7, dVar_8, dVar_9, dVar_10, dVar_11, dVar_12, dVar_13, dVar_14, dVar_15, old_dat, old_loc, old_raw, old_exc, old_ro, wDs_nil, wDs_cons, x_dC, x_dRaw, x_dFrz, x_dCell, x_dStl, x_aNil, x_aCons, x_dLst, x_dTup, x_tVal, x_tAndD, x_tOrD, x_tNotD, x_tYesD, x_dAndV, x_dOrV, x_dNotV, x_dIfE, x_dOp, x_dUn, x_dCB, x_dChain, intK_i, x_oNo, x_oSome, x_dSl, x_gNm, x_gNl0, x_gCn, x_gTp, x_gSb, x_dCall, seqK_tup, seqK_lst, seqK_new, seqK_ro, seqK_str, rng1_i, rng2_i, x_iSeq, x_iRange1, x_iRange2, x_dBM, x_dBM0, x_isStr, bools_k, ints_k, strs_k, lstK_lst, lstK_new, sqK_lst, sqK_new, sqK_tup, sqK_ro, x_oAll, x_oSum, x_oJoin, x_oList, x_oTuple, x_oIsN, x_oNotN, x_lc, int_i, int_b, mem_l, mem_t, mem_n, x_srtS, mul_ni, mul_li, wD_dat, wD_new, wB_b, nN_dat, nN_loc, nN_raw, nN_ro, nN_exc, aO_nil, aO_cons, stl_dat, stl_new, stl_loc, stl_raw, stl_ro, stl_exc, cel_dat, cel_new, cel_loc, cel_raw, cel_ro, add_int, add_strD, add_tup, add_ll, add_ln, add_nl, add_nn, oI_ii, oI0_ii, neg_i, inv_i, mul_int, eq_dd, ne_dd, eq_nd, ne_nd, eq_dn, ne_dn, eq_nn, ne_nn, sign_ss, ix_s, ix_tupD, ix_lstD, ix_new, ix_ro, sl_s, sl_tupD, sl_lstD, sl_new, sl_ro, len_str, len_tup, len_lst, len_new, len_ro, max_ii, min_ii, isi_int, isi_bool, isi_str, isi_list, isi_tuple, isi_dict, exitQ_dat, exitQ_new, exitQ_raw, cl_nil, cl_none, cl_dat, cl_ro, cl_raw, cl_odat, dVar_16, dVar_17, dVar_18, dVar_19, dVar_20, dVar_21, dVar_22, dVar_23, dVar_24, dVar_25, dVar_26, dVar_27, dVar_28, dVar_29, dVar_30, dVar_31, dVar_32, dVar_33, dVar_34, dVar_35, noD_n, noD_b, noD_i, noD_s, noD_l, noD_t, noDs_nil, noDs_cons, noDs_app, noDs_i, noDs_s, noDs_b, exC_k, isIntD_none, isIntD_bool, isIntD_int, isIntD_str, isIntD_list, isIntD_tuple, isIntD_dict, isBoolD_none, isBoolD_bool, isBoolD_int, isBoolD_str, isBoolD_list, isBoolD_tuple, isBoolD_dict, isStrD_none, isStrD_bool, isStrD_int, isStrD_str, isStrD_list, isStrD_tuple, isStrD_dict, isListD_none, isListD_bool, isListD_int, isListD_str, isListD_list, isListD_tuple, isListD_dict, isTupD_none, isTupD_bool, isTupD_int, isTupD_str, isTupD_list, isTupD_tuple, isTupD_dict, isDictD_none, isDictD_bool, isDictD_int, isDictD_str, isDictD_list, isDictD_tuple, isDictD_dict, neg_i2, inv_i2, x_iSeqD, seqDK_d, seqDK_t, seqDK_l, seqDK_s, seqDK_n, seqDK_r, seqDK_c, x_iZipD, zipK_t, zipK_l, x_dNewD, lcD_d, keysK_nil, keysK_i, keysK_s, keysP_nil, keysP_i, keysP_s, c_setD, memA_dict, memA_l, memA_t, memA_n, c_memA, memC_d, memC_l, memC_f, cell_nd, cell_nk, stl_nd, stl_nk, ex_nd, ex_nk, x_dCellA, cellA_new, nextA_eq, stateA_eq, cellA_eq, fg_nil, fg_cons, lcR_l, lcR_f, lcK_l, c_len, c_ix, c_ixC, c_app, c_set, c_isL, c_lstK, c_sqK, c_mem, c_addn, c_addl, c_sl, c_seqK, seqC_l, seqC_f, c_wD, wdC_l, wdC_f, exC_l, exC_f, exC_d, cellK_new, cellK_dat, cellK_loc, get_a0, get_a1, get_a2, get_a3, set_a0, set_a1, set_a2, set_a3, lnD_str, lnD_tup, lnD_lst, lnD_new, lnD_ro, lnD_d, c_lenD, lnC_d, lnC_k, lnC_l, lnC_f, eq_cN, eq_cD, eq_Nc, eq_Dc, ne_cN, ne_cD, ne_Nc, ne_Dc, x_iEnumD, enumK_t, enumK_l, enumK_r, enumK_tk, enumK_lk, srt_d, srt_l, srt_n, c_srt, srtC_l, srtC_f, srtC_d, lsA_t, lsA_l, lsA_n, lsA_r, c_lsA, c_isi_list, c_isi_dict, c_isi_tuple, isiB_l, isiB_f, isiB_d, isiB_k, isi_n_list, isi_n_tuple, x_dListIt, litK_d, augK_s, iadd_ii, c_iaddn, c_iaddl, abs_i, x_dRevL, revK_n, revK_l, cnt_n, cnt_l, idx_l, isLst_l, isLst_n, c_pop, c_popD, c_isD, lcD2_d, lcD2_k, tk_0, tk_a0, tk_a1, tk_a2, tk_a3, tk_a4, isR_h, isR_app, isR_last, exitQ_ge, exitQ_lt, cl_loc, nle_h, nlt_h, ile_h, ilt_h, cmul_l, cmul_r, cdiv_h, cpow_h, csh_h, csh_0, oLt, oLe, oGt, oGe, oSub, oMod, oDiv, oPow, oShl, oShr, oAnd, oOr, oXor, isRaw, isNon, startD, List.length_map, decide_eq_true_eq, List.map_cons, List.map_nil, List.length_cons, List.length_nil, List.cons_append, List.nil_append, List.append_nil, List.replicate, List.getElem?_cons_zero, List.getElem?_cons_succ, List.set_cons_zero, List.set_cons_succ, List.take_length, true_and, and_true, eqv_int, eqv_bool, eqv_str, dep_int, dep_bool, dep_str, dep_none, min0l, min0r, Option.map_some, Option.map_none, if_true, if_false, Bool.and_true, Bool.true_and, Bool.false_eq_true, Bool.not_true, Bool.not_false, reduceIte, wipeD, List.append_assoc, at_nn, Option.some.injEq, exists_eq_left, exists_eq_left', Int.reduceToNat, Int.reduceLE, Int.reduceLT, List.length_set, Nat.reduceAdd, Nat.reduceLeDiff, Nat.reduceSub, dat_dat, dat_new, lst_lst, lst_new, seq_tup, seq_lst, seq_new, seq_ro, List.length_append, Nat.zero_add, eqv_tup, eqv_lst, eqvA_nn, eqvA_cc, eqvA_nc, eqvA_cn, dep_tup, dep_lst, depA_nil, depA_cons, Nat.max_zero, Nat.zero_max, Nat.lt_add_one, forall_const, oShlA, rng_c, Int.toNat_natCast, List.flatten_nil, decide_true, decide_false])

theorem getD_pt {cs : List Pt} {c : Pt} (h : c ∈ cs) : getD (cs.map ptE) [.inl c.1, .inl c.2] = some (.bool true) := by
  unfold getD
  induction cs with
  | nil => simp at h
  | cons a cs ih =>
    rw [List.map_cons, List.find?_cons]
    by_cases e : (ptE a).1 = [.inl c.1, .inl c.2]
    · rw [decide_eq_true e]
      rfl
    · rw [decide_eq_false e]
      refine ih ((List.mem_cons.mp h).resolve_left fun z => e ?_)
      subst z
      rfl
theorem dropD_pt (cs : List Pt) (c : Pt) : dropD (cs.map ptE) [.inl c.1, .inl c.2] = (cs.filter fun x => decide (x ≠ c)).map ptE := by
  unfold dropD
  rw [List.filter_map]
  congr 1
  refine List.filter_congr fun x _ => ?_
  simp only [Function.comp, ptE]
  refine decide_eq_decide.mpr ?_
  simp only [ne_eq, List.cons.injEq, Sum.inl.injEq, and_true]
  constructor
  · rintro h rfl
    exact h ⟨rfl, rfl⟩
  · rintro h ⟨h1, h2⟩
    exact h (Prod.ext h1 h2)
theorem hasKs_ptE (cs : List Pt) (x y : Int) : hasKs (kvT (cs.map ptE)) (.tuple [.int x, .int y]) = decide ((x, y) ∈ cs) := by
  have e : kvT (cs.map ptE) = cs.map fun c => (ptD c, PyData.bool true) := by
    simp only [kvT, List.map_map]
    rfl
  rw [e]
  exact hasKs_pt cs (x, y)
theorem memA_dct {neg : Bool} {x y : Int} {cs : List Pt} {μ : Mu} {q : PQ} : oMemA neg (.dat (.tuple [.int x, .int y])) (.dat (dctD cs)) μ q = q (.dat (.bool (if neg then !decide ((x, y) ∈ cs) else decide ((x, y) ∈ cs)))) μ := memA_plcs (.inl rfl) x y
local macro_rules | `(tactic| walk_at "dx") => `(tactic| simp (disch := first | assumption | omega) only [↓e_joined, ↓e_moved, ↓e_common, ↓e_without, ↓ix_sz, ↓gTp_pt, ↓enumK_sh, ↓e_places, ↓e_count, ↓e_nothing, ↓e_has, ↓e_spread, ↓e_is_number, ↓isNum_i, ↓isNum_b, ↓isNum_n, ↓isNum_s, ↓isNum_l, ↓isNum_t, ↓e_is_place, ↓e_sheet_of, ↓e_sheet_of1, sh_eqv, sh_nod, sh_dmin, ↓e_flood, ↓e_grown, ↓e_turned_sheet, ↓e_mirrored, ↓e_law_floor, ↓e_law_sheet, ↓seqDK_pt, ↓gTp_pt, ↓kvT_pt, ↓ix_sz, ↓e_law_same, ↓e_law_size, ↓e_law_cells, ↓memA_dct, hasKs_ptE, ↓dVar_0, ↓dVar_1, ↓dVar_2, ↓dVar_3, ↓dVar_4, ↓dVar_5, ↓dVar_6, ↓dVar_7, ↓dVar_8, ↓dVar_9, ↓dVar_10, ↓dVar_11, ↓dVar_12, ↓dVar_13, ↓dVar_14, ↓dVar_15, ↓old_dat, ↓old_loc, ↓old_raw, ↓old_exc, ↓old_ro, ↓wDs_nil, ↓wDs_cons, ↓x_dC, ↓x_dRaw, ↓x_dFrz, ↓x_dCell, ↓x_dStl, ↓x_aNil, ↓x_aCons, ↓x_dLst, ↓x_dTup, ↓x_tVal, ↓x_tAndD, ↓x_tOrD, ↓x_tNotD, ↓x_tYesD, ↓x_dAndV, ↓x_dOrV, ↓x_dNotV, ↓x_dIfE, ↓x_dOp, ↓x_dUn, ↓x_dCB, ↓x_dChain, ↓intK_i, ↓x_oNo, ↓x_oSome, ↓x_dSl, ↓x_gNm, ↓x_gNl0, ↓x_gCn, ↓x_gTp, ↓x_gSb, ↓x_dCall, ↓seqK_tup, ↓seqK_lst, ↓seqK_new, ↓seqK_ro, ↓seqK_str, ↓rng1_i, ↓rng2_i, ↓x_iSeq, ↓x_iRange1, ↓x_iRange2, ↓x_dBM, ↓x_dBM0, ↓x_isStr, ↓bools_k, ↓ints_k, ↓strs_k, ↓lstK_lst, ↓lstK_new, ↓sqK_lst, ↓sqK_new, ↓sqK_tup, ↓sqK_ro, ↓x_oAll, ↓x_oSum, ↓x_oJoin, ↓x_oList, ↓x_oTuple, ↓x_oIsN, ↓x_oNotN, ↓x_lc, ↓int_i, ↓int_b, ↓mem_l, ↓mem_t, ↓mem_n, ↓x_srtS, ↓mul_ni, ↓mul_li, ↓wD_dat, ↓wD_new, ↓wB_b, ↓nN_dat, ↓nN_loc, ↓nN_raw, ↓nN_ro, ↓nN_exc, ↓aO_nil, ↓aO_cons, ↓stl_dat, ↓stl_new, ↓stl_loc, ↓stl_raw, ↓stl_ro, ↓stl_exc, ↓cel_dat, ↓cel_new, ↓cel_loc, ↓cel_raw, ↓cel_ro, ↓add_int, ↓add_strD, ↓add_tup, ↓add_ll, ↓add_ln, ↓add_nl, ↓add_nn, ↓oI_ii, ↓oI0_ii, ↓neg_i, ↓inv_i, ↓mul_int, ↓eq_dd, ↓ne_dd, ↓eq_nd, ↓ne_nd, ↓eq_dn, ↓ne_dn, ↓eq_nn, ↓ne_nn, ↓sign_ss, ↓ix_s, ↓ix_tupD, ↓ix_lstD, ↓ix_new, ↓ix_ro, ↓sl_s, ↓sl_tupD, ↓sl_lstD, ↓sl_new, ↓sl_ro, ↓len_str, ↓len_tup, ↓len_lst, ↓len_new, ↓len_ro, ↓max_ii, ↓min_ii, ↓isi_int, ↓isi_bool, ↓isi_str, ↓isi_list, ↓isi_tuple, ↓isi_dict, ↓exitQ_dat, ↓exitQ_new, ↓exitQ_raw, ↓cl_nil, ↓cl_none, ↓cl_dat, ↓cl_ro, ↓cl_raw, ↓cl_odat, ↓dVar_16, ↓dVar_17, ↓dVar_18, ↓dVar_19, ↓dVar_20, ↓dVar_21, ↓dVar_22, ↓dVar_23, ↓dVar_24, ↓dVar_25, ↓dVar_26, ↓dVar_27, ↓dVar_28, ↓dVar_29, ↓dVar_30, ↓dVar_31, ↓dVar_32, ↓dVar_33, ↓dVar_34, ↓dVar_35, ↓noD_n, ↓noD_b, ↓noD_i, ↓noD_s, ↓noD_l, ↓noD_t, ↓noDs_nil, ↓noDs_cons, ↓noDs_app, ↓noDs_i, ↓noDs_s, ↓noDs_b, ↓exC_k, ↓isIntD_none, ↓isIntD_bool, ↓isIntD_int, ↓isIntD_str, ↓isIntD_list, ↓isIntD_tuple, ↓isIntD_dict, ↓isBoolD_none, ↓isBoolD_bool, ↓isBoolD_int, ↓isBoolD_str, ↓isBoolD_list, ↓isBoolD_tuple, ↓isBoolD_dict, ↓isStrD_none, ↓isStrD_bool, ↓isStrD_int, ↓isStrD_str, ↓isStrD_list, ↓isStrD_tuple, ↓isStrD_dict, ↓isListD_none, ↓isListD_bool, ↓isListD_int, ↓isListD_str, ↓isListD_list, ↓isListD_tuple, ↓isListD_dict, ↓isTupD_none, ↓isTupD_bool, ↓isTupD_int, ↓isTupD_str, ↓isTupD_list, ↓isTupD_tuple, ↓isTupD_dict, ↓isDictD_none, ↓isDictD_bool, ↓isDictD_int, ↓isDictD_str, ↓isDictD_list, ↓isDictD_tuple, ↓isDictD_dict, ↓neg_i2, ↓inv_i2, ↓x_iSeqD, ↓seqDK_d, ↓seqDK_t, ↓seqDK_l, ↓seqDK_s, ↓seqDK_n, ↓seqDK_r, ↓seqDK_c, ↓x_iZipD, ↓zipK_t, ↓zipK_l, ↓x_dNewD, ↓lcD_d, ↓keysK_nil, ↓keysK_i, ↓keysK_s, ↓keysP_nil, ↓keysP_i, ↓keysP_s, ↓c_setD, ↓memA_dict, ↓memA_l, ↓memA_t, ↓memA_n, ↓c_memA, ↓memC_d, ↓memC_l, ↓memC_f, ↓cell_nd, ↓cell_nk, ↓stl_nd, ↓stl_nk, ↓ex_nd, ↓ex_nk, ↓x_dCellA, ↓cellA_new, ↓nextA_eq, ↓stateA_eq, ↓cellA_eq, ↓fg_nil, ↓fg_cons, ↓lcR_l, ↓lcR_f, ↓lcK_l, ↓c_len, ↓c_ix, ↓c_ixC, ↓c_app, ↓c_set, ↓c_isL, ↓c_lstK, ↓c_sqK, ↓c_mem, ↓c_addn, ↓c_addl, ↓c_sl, ↓c_seqK, ↓seqC_l, ↓seqC_f, ↓c_wD, ↓wdC_l, ↓wdC_f, ↓exC_l, ↓exC_f, ↓exC_d, ↓cellK_new, ↓cellK_dat, ↓cellK_loc, ↓get_a0, ↓get_a1, ↓get_a2, ↓get_a3, ↓set_a0, ↓set_a1, ↓set_a2, ↓set_a3, ↓lnD_str, ↓lnD_tup, ↓lnD_lst, ↓lnD_new, ↓lnD_ro, ↓lnD_d, ↓c_lenD, ↓lnC_d, ↓lnC_k, ↓lnC_l, ↓lnC_f, ↓eq_cN, ↓eq_cD, ↓eq_Nc, ↓eq_Dc, ↓ne_cN, ↓ne_cD, ↓ne_Nc, ↓ne_Dc, ↓x_iEnumD, ↓enumK_t, ↓enumK_l, ↓enumK_r, ↓enumK_tk, ↓enumK_lk, ↓srt_d, ↓srt_l, ↓srt_n, ↓c_srt, ↓srtC_l, ↓srtC_f, ↓srtC_d, ↓lsA_t, ↓lsA_l, ↓lsA_n, ↓lsA_r, ↓c_lsA, ↓c_isi_list, ↓c_isi_dict, ↓c_isi_tuple, ↓isiB_l, ↓isiB_f, ↓isiB_d, ↓isiB_k, ↓isi_n_list, ↓isi_n_tuple, ↓x_dListIt, ↓litK_d, ↓augK_s, ↓iadd_ii, ↓c_iaddn, ↓c_iaddl, ↓abs_i, ↓x_dRevL, ↓revK_n, ↓revK_l, ↓cnt_n, ↓cnt_l, ↓idx_l, ↓isLst_l, ↓isLst_n, ↓c_pop, ↓c_popD, ↓c_isD, ↓lcD2_d, ↓lcD2_k, ↓tk_0, ↓tk_a0, ↓tk_a1, ↓tk_a2, ↓tk_a3, ↓tk_a4, dVar_0, dVar_1, dVar_2, dVar_3, dVar_4, dVar_5, dVar_6, dVar_7, dVar_8, dVar_9, dVar_10, dVar_11, dVar_12, dVar_13, dVar_14, dVar_15, old_dat, old_loc, old_raw, old_exc, old_ro, wDs_nil, wDs_cons, x_dC, x_dRaw, x_dFrz, x_dCell, x_dStl, x_aNil, x_aCons, x_dLst, x_dTup, x_tVal, x_tAndD, x_tOrD, x_tNotD, x_tYesD, x_dAndV, x_dOrV, x_dNotV, x_dIfE, x_dOp, x_dUn, x_dCB, x_dChain, intK_i, x_oNo, x_oSome, x_dSl, x_gNm, x_gNl0, x_gCn, x_gTp, x_gSb, x_dCall, seqK_tup, seqK_lst, seqK_new, seqK_ro, seqK_str, rng1_i, rng2_i, x_iSeq, x_iRange1, x_iRange2, x_dBM, x_dBM0, x_isStr, bools_k, ints_k, strs_k, lstK_lst, lstK_new, sqK_lst, sqK_new, sqK_tup, sqK_ro, x_oAll, x_oSum, x_oJoin, x_oList, x_oTuple, x_oIsN, x_oNotN, x_lc, int_i, int_b, mem_l, mem_t, mem_n, x_srtS, mul_ni, mul_li, wD_dat, wD_new, wB_b, nN_dat, nN_loc, nN_raw, nN_ro, nN_exc, aO_nil, aO_cons, stl_dat, stl_new, stl_loc, stl_raw, stl_ro, stl_exc, cel_dat, cel_new, cel_loc, cel_raw, cel_ro, add_int, add_strD, add_tup, add_ll, add_ln, add_nl, add_nn, oI_ii, oI0_ii, neg_i, inv_i, mul_int, eq_dd, ne_dd, eq_nd, ne_nd, eq_dn, ne_dn, eq_nn, ne_nn, sign_ss, ix_s, ix_tupD, ix_lstD, ix_new, ix_ro, sl_s, sl_tupD, sl_lstD, sl_new, sl_ro, len_str, len_tup, len_lst, len_new, len_ro, max_ii, min_ii, isi_int, isi_bool, isi_str, isi_list, isi_tuple, isi_dict, exitQ_dat, exitQ_new, exitQ_raw, cl_nil, cl_none, cl_dat, cl_ro, cl_raw, cl_odat, dVar_16, dVar_17, dVar_18, dVar_19, dVar_20, dVar_21, dVar_22, dVar_23, dVar_24, dVar_25, dVar_26, dVar_27, dVar_28, dVar_29, dVar_30, dVar_31, dVar_32, dVar_33, dVar_34, dVar_35, noD_n, noD_b, noD_i, noD_s, noD_l, noD_t, noDs_nil, noDs_cons, noDs_app, noDs_i, noDs_s, noDs_b, exC_k, isIntD_none, isIntD_bool, isIntD_int, isIntD_str, isIntD_list, isIntD_tuple, isIntD_dict, isBoolD_none, isBoolD_bool, isBoolD_int, isBoolD_str, isBoolD_list, isBoolD_tuple, isBoolD_dict, isStrD_none, isStrD_bool, isStrD_int, isStrD_str, isStrD_list, isStrD_tuple, isStrD_dict, isListD_none, isListD_bool, isListD_int, isListD_str, isListD_list, isListD_tuple, isListD_dict, isTupD_none, isTupD_bool, isTupD_int, isTupD_str, isTupD_list, isTupD_tuple, isTupD_dict, isDictD_none, isDictD_bool, isDictD_int, isDictD_str, isDictD_list, isDictD_tuple, isDictD_dict, neg_i2, inv_i2, x_iSeqD, seqDK_d, seqDK_t, seqDK_l, seqDK_s, seqDK_n, seqDK_r, seqDK_c, x_iZipD, zipK_t, zipK_l, x_dNewD, lcD_d, keysK_nil, keysK_i, keysK_s, keysP_nil, keysP_i, keysP_s, c_setD, memA_dict, memA_l, memA_t, memA_n, c_memA, memC_d, memC_l, memC_f, cell_nd, cell_nk, stl_nd, stl_nk, ex_nd, ex_nk, x_dCellA, cellA_new, nextA_eq, stateA_eq, cellA_eq, fg_nil, fg_cons, lcR_l, lcR_f, lcK_l, c_len, c_ix, c_ixC, c_app, c_set, c_isL, c_lstK, c_sqK, c_mem, c_addn, c_addl, c_sl, c_seqK, seqC_l, seqC_f, c_wD, wdC_l, wdC_f, exC_l, exC_f, exC_d, cellK_new, cellK_dat, cellK_loc, get_a0, get_a1, get_a2, get_a3, set_a0, set_a1, set_a2, set_a3, lnD_str, lnD_tup, lnD_lst, lnD_new, lnD_ro, lnD_d, c_lenD, lnC_d, lnC_k, lnC_l, lnC_f, eq_cN, eq_cD, eq_Nc, eq_Dc, ne_cN, ne_cD, ne_Nc, ne_Dc, x_iEnumD, enumK_t, enumK_l, enumK_r, enumK_tk, enumK_lk, srt_d, srt_l, srt_n, c_srt, srtC_l, srtC_f, srtC_d, lsA_t, lsA_l, lsA_n, lsA_r, c_lsA, c_isi_list, c_isi_dict, c_isi_tuple, isiB_l, isiB_f, isiB_d, isiB_k, isi_n_list, isi_n_tuple, x_dListIt, litK_d, augK_s, iadd_ii, c_iaddn, c_iaddl, abs_i, x_dRevL, revK_n, revK_l, cnt_n, cnt_l, idx_l, isLst_l, isLst_n, c_pop, c_popD, c_isD, lcD2_d, lcD2_k, tk_0, tk_a0, tk_a1, tk_a2, tk_a3, tk_a4, isR_h, isR_app, isR_last, exitQ_ge, exitQ_lt, cl_loc, nle_h, nlt_h, ile_h, ilt_h, cmul_l, cmul_r, cdiv_h, cpow_h, csh_h, csh_0, oLt, oLe, oGt, oGe, oSub, oMod, oDiv, oPow, oShl, oShr, oAnd, oOr, oXor, isRaw, isNon, startD, List.length_map, decide_eq_true_eq, List.map_cons, List.map_nil, List.length_cons, List.length_nil, List.cons_append, List.nil_append, List.append_nil, List.replicate, List.getElem?_cons_zero, List.getElem?_cons_succ, List.set_cons_zero, List.set_cons_succ, List.take_length, true_and, and_true, eqv_int, eqv_bool, eqv_str, dep_int, dep_bool, dep_str, dep_none, min0l, min0r, Option.map_some, Option.map_none, if_true, if_false, Bool.and_true, Bool.true_and, Bool.false_eq_true, Bool.not_true, Bool.not_false, reduceIte, wipeD, List.append_assoc, at_nn, Option.some.injEq, exists_eq_left, exists_eq_left', Int.reduceToNat, Int.reduceLE, Int.reduceLT, List.length_set, Nat.reduceAdd, Nat.reduceLeDiff, Nat.reduceSub, dat_dat, dat_new, lst_lst, lst_new, seq_tup, seq_lst, seq_new, seq_ro, List.length_append, Nat.zero_add, eqv_tup, eqv_lst, eqvA_nn, eqvA_cc, eqvA_nc, eqvA_cn, dep_tup, dep_lst, depA_nil, depA_cons, Nat.max_zero, Nat.zero_max, Nat.lt_add_one, forall_const, oShlA, rng_c, Int.toNat_natCast, List.flatten_nil, decide_true, decide_false])

def remC (cs gs : List Pt) : List Pt := cs.filter fun c => decide (c ∉ gs)
theorem rem_ins {cs gs : List Pt} {c : Pt} (hc : c ∈ cs) (hg : c ∉ gs) : (remC cs (insC gs c)).length < (remC cs gs).length := by
  unfold remC
  induction cs with
  | nil => simp at hc
  | cons a cs ih =>
    have le : ∀ cs : List Pt, (cs.filter fun x => decide (x ∉ insC gs c)).length ≤ (cs.filter fun x => decide (x ∉ gs)).length := fun cs => by
      induction cs with
      | nil => simp
      | cons a cs ih =>
        rw [List.filter_cons, List.filter_cons]
        by_cases e1 : a ∈ gs
        · have e2 : a ∈ insC gs c := mem_ins.mpr (.inl e1)
          simpa [e1, e2] using ih
        · by_cases e2 : a ∈ insC gs c
          · simp only [e1, e2, not_true, not_false_iff, decide_true, decide_false, if_true, List.length_cons]
            simp only [Bool.false_eq_true, if_false]
            omega
          · simp only [e1, e2, not_false_iff, decide_true, if_true, List.length_cons]
            omega
    rw [List.filter_cons, List.filter_cons]
    by_cases e : a = c
    · subst e
      have e2 : a ∈ insC gs a := mem_ins.mpr (.inr rfl)
      have := le cs
      simp only [hg, e2, not_true, not_false_iff, decide_true, decide_false, if_true, List.length_cons, Bool.false_eq_true, if_false]
      omega
    · have ih := ih ((List.mem_cons.mp hc).resolve_left fun z => e z.symm)
      by_cases e1 : a ∈ gs
      · have e2 : a ∈ insC gs c := mem_ins.mpr (.inl e1)
        simpa [e1, e2] using ih
      · have e2 : a ∉ insC gs c := fun z => (mem_ins.mp z).elim e1 e
        simp only [e1, e2, not_false_iff, decide_true, if_true, List.length_cons]
        omega
/-- a walk from cell to cell: found, and waiting -/
structure WalkI (cs : List Pt) (s : Pt) (gs ws : List Pt) : Prop where
  fo : ∀ p ∈ gs, Rch (fun p => p ∈ cs) s p
  wa : ∀ p ∈ ws, p ∈ cs → Rch (fun p => p ∈ cs) s p
  st : s ∈ cs → s ∈ gs ∨ s ∈ ws
  cl : ∀ p ∈ gs, ∀ q ∈ nbs p, q ∈ cs → q ∈ gs ∨ q ∈ ws
  gl : gs.length + (remC cs gs).length ≤ cs.length
  wl : ws.length ≤ 4 * gs.length + 1
theorem walk_i (cs : List Pt) (s : Pt) : WalkI cs s [] [s] where
  fo := fun p h => by simp at h
  wa := fun p h hp => by
    rw [List.mem_singleton] at h
    subst h
    exact .base hp
  st := fun _ => .inr (by simp)
  cl := fun p h => by simp at h
  gl := by
    unfold remC
    simp only [List.length_nil, Nat.zero_add]
    exact List.length_filter_le _ _
  wl := by simp
theorem walk_no {cs gs ws : List Pt} {s c : Pt} (I : WalkI cs s gs (ws ++ [c])) (h : ¬ (c ∈ cs ∧ c ∉ gs)) : WalkI cs s gs ws where
  fo := I.fo
  wa := fun p hp => I.wa p (List.mem_append_left _ hp)
  st := fun hs => (I.st hs).elim .inl fun z => (List.mem_append.mp z).elim .inr fun z => by
    rw [List.mem_singleton] at z
    subst z
    by_cases hg : s ∈ gs
    · exact .inl hg
    · exact absurd ⟨hs, hg⟩ h
  cl := fun p hp q hq hc => (I.cl p hp q hq hc).elim .inl fun z => (List.mem_append.mp z).elim .inr fun z => by
    rw [List.mem_singleton] at z
    subst z
    by_cases hg : q ∈ gs
    · exact .inl hg
    · exact absurd ⟨hc, hg⟩ h
  gl := I.gl
  wl := by
    have := I.wl
    rw [List.length_append, List.length_singleton] at this
    omega
theorem walk_yes {cs gs ws : List Pt} {s c : Pt} (I : WalkI cs s gs (ws ++ [c])) (hc : c ∈ cs) (hg : c ∉ gs) : WalkI cs s (insC gs c) (ws ++ nbs c) where
  fo := fun p hp => (mem_ins.mp hp).elim (I.fo p) fun e => by
    subst e
    exact I.wa p (by simp) hc
  wa := fun p hp hpc => (List.mem_append.mp hp).elim (fun z => I.wa p (List.mem_append_left _ z) hpc) fun z => .step (I.wa c (by simp) hc) z hpc
  st := fun hs => (I.st hs).elim (fun z => .inl (mem_ins.mpr (.inl z))) fun z => (List.mem_append.mp z).elim (fun z => .inr (List.mem_append_left _ z)) fun z => .inl (mem_ins.mpr (.inr (List.mem_singleton.mp z)))
  cl := fun p hp q hq hqc => (mem_ins.mp hp).elim (fun z => (I.cl p z q hq hqc).elim (fun z => .inl (mem_ins.mpr (.inl z))) fun z => (List.mem_append.mp z).elim (fun z => .inr (List.mem_append_left _ z)) fun z => .inl (mem_ins.mpr (.inr (List.mem_singleton.mp z)))) fun e => by
    subst e
    exact .inr (List.mem_append_right _ hq)
  gl := by
    have h1 := I.gl
    have h2 := rem_ins hc hg
    have h3 := len_ins gs c
    omega
  wl := by
    have h1 := I.wl
    have h3 : (insC gs c).length = gs.length + 1 := by unfold insC; rw [if_neg hg]; simp
    rw [List.length_append, List.length_singleton] at h1
    rw [List.length_append, h3, show (nbs c).length = 4 from rfl]
    omega
theorem walk_end {cs gs : List Pt} {s : Pt} (I : WalkI cs s gs []) (p : Pt) : p ∈ gs ↔ Rch (fun p => p ∈ cs) s p :=
  rch_of (P := fun p => p ∈ cs) (S := fun p => p ∈ gs) (fun h => (I.st h).resolve_right (by simp)) (fun p q hp hq hc => (I.cl p hp q hq hc).resolve_right (by simp)) I.fo p
theorem walk_len {cs gs ws : List Pt} {s : Pt} (I : WalkI cs s gs ws) : gs.length ≤ cs.length := by
  have := I.gl
  omega

def sp_law_come_to : SpD := fun es μ q x => ∃ (d : PyData) (a : Int) (b : Int), es = [.dat d, .dat (.tuple [.int a, .int b])] ∧ (∃ cs : List Pt, d = dctD cs ∧ cs.length ≤ 400 ∧ ∀ gs : List Pt, (∀ p, p ∈ gs ↔ Rch (fun p => p ∈ cs) (a, b) p) → gs.length ≤ 400 → gs.Nodup → q (.newd (gs.map ptE)) μ)
theorem e_law_come_to {d : PyData} {a : Int} {b : Int} {μ : Mu} {q : PQ} {x : XQ} : sp_law_come_to [.dat d, .dat (.tuple [.int a, .int b])] μ q x = (∃ cs : List Pt, d = dctD cs ∧ cs.length ≤ 400 ∧ ∀ gs : List Pt, (∀ p, p ∈ gs ↔ Rch (fun p => p ∈ cs) (a, b) p) → gs.length ≤ 400 → gs.Nodup → q (.newd (gs.map ptE)) μ) := by
  refine propext ⟨fun hyp0 => ?_, fun hyp0 => ⟨d, a, b, rfl, hyp0⟩⟩
  obtain ⟨d', a', b', eq0, hyp0⟩ := hyp0
  simp only [List.cons.injEq, Exn.mk.injEq, EV.dat.injEq, EV.loc.injEq, EV.new.injEq, EV.ro.injEq, EV.exc.injEq, PyData.int.injEq, PyData.str.injEq, PyData.bool.injEq, PyData.list.injEq, PyData.tuple.injEq, and_true, true_and, and_assoc, map_int_inj, ] at eq0
  obtain ⟨rfl, rfl, rfl⟩ := eq0
  exact hyp0
theorem ok_law_come_to (T : Top K mg) : DefAt P w K mg base "_law_come_to" 1 ["_law_cells_here", "_law_first"] [] [] sp_law_come_to := by
  refine def_ok sp_law_come_to T.F_law_come_to sc_law_come_to T.m_law_come_to T.b_law_come_to (fun cdv A outer s H E hr tk pw => (dss_cons (ds_set (i := 2) sc_law_come_to.nd rfl (by first | exact Or.inl rfl | exact Or.inr rfl) (de_cell de_dnewT))
    (dss_cons (ds_set (i := 3) sc_law_come_to.nd rfl (by first | exact Or.inl rfl | exact Or.inr rfl) (de_cell (de_lst (da_cons (de_frz (dv 1)) da_nil))))
    (dss_cons (ds_whileG [1, 4, 5] pw (dt_cmp (opA_ne hr.units) os_ne (dv 3) (de_lst da_nil) (nomark _)) (dss_cons (ds_asg (de_frz (de_bm0 PySem.F.plainAttrs_list PySem.F.slot_list_pop PySem.F.type_list_pop mt_pop rc_lst ms_pop (dv 3))) (dg_tup (n := 2) rfl (dgs_cons (dg_name (i := 4) sc_law_come_to.nd rfl (by first | exact Or.inl rfl | exact Or.inr rfl)) (dgs_cons (dg_name (i := 5) sc_law_come_to.nd rfl (by first | exact Or.inl rfl | exact Or.inr rfl)) dgs_nil))))
    (dss_one (ds_if (dw_and (dt_cmp (opA_in hr.units) os_memA (de_tup (da_cons (de_frz (dv 4)) (da_cons (de_frz (dv 5)) da_nil))) (dv 0) (by rfl)) (dw_and1 (dt_cmp (opA_notIn hr.units) os_memA (de_tup (da_cons (de_frz (dv 4)) (da_cons (de_frz (dv 5)) da_nil))) (dv 2) (by rfl)))).dt (dss_cons (ds_asg de_bl (dg_sub (W := WF) (dv 2) (de_tup (da_cons (de_frz (dv 4)) (da_cons (de_frz (dv 5)) da_nil))) (set_dictU hr.units) ss_dict))
    (dss_one (ds_set (i := 3) sc_law_come_to.nd rfl (by first | exact Or.inl rfl | exact Or.inr rfl) (de_cell (de_op opA_add os_add (dv 3) (de_lst (da_cons (de_frz (de_tup (da_cons (de_frz (de_op opA_add os_add (dv 4) de_int)) (da_cons (de_frz (dv 5)) da_nil)))) (da_cons (de_frz (de_tup (da_cons (de_frz (de_op op_sub os_sub (dv 4) de_int)) (da_cons (de_frz (dv 5)) da_nil)))) (da_cons (de_frz (de_tup (da_cons (de_frz (dv 4)) (da_cons (de_frz (de_op opA_add os_add (dv 5) de_int)) da_nil)))) (da_cons (de_frz (de_tup (da_cons (de_frz (dv 4)) (da_cons (de_frz (de_op op_sub os_sub (dv 5) de_int)) da_nil)))) da_nil)))))))))) dss_nil))))
    (dss_one (ds_ret (dv 2))))))) ?_
  rintro es μ q x - ⟨d, a, b, rfl, cs, rfl, hcl, k⟩
  walk_at "run"
  refine q_whileG (σ := List Pt × List Pt × Mu) (fun p => (WalkI cs (a, b) p.1 p.2.1 ∧ p.1.Nodup) ∧ p.2.2.take μ.length = μ ∧ p.2.2[μ.length]? = some (.dct (p.1.map ptE)))
    (fun p => 5 * (remC cs p.1).length + p.2.1.length) (fun η p => η.set 3 (some (.loc p.2.2.length))) (fun p => p.2.2 ++ [.lst (p.2.1.map ptD)]) ([], [(a, b)], μ ++ [.dct []]) ?_ ?_ ⟨⟨walk_i _ _, by simp⟩, by simp, by simp⟩ ?_
  · simp [fg_cons, fg_nil]
  · simp [ptD]
  rintro ⟨gs, ws, A⟩ J ⟨⟨I, hnd⟩, hA, hg⟩ hJ
  simp only at I hnd hA hg hJ ⊢
  have hlt := get_lt hg
  have g1 : ∀ c ν, (A ++ c :: ν)[μ.length]? = some (.dct (gs.map ptE)) := fun c ν => by rw [List.getElem?_append_left hlt]; exact hg
  have s1 : ∀ c ν d, (A ++ c :: ν).set μ.length d = A.set μ.length d ++ c :: ν := fun c ν d => List.set_append_left _ _ hlt
  have t1 : ∀ c ν, (A ++ c :: ν).take μ.length = μ := fun c ν => by rw [List.take_append_of_le_length (by omega)]; exact hA
  simp only [fg_cons, fg_nil, List.set_cons_succ, List.set_cons_zero] at hJ ⊢
  (try walk_at "dx")
  rw [noDs_pt]
  refine ⟨rfl, ?_⟩
  rcases List.eq_nil_or_concat ws with rfl | ⟨ws, c, rfl⟩
  · walk_at "run"
    simp only [g1]
    (try walk_at "dx")
    rw [t1]
    exact k gs (walk_end I) (Nat.le_trans (walk_len I) hcl) hnd
  · rw [List.concat_eq_append] at I hJ ⊢
    have ne : PyData.eqvAll ((ws ++ [c]).map ptD) [] = false := by
      cases ws <;> simp [eqvA_cn]
    rw [ne]
    walk_at "run"
    refine ⟨ptD c, by simp, ?_⟩
    rw [show ((ws ++ [c]).map ptD).dropLast = ws.map ptD by simp]
    obtain ⟨c1, c2⟩ := c
    have hn : (ws ++ [(c1, c2)]).length = ws.length + 1 := by simp
    rw [hn] at hJ
    walk_at "run"
    simp only [g1]
    (try walk_at "dx")
    split
    · rename_i hc
      by_cases hg2 : (c1, c2) ∈ gs
      · rw [if_neg (by simp [hg2])]
        have no := hJ (gs, ws, A) ⟨⟨walk_no I (fun z => z.2 hg2), hnd⟩, hA, hg⟩ (by simp only; omega)
        exact no
      · rw [if_pos (by simp [hg2])]
        have I2 := walk_yes I hc hg2
        have hr := rem_ins hc hg2
        walk_at "run"
        simp only [g1, s1]
        (try walk_at "dx")
        rw [put_pt]
        have hgl := walk_len I
        have hwl := I2.wl
        have hgl2 := walk_len I2
        refine ⟨by omega, ?_⟩
        obtain ⟨B, hB⟩ : ∃ B, B = A.set μ.length (.dct ((insC gs (c1, c2)).map ptE)) := ⟨_, rfl⟩
        have hBl : A.length = B.length := by rw [hB, List.length_set]
        have hB1 : B.take μ.length = μ := by rw [hB, List.take_set, hA, List.set_eq_of_length_le (by simp)]
        have hB2 : B[μ.length]? = some (.dct ((insC gs (c1, c2)).map ptE)) := by rw [hB]; exact List.getElem?_set_self hlt
        rw [← hB, hBl]
        have hlt2 := get_lt hB2
        have h4 : (ws ++ nbs (c1, c2)).length = ws.length + 4 := by simp [nbs]
        rw [h4] at hwl
        have yes := hJ (insC gs (c1, c2), ws ++ nbs (c1, c2), B ++ [.lst (ws.map ptD)]) ⟨⟨I2, nodup_ins hnd _⟩, by rw [List.take_append_of_le_length (by omega)]; exact hB1, by rw [List.getElem?_append_left hlt2]; exact hB2⟩ (by simp only [h4]; omega)
        clear hJ
        walk_at "run"
        (try walk_at "ok")
        simpa [nbs, ptD, List.append_assoc] using yes
    · rename_i hc
      have no := hJ (gs, ws, A) ⟨⟨walk_no I (fun z => hc z.1), hnd⟩, hA, hg⟩ (by simp only; omega)
      exact no

local macro_rules | `(tactic| walk_at "dx") => `(tactic| simp (disch := first | assumption | omega) only [↓e_joined, ↓e_moved, ↓e_common, ↓e_without, ↓ix_sz, ↓gTp_pt, ↓enumK_sh, ↓e_places, ↓e_count, ↓e_nothing, ↓e_has, ↓e_spread, ↓e_is_number, ↓isNum_i, ↓isNum_b, ↓isNum_n, ↓isNum_s, ↓isNum_l, ↓isNum_t, ↓e_is_place, ↓e_sheet_of, ↓e_sheet_of1, sh_eqv, sh_nod, sh_dmin, ↓e_flood, ↓e_grown, ↓e_turned_sheet, ↓e_mirrored, ↓e_law_floor, ↓e_law_sheet, ↓seqDK_pt, ↓gTp_pt, ↓kvT_pt, ↓ix_sz, ↓e_law_same, ↓e_law_size, ↓e_law_cells, ↓memA_dct, hasKs_ptE, ↓e_law_come_to, ↓dVar_0, ↓dVar_1, ↓dVar_2, ↓dVar_3, ↓dVar_4, ↓dVar_5, ↓dVar_6, ↓dVar_7, ↓dVar_8, ↓dVar_9, ↓dVar_10, ↓dVar_11, ↓dVar_12, ↓dVar_13, ↓dVar_14, ↓dVar_15, ↓old_dat, ↓old_loc, ↓old_raw, ↓old_exc, ↓old_ro, ↓wDs_nil, ↓wDs_cons, ↓x_dC, ↓x_dRaw, ↓x_dFrz, ↓x_dCell, ↓x_dStl, ↓x_aNil, ↓x_aCons, ↓x_dLst, ↓x_dTup, ↓x_tVal, ↓x_tAndD, ↓x_tOrD, ↓x_tNotD, ↓x_tYesD, ↓x_dAndV, ↓x_dOrV, ↓x_dNotV, ↓x_dIfE, ↓x_dOp, ↓x_dUn, ↓x_dCB, ↓x_dChain, ↓intK_i, ↓x_oNo, ↓x_oSome, ↓x_dSl, ↓x_gNm, ↓x_gNl0, ↓x_gCn, ↓x_gTp, ↓x_gSb, ↓x_dCall, ↓seqK_tup, ↓seqK_lst, ↓seqK_new, ↓seqK_ro, ↓seqK_str, ↓rng1_i, ↓rng2_i, ↓x_iSeq, ↓x_iRange1, ↓x_iRange2, ↓x_dBM, ↓x_dBM0, ↓x_isStr, ↓bools_k, ↓ints_k, ↓strs_k, ↓lstK_lst, ↓lstK_new, ↓sqK_lst, ↓sqK_new, ↓sqK_tup, ↓sqK_ro, ↓x_oAll, ↓x_oSum, ↓x_oJoin, ↓x_oList, ↓x_oTuple, ↓x_oIsN, ↓x_oNotN, ↓x_lc, ↓int_i, ↓int_b, ↓mem_l, ↓mem_t, ↓mem_n, ↓x_srtS, ↓mul_ni, ↓mul_li, ↓wD_dat, ↓wD_new, ↓wB_b, ↓nN_dat, ↓nN_loc, ↓nN_raw, ↓nN_ro, ↓nN_exc, ↓aO_nil, ↓aO_cons, ↓stl_dat, ↓stl_new, ↓stl_loc, ↓stl_raw, ↓stl_ro, ↓stl_exc, ↓cel_dat, ↓cel_new, ↓cel_loc, ↓cel_raw, ↓cel_ro, ↓add_int, ↓add_strD, ↓add_tup, ↓add_ll, ↓add_ln, ↓add_nl, ↓add_nn, ↓oI_ii, ↓oI0_ii, ↓neg_i, ↓inv_i, ↓mul_int, ↓eq_dd, ↓ne_dd, ↓eq_nd, ↓ne_nd, ↓eq_dn, ↓ne_dn, ↓eq_nn, ↓ne_nn, ↓sign_ss, ↓ix_s, ↓ix_tupD, ↓ix_lstD, ↓ix_new, ↓ix_ro, ↓sl_s, ↓sl_tupD, ↓sl_lstD, ↓sl_new, ↓sl_ro, ↓len_str, ↓len_tup, ↓len_lst, ↓len_new, ↓len_ro, ↓max_ii, ↓min_ii, ↓isi_int, ↓isi_bool, ↓isi_str, ↓isi_list, ↓isi_tuple, ↓isi_dict, ↓exitQ_dat, ↓exitQ_new, ↓exitQ_raw, ↓cl_nil, ↓cl_none, ↓cl_dat, ↓cl_ro, ↓cl_raw, ↓cl_odat, ↓dVar_16, ↓dVar_17, ↓dVar_18, ↓dVar_19, ↓dVar_20, ↓dVar_21, ↓dVar_22, ↓dVar_23, ↓dVar_24, ↓dVar_25, ↓dVar_26, ↓dVar_27, ↓dVar_28, ↓dVar_29, ↓dVar_30, ↓dVar_31, ↓dVar_32, ↓dVar_33, ↓dVar_34, ↓dVar_35, ↓noD_n, ↓noD_b, ↓noD_i, ↓noD_s, ↓noD_l, ↓noD_t, ↓noDs_nil, ↓noDs_cons, ↓noDs_app, ↓noDs_i, ↓noDs_s, ↓noDs_b, ↓exC_k, ↓isIntD_none, ↓isIntD_bool, ↓isIntD_int, ↓isIntD_str, ↓isIntD_list, ↓isIntD_tuple, ↓isIntD_dict, ↓isBoolD_none, ↓isBoolD_bool, ↓isBoolD_int, ↓isBoolD_str, ↓isBoolD_list, ↓isBoolD_tuple, ↓isBoolD_dict, ↓isStrD_none, ↓isStrD_bool, ↓isStrD_int, ↓isStrD_str, ↓isStrD_list, ↓isStrD_tuple, ↓isStrD_dict, ↓isListD_none, ↓isListD_bool, ↓isListD_int, ↓isListD_str, ↓isListD_list, ↓isListD_tuple, ↓isListD_dict, ↓isTupD_none, ↓isTupD_bool, ↓isTupD_int, ↓isTupD_str, ↓isTupD_list, ↓isTupD_tuple, ↓isTupD_dict, ↓isDictD_none, ↓isDictD_bool, ↓isDictD_int, ↓isDictD_str, ↓isDictD_list, ↓isDictD_tuple, ↓isDictD_dict, ↓neg_i2, ↓inv_i2, ↓x_iSeqD, ↓seqDK_d, ↓seqDK_t, ↓seqDK_l, ↓seqDK_s, ↓seqDK_n, ↓seqDK_r, ↓seqDK_c, ↓x_iZipD, ↓zipK_t, ↓zipK_l, ↓x_dNewD, ↓lcD_d, ↓keysK_nil, ↓keysK_i, ↓keysK_s, ↓keysP_nil, ↓keysP_i, ↓keysP_s, ↓c_setD, ↓memA_dict, ↓memA_l, ↓memA_t, ↓memA_n, ↓c_memA, ↓memC_d, ↓memC_l, ↓memC_f, ↓cell_nd, ↓cell_nk, ↓stl_nd, ↓stl_nk, ↓ex_nd, ↓ex_nk, ↓x_dCellA, ↓cellA_new, ↓nextA_eq, ↓stateA_eq, ↓cellA_eq, ↓fg_nil, ↓fg_cons, ↓lcR_l, ↓lcR_f, ↓lcK_l, ↓c_len, ↓c_ix, ↓c_ixC, ↓c_app, ↓c_set, ↓c_isL, ↓c_lstK, ↓c_sqK, ↓c_mem, ↓c_addn, ↓c_addl, ↓c_sl, ↓c_seqK, ↓seqC_l, ↓seqC_f, ↓c_wD, ↓wdC_l, ↓wdC_f, ↓exC_l, ↓exC_f, ↓exC_d, ↓cellK_new, ↓cellK_dat, ↓cellK_loc, ↓get_a0, ↓get_a1, ↓get_a2, ↓get_a3, ↓set_a0, ↓set_a1, ↓set_a2, ↓set_a3, ↓lnD_str, ↓lnD_tup, ↓lnD_lst, ↓lnD_new, ↓lnD_ro, ↓lnD_d, ↓c_lenD, ↓lnC_d, ↓lnC_k, ↓lnC_l, ↓lnC_f, ↓eq_cN, ↓eq_cD, ↓eq_Nc, ↓eq_Dc, ↓ne_cN, ↓ne_cD, ↓ne_Nc, ↓ne_Dc, ↓x_iEnumD, ↓enumK_t, ↓enumK_l, ↓enumK_r, ↓enumK_tk, ↓enumK_lk, ↓srt_d, ↓srt_l, ↓srt_n, ↓c_srt, ↓srtC_l, ↓srtC_f, ↓srtC_d, ↓lsA_t, ↓lsA_l, ↓lsA_n, ↓lsA_r, ↓c_lsA, ↓c_isi_list, ↓c_isi_dict, ↓c_isi_tuple, ↓isiB_l, ↓isiB_f, ↓isiB_d, ↓isiB_k, ↓isi_n_list, ↓isi_n_tuple, ↓x_dListIt, ↓litK_d, ↓augK_s, ↓iadd_ii, ↓c_iaddn, ↓c_iaddl, ↓abs_i, ↓x_dRevL, ↓revK_n, ↓revK_l, ↓cnt_n, ↓cnt_l, ↓idx_l, ↓isLst_l, ↓isLst_n, ↓c_pop, ↓c_popD, ↓c_isD, ↓lcD2_d, ↓lcD2_k, ↓tk_0, ↓tk_a0, ↓tk_a1, ↓tk_a2, ↓tk_a3, ↓tk_a4, dVar_0, dVar_1, dVar_2, dVar_3, dVar_4, dVar_5, dVar_6, dVar_7, dVar_8, dVar_9, dVar_10, dVar_11, dVar_12, dVar_13, dVar_14, dVar_15, old_dat, old_loc, old_raw, old_exc, old_ro, wDs_nil, wDs_cons, x_dC, x_dRaw, x_dFrz, x_dCell, x_dStl, x_aNil, x_aCons, x_dLst, x_dTup, x_tVal, x_tAndD, x_tOrD, x_tNotD, x_tYesD, x_dAndV, x_dOrV, x_dNotV, x_dIfE, x_dOp, x_dUn, x_dCB, x_dChain, intK_i, x_oNo, x_oSome, x_dSl, x_gNm, x_gNl0, x_gCn, x_gTp, x_gSb, x_dCall, seqK_tup, seqK_lst, seqK_new, seqK_ro, seqK_str, rng1_i, rng2_i, x_iSeq, x_iRange1, x_iRange2, x_dBM, x_dBM0, x_isStr, bools_k, ints_k, strs_k, lstK_lst, lstK_new, sqK_lst, sqK_new, sqK_tup, sqK_ro, x_oAll, x_oSum, x_oJoin, x_oList, x_oTuple, x_oIsN, x_oNotN, x_lc, int_i, int_b, mem_l, mem_t, mem_n, x_srtS, mul_ni, mul_li, wD_dat, wD_new, wB_b, nN_dat, nN_loc, nN_raw, nN_ro, nN_exc, aO_nil, aO_cons, stl_dat, stl_new, stl_loc, stl_raw, stl_ro, stl_exc, cel_dat, cel_new, cel_loc, cel_raw, cel_ro, add_int, add_strD, add_tup, add_ll, add_ln, add_nl, add_nn, oI_ii, oI0_ii, neg_i, inv_i, mul_int, eq_dd, ne_dd, eq_nd, ne_nd, eq_dn, ne_dn, eq_nn, ne_nn, sign_ss, ix_s, ix_tupD, ix_lstD, ix_new, ix_ro, sl_s, sl_tupD, sl_lstD, sl_new, sl_ro, len_str, len_tup, len_lst, len_new, len_ro, max_ii, min_ii, isi_int, isi_bool, isi_str, isi_list, isi_tuple, isi_dict, exitQ_dat, exitQ_new, exitQ_raw, cl_nil, cl_none, cl_dat, cl_ro, cl_raw, cl_odat, dVar_16, dVar_17, dVar_18, dVar_19, dVar_20, dVar_21, dVar_22, dVar_23, dVar_24, dVar_25, dVar_26, dVar_27, dVar_28, dVar_29, dVar_30, dVar_31, dVar_32, dVar_33, dVar_34, dVar_35, noD_n, noD_b, noD_i, noD_s, noD_l, noD_t, noDs_nil, noDs_cons, noDs_app, noDs_i, noDs_s, noDs_b, exC_k, isIntD_none, isIntD_bool, isIntD_int, isIntD_str, isIntD_list, isIntD_tuple, isIntD_dict, isBoolD_none, isBoolD_bool, isBoolD_int, isBoolD_str, isBoolD_list, isBoolD_tuple, isBoolD_dict, isStrD_none, isStrD_bool, isStrD_int, isStrD_str, isStrD_list, isStrD_tuple, isStrD_dict, isListD_none, isListD_bool, isListD_int, isListD_str, isListD_list, isListD_tuple, isListD_dict, isTupD_none, isTupD_bool, isTupD_int, isTupD_str, isTupD_list, isTupD_tuple, isTupD_dict, isDictD_none, isDictD_bool, isDictD_int, isDictD_str, isDictD_list, isDictD_tuple, isDictD_dict, neg_i2, inv_i2, x_iSeqD, seqDK_d, seqDK_t, seqDK_l, seqDK_s, seqDK_n, seqDK_r, seqDK_c, x_iZipD, zipK_t, zipK_l, x_dNewD, lcD_d, keysK_nil, keysK_i, keysK_s, keysP_nil, keysP_i, keysP_s, c_setD, memA_dict, memA_l, memA_t, memA_n, c_memA, memC_d, memC_l, memC_f, cell_nd, cell_nk, stl_nd, stl_nk, ex_nd, ex_nk, x_dCellA, cellA_new, nextA_eq, stateA_eq, cellA_eq, fg_nil, fg_cons, lcR_l, lcR_f, lcK_l, c_len, c_ix, c_ixC, c_app, c_set, c_isL, c_lstK, c_sqK, c_mem, c_addn, c_addl, c_sl, c_seqK, seqC_l, seqC_f, c_wD, wdC_l, wdC_f, exC_l, exC_f, exC_d, cellK_new, cellK_dat, cellK_loc, get_a0, get_a1, get_a2, get_a3, set_a0, set_a1, set_a2, set_a3, lnD_str, lnD_tup, lnD_lst, lnD_new, lnD_ro, lnD_d, c_lenD, lnC_d, lnC_k, lnC_l, lnC_f, eq_cN, eq_cD, eq_Nc, eq_Dc, ne_cN, ne_cD, ne_Nc, ne_Dc, x_iEnumD, enumK_t, enumK_l, enumK_r, enumK_tk, enumK_lk, srt_d, srt_l, srt_n, c_srt, srtC_l, srtC_f, srtC_d, lsA_t, lsA_l, lsA_n, lsA_r, c_lsA, c_isi_list, c_isi_dict, c_isi_tuple, isiB_l, isiB_f, isiB_d, isiB_k, isi_n_list, isi_n_tuple, x_dListIt, litK_d, augK_s, iadd_ii, c_iaddn, c_iaddl, abs_i, x_dRevL, revK_n, revK_l, cnt_n, cnt_l, idx_l, isLst_l, isLst_n, c_pop, c_popD, c_isD, lcD2_d, lcD2_k, tk_0, tk_a0, tk_a1, tk_a2, tk_a3, tk_a4, isR_h, isR_app, isR_last, exitQ_ge, exitQ_lt, cl_loc, nle_h, nlt_h, ile_h, ilt_h, cmul_l, cmul_r, cdiv_h, cpow_h, csh_h, csh_0, oLt, oLe, oGt, oGe, oSub, oMod, oDiv, oPow, oShl, oShr, oAnd, oOr, oXor, isRaw, isNon, startD, List.length_map, decide_eq_true_eq, List.map_cons, List.map_nil, List.length_cons, List.length_nil, List.cons_append, List.nil_append, List.append_nil, List.replicate, List.getElem?_cons_zero, List.getElem?_cons_succ, List.set_cons_zero, List.set_cons_succ, List.take_length, true_and, and_true, eqv_int, eqv_bool, eqv_str, dep_int, dep_bool, dep_str, dep_none, min0l, min0r, Option.map_some, Option.map_none, if_true, if_false, Bool.and_true, Bool.true_and, Bool.false_eq_true, Bool.not_true, Bool.not_false, reduceIte, wipeD, List.append_assoc, at_nn, Option.some.injEq, exists_eq_left, exists_eq_left', Int.reduceToNat, Int.reduceLE, Int.reduceLT, List.length_set, Nat.reduceAdd, Nat.reduceLeDiff, Nat.reduceSub, dat_dat, dat_new, lst_lst, lst_new, seq_tup, seq_lst, seq_new, seq_ro, List.length_append, Nat.zero_add, eqv_tup, eqv_lst, eqvA_nn, eqvA_cc, eqvA_nc, eqvA_cn, dep_tup, dep_lst, depA_nil, depA_cons, Nat.max_zero, Nat.zero_max, Nat.lt_add_one, forall_const, oShlA, rng_c, Int.toNat_natCast, List.flatten_nil, decide_true, decide_false])
def near (g : Int) (c p : Pt) : Prop := c.1 - g ≤ p.1 ∧ p.1 ≤ c.1 + g ∧ c.2 - g ≤ p.2 ∧ p.2 ≤ c.2 + g
instance (g : Int) (c p : Pt) : Decidable (near g c p) := inferInstanceAs (Decidable (_ ∧ _ ∧ _ ∧ _))
theorem abs_le {x g : Int} : ((if x < 0 then -x else x) ≤ g) ↔ (-g ≤ x ∧ x ≤ g) := by split <;> omega
theorem map_one {α : Type} (as : List α) : (PyData.eqvAll (as.map fun _ => PyData.int 1) []) = decide (as = []) := by
  cases as with
  | nil => simp [eqvA_nn]
  | cons a as => simp [eqvA_cn]
theorem flr_nodup (w h : Nat) : (flr w h).Nodup := by
  unfold flr
  rw [List.Nodup, List.pairwise_flatMap]
  refine ⟨fun x _ => ?_, ?_⟩
  · rw [List.pairwise_map]
    exact List.nodup_range.imp fun {a b} hab e => hab (by have := congrArg Prod.snd e; simp only at this; omega)
  · refine List.nodup_range.imp fun {a b} hab p hp q hq e => ?_
    obtain ⟨y, _, rfl⟩ := List.mem_map.mp hp
    obtain ⟨z, _, rfl⟩ := List.mem_map.mp hq
    exact hab (by have := congrArg Prod.fst e; simp only at this; omega)
def sp_law_near : SpD := fun es μ q x => ∃ (d : PyData) (w : Nat) (h : Nat) (g : Int), es = [.dat d, .dat (szD w h), .dat (.int g)] ∧ ((w ≤ 10 ∧ h ≤ 10) ∧ ∃ cs : List Pt, d = dctD cs ∧ cs.length ≤ 400 ∧ ∀ gs : List Pt, (∀ p, p ∈ gs ↔ inF w h p ∧ ∃ c ∈ cs, near g c p) → gs.Nodup → q (.newd (gs.map ptE)) μ)
theorem e_law_near {d : PyData} {w : Nat} {h : Nat} {g : Int} {μ : Mu} {q : PQ} {x : XQ} : sp_law_near [.dat d, .dat (szD w h), .dat (.int g)] μ q x = ((w ≤ 10 ∧ h ≤ 10) ∧ ∃ cs : List Pt, d = dctD cs ∧ cs.length ≤ 400 ∧ ∀ gs : List Pt, (∀ p, p ∈ gs ↔ inF w h p ∧ ∃ c ∈ cs, near g c p) → gs.Nodup → q (.newd (gs.map ptE)) μ) := by
  refine propext ⟨fun hyp0 => ?_, fun hyp0 => ⟨d, w, h, g, rfl, hyp0⟩⟩
  obtain ⟨d', w', h', g', eq0, hyp0⟩ := hyp0
  simp only [List.cons.injEq, Exn.mk.injEq, EV.dat.injEq, EV.loc.injEq, EV.new.injEq, EV.ro.injEq, EV.exc.injEq, PyData.int.injEq, PyData.str.injEq, PyData.bool.injEq, PyData.list.injEq, PyData.tuple.injEq, and_true, true_and, and_assoc, map_int_inj, szD_inj] at eq0
  obtain ⟨rfl, rfl, rfl, rfl⟩ := eq0
  exact hyp0
theorem ok_law_near (T : Top K mg) : DefAt P w K mg base "_law_near" 2 ["_law_cells_here", "_law_size_here", "_law_gap"] [] [] sp_law_near := by
  refine def_ok sp_law_near T.F_law_near sc_law_near T.m_law_near T.b_law_near (fun cdv A outer s H E hr tk pw => (dss_cons (ds_set (i := 3) sc_law_near.nd rfl (by first | exact Or.inl rfl | exact Or.inr rfl) (de_cell de_dnewT))
    (dss_cons (ds_forF [1, 4, 5] pw rfl (di_seqD (de_call (ok_law_floor T) hr (by decide) (by rfl) tk (fun _ _ => .nil) (da_cons (de_stl (dv 1)) da_nil))) (dg_tup (n := 2) rfl (dgs_cons (dg_name (i := 4) sc_law_near.nd rfl (by first | exact Or.inl rfl | exact Or.inr rfl)) (dgs_cons (dg_name (i := 5) sc_law_near.nd rfl (by first | exact Or.inl rfl | exact Or.inr rfl)) dgs_nil))) (dss_one (ds_if (dt_cmp (opA_ne hr.units) os_ne (de_lc (own := [("_law_cell", 6)]) rfl sc_law_near.nd (di_seqD (dv 0)) (blkOk_by (N := ["_law_cells_here", "_law_size_here", "_law_gap", "_law_found", "_law_x", "_law_y", "_law_cell"]) (sc := defScope s_law_near) (by decide +kernel)) (by decide) (fun _ _ _ _ _ => (dg_name (i := 6) sc_law_near.nd rfl (by first | exact Or.inl rfl | exact Or.inr rfl))) (fun _ _ _ _ _ => (dts_one (dw_and (dt_cmp op_le os_le (de_callB call_abs cs_abs (by rfl) T.n_abs bb_abs (da_cons (de_op op_sub os_sub (de_ix ix_seq os_ix (dv 6) de_int (fun _ _ => rfl)) (dv 4)) da_nil)) (dv 2) (nomark _)) (dw_and1 (dt_cmp op_le os_le (de_callB call_abs cs_abs (by rfl) T.n_abs bb_abs (da_cons (de_op op_sub os_sub (de_ix ix_seq os_ix (dv 6) de_int (fun _ _ => rfl)) (dv 5)) da_nil)) (dv 2) (nomark _)))).dt)) (fun _ _ _ _ _ => de_int)) (de_lst da_nil) (nomark _)) (dss_one (ds_asg de_bl (dg_sub (W := WF) (dv 3) (de_tup (da_cons (de_frz (dv 4)) (da_cons (de_frz (dv 5)) da_nil))) (set_dictU hr.units) ss_dict))) dss_nil)))
    (dss_one (ds_ret (dv 3)))))) ?_
  rintro es μ q x - ⟨d, w, h, g, rfl, ⟨hw, hh⟩, cs, rfl, hcl, k⟩
  have hfl := flr_le (a := 20) (b := 20) (w := w) (h := h) (by omega) (by omega)
  walk_at "run"
  refine for_stD (fun i (gs : List Pt) => gs.length ≤ i ∧ gs.Nodup ∧ ∀ p, p ∈ gs ↔ p ∈ (flr w h).take i ∧ ∃ c ∈ cs, near g c p) (fun η _ => η) (fun _ cs => μ ++ [.dct (cs.map ptE)]) [] rfl rfl ⟨Nat.le_refl _, by simp, by simp⟩ (fun _ => trivial) ?_ ?_
  · rintro i p gs J hi ⟨hl, hnd, hg⟩ hJ
    have hi' := get_lt hi
    walk_at "run"
    refine lc_filterD (p := fun c => decide (near g c p)) (f := fun _ => .int 1) (as := cs) (by omega) trivial (fun c K K' hc hK => ?e) ?_
    case e =>
      obtain ⟨c1, c2⟩ := c
      rw [show ptD (c1, c2) = .tuple [.int c1, .int c2] from rfl]
      (try walk_at "dx")
      simp only [abs_le]
      by_cases hn : near g (c1, c2) p
      · rw [if_pos (decide_eq_true hn)] at hK
        unfold near at hn
        simp only at hn
        rw [if_pos (by omega), if_pos (by omega)]
        exact hK
      · rw [if_neg (by simp [hn])] at hK
        unfold near at hn
        simp only at hn
        by_cases h1 : -g ≤ c1 - p.1 ∧ c1 - p.1 ≤ g
        · rw [if_pos h1, if_neg (by omega)]
          exact hK
        · rw [if_neg h1]
          exact hK
    (try walk_at "dx")
    have mem : ∀ z, z ∈ (flr w h).take (i + 1) ↔ z ∈ (flr w h).take i ∨ z = p := fun z => by rw [List.take_add_one, hi]; simp
    refine ⟨noDs_map (fun _ => noD_i) _, ?_⟩
    rw [map_one]
    by_cases he : ∃ c ∈ cs, near g c p
    · have ne : cs.filter (fun c => decide (near g c p)) ≠ [] := fun z => by
        obtain ⟨c, hc, hn⟩ := he
        have : c ∈ cs.filter (fun c => decide (near g c p)) := List.mem_filter.mpr ⟨hc, decide_eq_true hn⟩
        rw [z] at this
        simp at this
      rw [decide_eq_false ne, if_pos (by rfl)]
      have yes := hJ (insC gs (p.1, p.2)) ⟨Nat.le_trans (len_ins _ _) (by omega), nodup_ins hnd _, fun z => by
        rw [mem_ins, hg, mem]
        constructor
        · rintro (⟨h1, h2⟩ | rfl)
          · exact ⟨.inl h1, h2⟩
          · exact ⟨.inr rfl, he⟩
        · rintro ⟨h1 | rfl, h2⟩
          · exact .inl ⟨h1, h2⟩
          · exact .inr rfl⟩
      simp only [fg_cons, fg_nil, List.set_cons_succ, List.set_cons_zero] at yes
      walk_at "run"
      (try walk_at "ok")
      rw [put_pt]
      exact yes
    · have ne : cs.filter (fun c => decide (near g c p)) = [] := List.filter_eq_nil_iff.mpr fun c hc hn => he ⟨c, hc, of_decide_eq_true hn⟩
      rw [decide_eq_true ne, if_neg (by simp)]
      have no := hJ gs ⟨by omega, hnd, fun z => by
        rw [hg, mem]
        constructor
        · rintro ⟨h1, h2⟩
          exact ⟨.inl h1, h2⟩
        · rintro ⟨h1 | rfl, h2⟩
          · exact ⟨h1, h2⟩
          · exact absurd h2 he⟩
      simp only [fg_cons, fg_nil, List.set_cons_succ, List.set_cons_zero] at no
      exact no
  · rintro gs ⟨hl, hnd, hg⟩
    walk_at "run"
    refine k gs (fun p => ?_) hnd
    rw [hg, List.take_length, mem_flr]

local macro_rules | `(tactic| walk_at "dx") => `(tactic| simp (disch := first | assumption | omega) only [↓e_joined, ↓e_moved, ↓e_common, ↓e_without, ↓ix_sz, ↓gTp_pt, ↓enumK_sh, ↓e_places, ↓e_count, ↓e_nothing, ↓e_has, ↓e_spread, ↓e_is_number, ↓isNum_i, ↓isNum_b, ↓isNum_n, ↓isNum_s, ↓isNum_l, ↓isNum_t, ↓e_is_place, ↓e_sheet_of, ↓e_sheet_of1, sh_eqv, sh_nod, sh_dmin, ↓e_flood, ↓e_grown, ↓e_turned_sheet, ↓e_mirrored, ↓e_law_floor, ↓e_law_sheet, ↓seqDK_pt, ↓gTp_pt, ↓kvT_pt, ↓ix_sz, ↓e_law_same, ↓e_law_size, ↓e_law_cells, ↓memA_dct, hasKs_ptE, ↓e_law_come_to, ↓e_law_near, ↓dVar_0, ↓dVar_1, ↓dVar_2, ↓dVar_3, ↓dVar_4, ↓dVar_5, ↓dVar_6, ↓dVar_7, ↓dVar_8, ↓dVar_9, ↓dVar_10, ↓dVar_11, ↓dVar_12, ↓dVar_13, ↓dVar_14, ↓dVar_15, ↓old_dat, ↓old_loc, ↓old_raw, ↓old_exc, ↓old_ro, ↓wDs_nil, ↓wDs_cons, ↓x_dC, ↓x_dRaw, ↓x_dFrz, ↓x_dCell, ↓x_dStl, ↓x_aNil, ↓x_aCons, ↓x_dLst, ↓x_dTup, ↓x_tVal, ↓x_tAndD, ↓x_tOrD, ↓x_tNotD, ↓x_tYesD, ↓x_dAndV, ↓x_dOrV, ↓x_dNotV, ↓x_dIfE, ↓x_dOp, ↓x_dUn, ↓x_dCB, ↓x_dChain, ↓intK_i, ↓x_oNo, ↓x_oSome, ↓x_dSl, ↓x_gNm, ↓x_gNl0, ↓x_gCn, ↓x_gTp, ↓x_gSb, ↓x_dCall, ↓seqK_tup, ↓seqK_lst, ↓seqK_new, ↓seqK_ro, ↓seqK_str, ↓rng1_i, ↓rng2_i, ↓x_iSeq, ↓x_iRange1, ↓x_iRange2, ↓x_dBM, ↓x_dBM0, ↓x_isStr, ↓bools_k, ↓ints_k, ↓strs_k, ↓lstK_lst, ↓lstK_new, ↓sqK_lst, ↓sqK_new, ↓sqK_tup, ↓sqK_ro, ↓x_oAll, ↓x_oSum, ↓x_oJoin, ↓x_oList, ↓x_oTuple, ↓x_oIsN, ↓x_oNotN, ↓x_lc, ↓int_i, ↓int_b, ↓mem_l, ↓mem_t, ↓mem_n, ↓x_srtS, ↓mul_ni, ↓mul_li, ↓wD_dat, ↓wD_new, ↓wB_b, ↓nN_dat, ↓nN_loc, ↓nN_raw, ↓nN_ro, ↓nN_exc, ↓aO_nil, ↓aO_cons, ↓stl_dat, ↓stl_new, ↓stl_loc, ↓stl_raw, ↓stl_ro, ↓stl_exc, ↓cel_dat, ↓cel_new, ↓cel_loc, ↓cel_raw, ↓cel_ro, ↓add_int, ↓add_strD, ↓add_tup, ↓add_ll, ↓add_ln, ↓add_nl, ↓add_nn, ↓oI_ii, ↓oI0_ii, ↓neg_i, ↓inv_i, ↓mul_int, ↓eq_dd, ↓ne_dd, ↓eq_nd, ↓ne_nd, ↓eq_dn, ↓ne_dn, ↓eq_nn, ↓ne_nn, ↓sign_ss, ↓ix_s, ↓ix_tupD, ↓ix_lstD, ↓ix_new, ↓ix_ro, ↓sl_s, ↓sl_tupD, ↓sl_lstD, ↓sl_new, ↓sl_ro, ↓len_str, ↓len_tup, ↓len_lst, ↓len_new, ↓len_ro, ↓max_ii, ↓min_ii, ↓isi_int, ↓isi_bool, ↓isi_str, ↓isi_list, ↓isi_tuple, ↓isi_dict, ↓exitQ_dat, ↓exitQ_new, ↓exitQ_raw, ↓cl_nil, ↓cl_none, ↓cl_dat, ↓cl_ro, ↓cl_raw, ↓cl_odat, ↓dVar_16, ↓dVar_17, ↓dVar_18, ↓dVar_19, ↓dVar_20, ↓dVar_21, ↓dVar_22, ↓dVar_23, ↓dVar_24, ↓dVar_25, ↓dVar_26, ↓dVar_27, ↓dVar_28, ↓dVar_29, ↓dVar_30, ↓dVar_31, ↓dVar_32, ↓dVar_33, ↓dVar_34, ↓dVar_35, ↓noD_n, ↓noD_b, ↓noD_i, ↓noD_s, ↓noD_l, ↓noD_t, ↓noDs_nil, ↓noDs_cons, ↓noDs_app, ↓noDs_i, ↓noDs_s, ↓noDs_b, ↓exC_k, ↓isIntD_none, ↓isIntD_bool, ↓isIntD_int, ↓isIntD_str, ↓isIntD_list, ↓isIntD_tuple, ↓isIntD_dict, ↓isBoolD_none, ↓isBoolD_bool, ↓isBoolD_int, ↓isBoolD_str, ↓isBoolD_list, ↓isBoolD_tuple, ↓isBoolD_dict, ↓isStrD_none, ↓isStrD_bool, ↓isStrD_int, ↓isStrD_str, ↓isStrD_list, ↓isStrD_tuple, ↓isStrD_dict, ↓isListD_none, ↓isListD_bool, ↓isListD_int, ↓isListD_str, ↓isListD_list, ↓isListD_tuple, ↓isListD_dict, ↓isTupD_none, ↓isTupD_bool, ↓isTupD_int, ↓isTupD_str, ↓isTupD_list, ↓isTupD_tuple, ↓isTupD_dict, ↓isDictD_none, ↓isDictD_bool, ↓isDictD_int, ↓isDictD_str, ↓isDictD_list, ↓isDictD_tuple, ↓isDictD_dict, ↓neg_i2, ↓inv_i2, ↓x_iSeqD, ↓seqDK_d, ↓seqDK_t, ↓seqDK_l, ↓seqDK_s, ↓seqDK_n, ↓seqDK_r, ↓seqDK_c, ↓x_iZipD, ↓zipK_t, ↓zipK_l, ↓x_dNewD, ↓lcD_d, ↓keysK_nil, ↓keysK_i, ↓keysK_s, ↓keysP_nil, ↓keysP_i, ↓keysP_s, ↓c_setD, ↓memA_dict, ↓memA_l, ↓memA_t, ↓memA_n, ↓c_memA, ↓memC_d, ↓memC_l, ↓memC_f, ↓cell_nd, ↓cell_nk, ↓stl_nd, ↓stl_nk, ↓ex_nd, ↓ex_nk, ↓x_dCellA, ↓cellA_new, ↓nextA_eq, ↓stateA_eq, ↓cellA_eq, ↓fg_nil, ↓fg_cons, ↓lcR_l, ↓lcR_f, ↓lcK_l, ↓c_len, ↓c_ix, ↓c_ixC, ↓c_app, ↓c_set, ↓c_isL, ↓c_lstK, ↓c_sqK, ↓c_mem, ↓c_addn, ↓c_addl, ↓c_sl, ↓c_seqK, ↓seqC_l, ↓seqC_f, ↓c_wD, ↓wdC_l, ↓wdC_f, ↓exC_l, ↓exC_f, ↓exC_d, ↓cellK_new, ↓cellK_dat, ↓cellK_loc, ↓get_a0, ↓get_a1, ↓get_a2, ↓get_a3, ↓set_a0, ↓set_a1, ↓set_a2, ↓set_a3, ↓lnD_str, ↓lnD_tup, ↓lnD_lst, ↓lnD_new, ↓lnD_ro, ↓lnD_d, ↓c_lenD, ↓lnC_d, ↓lnC_k, ↓lnC_l, ↓lnC_f, ↓eq_cN, ↓eq_cD, ↓eq_Nc, ↓eq_Dc, ↓ne_cN, ↓ne_cD, ↓ne_Nc, ↓ne_Dc, ↓x_iEnumD, ↓enumK_t, ↓enumK_l, ↓enumK_r, ↓enumK_tk, ↓enumK_lk, ↓srt_d, ↓srt_l, ↓srt_n, ↓c_srt, ↓srtC_l, ↓srtC_f, ↓srtC_d, ↓lsA_t, ↓lsA_l, ↓lsA_n, ↓lsA_r, ↓c_lsA, ↓c_isi_list, ↓c_isi_dict, ↓c_isi_tuple, ↓isiB_l, ↓isiB_f, ↓isiB_d, ↓isiB_k, ↓isi_n_list, ↓isi_n_tuple, ↓x_dListIt, ↓litK_d, ↓augK_s, ↓iadd_ii, ↓c_iaddn, ↓c_iaddl, ↓abs_i, ↓x_dRevL, ↓revK_n, ↓revK_l, ↓cnt_n, ↓cnt_l, ↓idx_l, ↓isLst_l, ↓isLst_n, ↓c_pop, ↓c_popD, ↓c_isD, ↓lcD2_d, ↓lcD2_k, ↓tk_0, ↓tk_a0, ↓tk_a1, ↓tk_a2, ↓tk_a3, ↓tk_a4, dVar_0, dVar_1, dVar_2, dVar_3, dVar_4, dVar_5, dVar_6, dVar_7, dVar_8, dVar_9, dVar_10, dVar_11, dVar_12, dVar_13, dVar_14, dVar_15, old_dat, old_loc, old_raw, old_exc, old_ro, wDs_nil, wDs_cons, x_dC, x_dRaw, x_dFrz, x_dCell, x_dStl, x_aNil, x_aCons, x_dLst, x_dTup, x_tVal, x_tAndD, x_tOrD, x_tNotD, x_tYesD, x_dAndV, x_dOrV, x_dNotV, x_dIfE, x_dOp, x_dUn, x_dCB, x_dChain, intK_i, x_oNo, x_oSome, x_dSl, x_gNm, x_gNl0, x_gCn, x_gTp, x_gSb, x_dCall, seqK_tup, seqK_lst, seqK_new, seqK_ro, seqK_str, rng1_i, rng2_i, x_iSeq, x_iRange1, x_iRange2, x_dBM, x_dBM0, x_isStr, bools_k, ints_k, strs_k, lstK_lst, lstK_new, sqK_lst, sqK_new, sqK_tup, sqK_ro, x_oAll, x_oSum, x_oJoin, x_oList, x_oTuple, x_oIsN, x_oNotN, x_lc, int_i, int_b, mem_l, mem_t, mem_n, x_srtS, mul_ni, mul_li, wD_dat, wD_new, wB_b, nN_dat, nN_loc, nN_raw, nN_ro, nN_exc, aO_nil, aO_cons, stl_dat, stl_new, stl_loc, stl_raw, stl_ro, stl_exc, cel_dat, cel_new, cel_loc, cel_raw, cel_ro, add_int, add_strD, add_tup, add_ll, add_ln, add_nl, add_nn, oI_ii, oI0_ii, neg_i, inv_i, mul_int, eq_dd, ne_dd, eq_nd, ne_nd, eq_dn, ne_dn, eq_nn, ne_nn, sign_ss, ix_s, ix_tupD, ix_lstD, ix_new, ix_ro, sl_s, sl_tupD, sl_lstD, sl_new, sl_ro, len_str, len_tup, len_lst, len_new, len_ro, max_ii, min_ii, isi_int, isi_bool, isi_str, isi_list, isi_tuple, isi_dict, exitQ_dat, exitQ_new, exitQ_raw, cl_nil, cl_none, cl_dat, cl_ro, cl_raw, cl_odat, dVar_16, dVar_17, dVar_18, dVar_19, dVar_20, dVar_21, dVar_22, dVar_23, dVar_24, dVar_25, dVar_26, dVar_27, dVar_28, dVar_29, dVar_30, dVar_31, dVar_32, dVar_33, dVar_34, dVar_35, noD_n, noD_b, noD_i, noD_s, noD_l, noD_t, noDs_nil, noDs_cons, noDs_app, noDs_i, noDs_s, noDs_b, exC_k, isIntD_none, isIntD_bool, isIntD_int, isIntD_str, isIntD_list, isIntD_tuple, isIntD_dict, isBoolD_none, isBoolD_bool, isBoolD_int, isBoolD_str, isBoolD_list, isBoolD_tuple, isBoolD_dict, isStrD_none, isStrD_bool, isStrD_int, isStrD_str, isStrD_list, isStrD_tuple, isStrD_dict, isListD_none, isListD_bool, isListD_int, isListD_str, isListD_list, isListD_tuple, isListD_dict, isTupD_none, isTupD_bool, isTupD_int, isTupD_str, isTupD_list, isTupD_tuple, isTupD_dict, isDictD_none, isDictD_bool, isDictD_int, isDictD_str, isDictD_list, isDictD_tuple, isDictD_dict, neg_i2, inv_i2, x_iSeqD, seqDK_d, seqDK_t, seqDK_l, seqDK_s, seqDK_n, seqDK_r, seqDK_c, x_iZipD, zipK_t, zipK_l, x_dNewD, lcD_d, keysK_nil, keysK_i, keysK_s, keysP_nil, keysP_i, keysP_s, c_setD, memA_dict, memA_l, memA_t, memA_n, c_memA, memC_d, memC_l, memC_f, cell_nd, cell_nk, stl_nd, stl_nk, ex_nd, ex_nk, x_dCellA, cellA_new, nextA_eq, stateA_eq, cellA_eq, fg_nil, fg_cons, lcR_l, lcR_f, lcK_l, c_len, c_ix, c_ixC, c_app, c_set, c_isL, c_lstK, c_sqK, c_mem, c_addn, c_addl, c_sl, c_seqK, seqC_l, seqC_f, c_wD, wdC_l, wdC_f, exC_l, exC_f, exC_d, cellK_new, cellK_dat, cellK_loc, get_a0, get_a1, get_a2, get_a3, set_a0, set_a1, set_a2, set_a3, lnD_str, lnD_tup, lnD_lst, lnD_new, lnD_ro, lnD_d, c_lenD, lnC_d, lnC_k, lnC_l, lnC_f, eq_cN, eq_cD, eq_Nc, eq_Dc, ne_cN, ne_cD, ne_Nc, ne_Dc, x_iEnumD, enumK_t, enumK_l, enumK_r, enumK_tk, enumK_lk, srt_d, srt_l, srt_n, c_srt, srtC_l, srtC_f, srtC_d, lsA_t, lsA_l, lsA_n, lsA_r, c_lsA, c_isi_list, c_isi_dict, c_isi_tuple, isiB_l, isiB_f, isiB_d, isiB_k, isi_n_list, isi_n_tuple, x_dListIt, litK_d, augK_s, iadd_ii, c_iaddn, c_iaddl, abs_i, x_dRevL, revK_n, revK_l, cnt_n, cnt_l, idx_l, isLst_l, isLst_n, c_pop, c_popD, c_isD, lcD2_d, lcD2_k, tk_0, tk_a0, tk_a1, tk_a2, tk_a3, tk_a4, isR_h, isR_app, isR_last, exitQ_ge, exitQ_lt, cl_loc, nle_h, nlt_h, ile_h, ilt_h, cmul_l, cmul_r, cdiv_h, cpow_h, csh_h, csh_0, oLt, oLe, oGt, oGe, oSub, oMod, oDiv, oPow, oShl, oShr, oAnd, oOr, oXor, isRaw, isNon, startD, List.length_map, decide_eq_true_eq, List.map_cons, List.map_nil, List.length_cons, List.length_nil, List.cons_append, List.nil_append, List.append_nil, List.replicate, List.getElem?_cons_zero, List.getElem?_cons_succ, List.set_cons_zero, List.set_cons_succ, List.take_length, true_and, and_true, eqv_int, eqv_bool, eqv_str, dep_int, dep_bool, dep_str, dep_none, min0l, min0r, Option.map_some, Option.map_none, if_true, if_false, Bool.and_true, Bool.true_and, Bool.false_eq_true, Bool.not_true, Bool.not_false, reduceIte, wipeD, List.append_assoc, at_nn, Option.some.injEq, exists_eq_left, exists_eq_left', Int.reduceToNat, Int.reduceLE, Int.reduceLT, List.length_set, Nat.reduceAdd, Nat.reduceLeDiff, Nat.reduceSub, dat_dat, dat_new, lst_lst, lst_new, seq_tup, seq_lst, seq_new, seq_ro, List.length_append, Nat.zero_add, eqv_tup, eqv_lst, eqvA_nn, eqvA_cc, eqvA_nc, eqvA_cn, dep_tup, dep_lst, depA_nil, depA_cons, Nat.max_zero, Nat.zero_max, Nat.lt_add_one, forall_const, oShlA, rng_c, Int.toNat_natCast, List.flatten_nil, decide_true, decide_false])
def keysPt (d : PyData) : List PyData := match d with
  | .dict l => l.map fun p => p.1
  | _ => []
theorem dctD_inj {a b : List Pt} : (dctD a = dctD b) = (a = b) := by
  refine propext ⟨fun e => ?_, fun e => by rw [e]⟩
  have h := congrArg keysPt e
  simp only [dctD, keysPt, List.map_map] at h
  have h' : a.map ptD = b.map ptD := h
  rwa [enc_pt.map_eq] at h'
theorem plcs_d {P : List Pt → Prop} {cs : List Pt} : (∃ c, plcs (dctD cs) c ∧ P c) = P cs := by
  refine propext ⟨?_, fun p => ⟨cs, .inl rfl, p⟩⟩
  rintro ⟨c, h | h, p⟩
  · rw [dctD_inj] at h
    exact h ▸ p
  · cases h
theorem plcs_l {P : List Pt → Prop} {cs : List Pt} : (∃ c, plcs (.list (cs.map ptD)) c ∧ P c) = P cs := by
  refine propext ⟨?_, fun p => ⟨cs, .inr rfl, p⟩⟩
  rintro ⟨c, h | h, p⟩
  · cases h
  · simp only [PyData.list.injEq] at h
    rw [enc_pt.map_eq] at h
    exact h ▸ p
theorem noSelf {α : Type} [DecidableEq α] {a : α} : (!decide (a = a)) = false := by rw [decide_eq_true rfl]; rfl
theorem map_app_pt {a b : List Pt} : a.map ptD ++ b.map ptD = (a ++ b).map ptD := (List.map_append).symm
theorem listA_pt {cs : List Pt} {μ : Mu} {q : PQ} : oListA [.dat (dctD cs)] μ q = q (.new (cs.map ptD)) μ := by
  unfold dctD
  rw [x_oListA_d]
  simp [ptD, isTupD_tuple, Function.comp_def]
  rfl
theorem gTp_pr {t : TDGs} {a b : PyData} {η : DEnv} {μ : Mu} {q : DEnv → Mu → Prop} : gTp 2 t (.dat (.tuple [a, b])) η μ q = t [a, b] η μ q := by
  rw [x_gTp]
  simp

theorem ex_dctD {P : List Pt → Prop} {cs : List Pt} : (∃ c, dctD cs = dctD c ∧ P c) = P cs := propext ⟨fun ⟨c, e, p⟩ => by rw [dctD_inj] at e; exact e ▸ p, fun p => ⟨cs, rfl, p⟩⟩
theorem lnD_pt {cs : List Pt} {μ : Mu} {q : PQ} : oLenD [.dat (dctD cs)] μ q = q (.dat (.int cs.length)) μ := by
  unfold dctD
  rw [lnD_d, List.length_map]
theorem srt_pt {cs : List Pt} {μ : Mu} {q : PQ} : oSortD [.dat (dctD cs)] μ q = q (.new ((cs.mergeSort leP).map ptD)) μ := by
  unfold dctD
  rw [srt_d, allT_pt]
  have e : (cs.map fun c => (ptD c, PyData.bool true)).map (·.1) = cs.map ptD := by rw [List.map_map]; rfl
  rw [e, sort_pt]
  exact propext ⟨fun h => h.2.2, fun h => ⟨rfl, alike_pt cs, h⟩⟩
theorem len_shC (w h : Nat) (cs : List Pt) : (shC w h cs).length = h := sheetB_len _ _ _
theorem okS_shC (w h : Nat) (cs : List Pt) : okS w (shC w h cs) = True := eq_true (sheetB_ok _ _ _)
theorem okS_10 {w h : Nat} {cs : List Pt} (hw : w ≤ 10) : okS 10 (shC w h cs) = True := eq_true fun r hr => Nat.lt_of_lt_of_le (sheetB_ok _ _ _ r hr) (Nat.pow_le_pow_right (by decide) hw)
theorem bit_in {w h : Nat} {cs : List Pt} (hc : ∀ c ∈ cs, inF w h c) (a b : Int) : bitS (shC w h cs) a b = decide ((a, b) ∈ cs) := by
  rw [shC_bit, Bool.eq_iff_iff, Bool.and_eq_true, decide_eq_true_eq, decide_eq_true_eq]
  exact ⟨fun z => z.2, fun z => ⟨hc _ z, z⟩⟩
theorem cells_perm {w h : Nat} {cs : List Pt} (hc : ∀ c ∈ cs, inF w h c) (hn : cs.Nodup) : (cellsB (shC w h cs)).Perm cs :=
  cellsB_perm hn fun p => by rw [bit_in hc, decide_eq_true_eq]
theorem eqvA_pt (as bs : List Pt) : PyData.eqvAll (as.map ptD) (bs.map ptD) = decide (as = bs) := by
  rw [Bool.eq_iff_iff, enc_pt.all, decide_eq_true_eq]
theorem depA_pt (as : List Pt) (n : Nat) : (min (PyData.depthAll (as.map ptD) + 1) n ≤ 64) = True := eq_true (by
  have := depA_map ptD (n := 1) (fun a => enc_pt.dep a) as
  omega)
theorem eqvs_pt (as : List Pt) : PyData.eqv (.list (as.map ptD)) (.list (as.map ptD)) = true := enc_pt.list.eqvs as
theorem dep_ptl (as : List Pt) (n : Nat) : (min (PyData.list (as.map ptD)).depth n ≤ 64) = True := enc_pt.list.dmin (by decide) as n

theorem inF_10 {w h : Nat} {c : Pt} (hw : w ≤ 10) (hh : h ≤ 10) (hc : inF w h c) : c ∈ pts10 := mem_pts10 hc.1 (by have := hc.2.1; omega) hc.2.2.1 (by have := hc.2.2.2; omega)
theorem len_foldIns (cs : List Pt) : ∀ ad : List Pt, (cs.foldl insC ad).length ≤ ad.length + cs.length := by
  induction cs with
  | nil => intro ad; simp
  | cons c cs ih =>
    intro ad
    rw [List.foldl_cons, List.length_cons]
    have := ih (insC ad c)
    have := len_ins ad c
    omega
theorem nodup_fold (cs : List Pt) : ∀ ad : List Pt, ad.Nodup → (cs.foldl insC ad).Nodup := by
  induction cs with
  | nil => exact fun ad h => h
  | cons c cs ih => exact fun ad h => ih _ (nodup_ins h c)
/-- the cells that a sheet is of -/
structure StC (w h : Nat) (cs : List Pt) : Prop where
  inn : ∀ c ∈ cs, inF w h c
  nd : cs.Nodup
theorem StC.len {w h : Nat} {cs : List Pt} (S : StC w h cs) (hw : w ≤ 10) (hh : h ≤ 10) : cs.length ≤ 400 := by
  have h1 := (cells_perm S.inn S.nd).length_eq
  have h2 := cellsB_len (sheetB_ok w h fun x y => decide ((x, y) ∈ cs))
  rw [sheetB_len] at h2
  have h3 : h * w ≤ 10 * 10 := Nat.mul_le_mul hh hw
  unfold shC at h1
  omega
local macro_rules | `(tactic| walk_at "dx") => `(tactic| simp (disch := first | assumption | omega) only [↓e_joined, ↓e_moved, ↓e_common, ↓e_without, ↓ix_sz, ↓gTp_pt, ↓enumK_sh, ↓e_places, ↓e_count, ↓e_nothing, ↓e_has, ↓e_spread, ↓e_is_number, ↓isNum_i, ↓isNum_b, ↓isNum_n, ↓isNum_s, ↓isNum_l, ↓isNum_t, ↓e_is_place, ↓e_sheet_of, ↓e_sheet_of1, sh_eqv, sh_nod, sh_dmin, ↓e_flood, ↓e_grown, ↓e_turned_sheet, ↓e_mirrored, ↓e_law_floor, ↓e_law_sheet, ↓seqDK_pt, ↓gTp_pt, ↓kvT_pt, ↓ix_sz, ↓e_law_same, ↓e_law_size, ↓e_law_cells, ↓memA_dct, hasKs_ptE, ↓e_law_come_to, ↓e_law_near, ↓ex_dctD, ↓plcs_d, ↓plcs_l, ↓listA_pt, ↓lnD_pt, ↓srt_pt, ↓gTp_pr, okS_shC, len_shC, okS_10, noDs_pt, ↓dVar_0, ↓dVar_1, ↓dVar_2, ↓dVar_3, ↓dVar_4, ↓dVar_5, ↓dVar_6, ↓dVar_7, ↓dVar_8, ↓dVar_9, ↓dVar_10, ↓dVar_11, ↓dVar_12, ↓dVar_13, ↓dVar_14, ↓dVar_15, ↓old_dat, ↓old_loc, ↓old_raw, ↓old_exc, ↓old_ro, ↓wDs_nil, ↓wDs_cons, ↓x_dC, ↓x_dRaw, ↓x_dFrz, ↓x_dCell, ↓x_dStl, ↓x_aNil, ↓x_aCons, ↓x_dLst, ↓x_dTup, ↓x_tVal, ↓x_tAndD, ↓x_tOrD, ↓x_tNotD, ↓x_tYesD, ↓x_dAndV, ↓x_dOrV, ↓x_dNotV, ↓x_dIfE, ↓x_dOp, ↓x_dUn, ↓x_dCB, ↓x_dChain, ↓intK_i, ↓x_oNo, ↓x_oSome, ↓x_dSl, ↓x_gNm, ↓x_gNl0, ↓x_gCn, ↓x_gTp, ↓x_gSb, ↓x_dCall, ↓seqK_tup, ↓seqK_lst, ↓seqK_new, ↓seqK_ro, ↓seqK_str, ↓rng1_i, ↓rng2_i, ↓x_iSeq, ↓x_iRange1, ↓x_iRange2, ↓x_dBM, ↓x_dBM0, ↓x_isStr, ↓bools_k, ↓ints_k, ↓strs_k, ↓lstK_lst, ↓lstK_new, ↓sqK_lst, ↓sqK_new, ↓sqK_tup, ↓sqK_ro, ↓x_oAll, ↓x_oSum, ↓x_oJoin, ↓x_oList, ↓x_oTuple, ↓x_oIsN, ↓x_oNotN, ↓x_lc, ↓int_i, ↓int_b, ↓mem_l, ↓mem_t, ↓mem_n, ↓x_srtS, ↓mul_ni, ↓mul_li, ↓wD_dat, ↓wD_new, ↓wB_b, ↓nN_dat, ↓nN_loc, ↓nN_raw, ↓nN_ro, ↓nN_exc, ↓aO_nil, ↓aO_cons, ↓stl_dat, ↓stl_new, ↓stl_loc, ↓stl_raw, ↓stl_ro, ↓stl_exc, ↓cel_dat, ↓cel_new, ↓cel_loc, ↓cel_raw, ↓cel_ro, ↓add_int, ↓add_strD, ↓add_tup, ↓add_ll, ↓add_ln, ↓add_nl, ↓add_nn, ↓oI_ii, ↓oI0_ii, ↓neg_i, ↓inv_i, ↓mul_int, ↓eq_dd, ↓ne_dd, ↓eq_nd, ↓ne_nd, ↓eq_dn, ↓ne_dn, ↓eq_nn, ↓ne_nn, ↓sign_ss, ↓ix_s, ↓ix_tupD, ↓ix_lstD, ↓ix_new, ↓ix_ro, ↓sl_s, ↓sl_tupD, ↓sl_lstD, ↓sl_new, ↓sl_ro, ↓len_str, ↓len_tup, ↓len_lst, ↓len_new, ↓len_ro, ↓max_ii, ↓min_ii, ↓isi_int, ↓isi_bool, ↓isi_str, ↓isi_list, ↓isi_tuple, ↓isi_dict, ↓exitQ_dat, ↓exitQ_new, ↓exitQ_raw, ↓cl_nil, ↓cl_none, ↓cl_dat, ↓cl_ro, ↓cl_raw, ↓cl_odat, ↓dVar_16, ↓dVar_17, ↓dVar_18, ↓dVar_19, ↓dVar_20, ↓dVar_21, ↓dVar_22, ↓dVar_23, ↓dVar_24, ↓dVar_25, ↓dVar_26, ↓dVar_27, ↓dVar_28, ↓dVar_29, ↓dVar_30, ↓dVar_31, ↓dVar_32, ↓dVar_33, ↓dVar_34, ↓dVar_35, ↓noD_n, ↓noD_b, ↓noD_i, ↓noD_s, ↓noD_l, ↓noD_t, ↓noDs_nil, ↓noDs_cons, ↓noDs_app, ↓noDs_i, ↓noDs_s, ↓noDs_b, ↓exC_k, ↓isIntD_none, ↓isIntD_bool, ↓isIntD_int, ↓isIntD_str, ↓isIntD_list, ↓isIntD_tuple, ↓isIntD_dict, ↓isBoolD_none, ↓isBoolD_bool, ↓isBoolD_int, ↓isBoolD_str, ↓isBoolD_list, ↓isBoolD_tuple, ↓isBoolD_dict, ↓isStrD_none, ↓isStrD_bool, ↓isStrD_int, ↓isStrD_str, ↓isStrD_list, ↓isStrD_tuple, ↓isStrD_dict, ↓isListD_none, ↓isListD_bool, ↓isListD_int, ↓isListD_str, ↓isListD_list, ↓isListD_tuple, ↓isListD_dict, ↓isTupD_none, ↓isTupD_bool, ↓isTupD_int, ↓isTupD_str, ↓isTupD_list, ↓isTupD_tuple, ↓isTupD_dict, ↓isDictD_none, ↓isDictD_bool, ↓isDictD_int, ↓isDictD_str, ↓isDictD_list, ↓isDictD_tuple, ↓isDictD_dict, ↓neg_i2, ↓inv_i2, ↓x_iSeqD, ↓seqDK_d, ↓seqDK_t, ↓seqDK_l, ↓seqDK_s, ↓seqDK_n, ↓seqDK_r, ↓seqDK_c, ↓x_iZipD, ↓zipK_t, ↓zipK_l, ↓x_dNewD, ↓lcD_d, ↓keysK_nil, ↓keysK_i, ↓keysK_s, ↓keysP_nil, ↓keysP_i, ↓keysP_s, ↓c_setD, ↓memA_dict, ↓memA_l, ↓memA_t, ↓memA_n, ↓c_memA, ↓memC_d, ↓memC_l, ↓memC_f, ↓cell_nd, ↓cell_nk, ↓stl_nd, ↓stl_nk, ↓ex_nd, ↓ex_nk, ↓x_dCellA, ↓cellA_new, ↓nextA_eq, ↓stateA_eq, ↓cellA_eq, ↓fg_nil, ↓fg_cons, ↓lcR_l, ↓lcR_f, ↓lcK_l, ↓c_len, ↓c_ix, ↓c_ixC, ↓c_app, ↓c_set, ↓c_isL, ↓c_lstK, ↓c_sqK, ↓c_mem, ↓c_addn, ↓c_addl, ↓c_sl, ↓c_seqK, ↓seqC_l, ↓seqC_f, ↓c_wD, ↓wdC_l, ↓wdC_f, ↓exC_l, ↓exC_f, ↓exC_d, ↓cellK_new, ↓cellK_dat, ↓cellK_loc, ↓get_a0, ↓get_a1, ↓get_a2, ↓get_a3, ↓set_a0, ↓set_a1, ↓set_a2, ↓set_a3, ↓lnD_str, ↓lnD_tup, ↓lnD_lst, ↓lnD_new, ↓lnD_ro, ↓lnD_d, ↓c_lenD, ↓lnC_d, ↓lnC_k, ↓lnC_l, ↓lnC_f, ↓eq_cN, ↓eq_cD, ↓eq_Nc, ↓eq_Dc, ↓ne_cN, ↓ne_cD, ↓ne_Nc, ↓ne_Dc, ↓x_iEnumD, ↓enumK_t, ↓enumK_l, ↓enumK_r, ↓enumK_tk, ↓enumK_lk, ↓srt_d, ↓srt_l, ↓srt_n, ↓c_srt, ↓srtC_l, ↓srtC_f, ↓srtC_d, ↓lsA_t, ↓lsA_l, ↓lsA_n, ↓lsA_r, ↓c_lsA, ↓c_isi_list, ↓c_isi_dict, ↓c_isi_tuple, ↓isiB_l, ↓isiB_f, ↓isiB_d, ↓isiB_k, ↓isi_n_list, ↓isi_n_tuple, ↓x_dListIt, ↓litK_d, ↓augK_s, ↓iadd_ii, ↓c_iaddn, ↓c_iaddl, ↓abs_i, ↓x_dRevL, ↓revK_n, ↓revK_l, ↓cnt_n, ↓cnt_l, ↓idx_l, ↓isLst_l, ↓isLst_n, ↓c_pop, ↓c_popD, ↓c_isD, ↓lcD2_d, ↓lcD2_k, ↓tk_0, ↓tk_a0, ↓tk_a1, ↓tk_a2, ↓tk_a3, ↓tk_a4, dVar_0, dVar_1, dVar_2, dVar_3, dVar_4, dVar_5, dVar_6, dVar_7, dVar_8, dVar_9, dVar_10, dVar_11, dVar_12, dVar_13, dVar_14, dVar_15, old_dat, old_loc, old_raw, old_exc, old_ro, wDs_nil, wDs_cons, x_dC, x_dRaw, x_dFrz, x_dCell, x_dStl, x_aNil, x_aCons, x_dLst, x_dTup, x_tVal, x_tAndD, x_tOrD, x_tNotD, x_tYesD, x_dAndV, x_dOrV, x_dNotV, x_dIfE, x_dOp, x_dUn, x_dCB, x_dChain, intK_i, x_oNo, x_oSome, x_dSl, x_gNm, x_gNl0, x_gCn, x_gTp, x_gSb, x_dCall, seqK_tup, seqK_lst, seqK_new, seqK_ro, seqK_str, rng1_i, rng2_i, x_iSeq, x_iRange1, x_iRange2, x_dBM, x_dBM0, x_isStr, bools_k, ints_k, strs_k, lstK_lst, lstK_new, sqK_lst, sqK_new, sqK_tup, sqK_ro, x_oAll, x_oSum, x_oJoin, x_oList, x_oTuple, x_oIsN, x_oNotN, x_lc, int_i, int_b, mem_l, mem_t, mem_n, x_srtS, mul_ni, mul_li, wD_dat, wD_new, wB_b, nN_dat, nN_loc, nN_raw, nN_ro, nN_exc, aO_nil, aO_cons, stl_dat, stl_new, stl_loc, stl_raw, stl_ro, stl_exc, cel_dat, cel_new, cel_loc, cel_raw, cel_ro, add_int, add_strD, add_tup, add_ll, add_ln, add_nl, add_nn, oI_ii, oI0_ii, neg_i, inv_i, mul_int, eq_dd, ne_dd, eq_nd, ne_nd, eq_dn, ne_dn, eq_nn, ne_nn, sign_ss, ix_s, ix_tupD, ix_lstD, ix_new, ix_ro, sl_s, sl_tupD, sl_lstD, sl_new, sl_ro, len_str, len_tup, len_lst, len_new, len_ro, max_ii, min_ii, isi_int, isi_bool, isi_str, isi_list, isi_tuple, isi_dict, exitQ_dat, exitQ_new, exitQ_raw, cl_nil, cl_none, cl_dat, cl_ro, cl_raw, cl_odat, dVar_16, dVar_17, dVar_18, dVar_19, dVar_20, dVar_21, dVar_22, dVar_23, dVar_24, dVar_25, dVar_26, dVar_27, dVar_28, dVar_29, dVar_30, dVar_31, dVar_32, dVar_33, dVar_34, dVar_35, noD_n, noD_b, noD_i, noD_s, noD_l, noD_t, noDs_nil, noDs_cons, noDs_app, noDs_i, noDs_s, noDs_b, exC_k, isIntD_none, isIntD_bool, isIntD_int, isIntD_str, isIntD_list, isIntD_tuple, isIntD_dict, isBoolD_none, isBoolD_bool, isBoolD_int, isBoolD_str, isBoolD_list, isBoolD_tuple, isBoolD_dict, isStrD_none, isStrD_bool, isStrD_int, isStrD_str, isStrD_list, isStrD_tuple, isStrD_dict, isListD_none, isListD_bool, isListD_int, isListD_str, isListD_list, isListD_tuple, isListD_dict, isTupD_none, isTupD_bool, isTupD_int, isTupD_str, isTupD_list, isTupD_tuple, isTupD_dict, isDictD_none, isDictD_bool, isDictD_int, isDictD_str, isDictD_list, isDictD_tuple, isDictD_dict, neg_i2, inv_i2, x_iSeqD, seqDK_d, seqDK_t, seqDK_l, seqDK_s, seqDK_n, seqDK_r, seqDK_c, x_iZipD, zipK_t, zipK_l, x_dNewD, lcD_d, keysK_nil, keysK_i, keysK_s, keysP_nil, keysP_i, keysP_s, c_setD, memA_dict, memA_l, memA_t, memA_n, c_memA, memC_d, memC_l, memC_f, cell_nd, cell_nk, stl_nd, stl_nk, ex_nd, ex_nk, x_dCellA, cellA_new, nextA_eq, stateA_eq, cellA_eq, fg_nil, fg_cons, lcR_l, lcR_f, lcK_l, c_len, c_ix, c_ixC, c_app, c_set, c_isL, c_lstK, c_sqK, c_mem, c_addn, c_addl, c_sl, c_seqK, seqC_l, seqC_f, c_wD, wdC_l, wdC_f, exC_l, exC_f, exC_d, cellK_new, cellK_dat, cellK_loc, get_a0, get_a1, get_a2, get_a3, set_a0, set_a1, set_a2, set_a3, lnD_str, lnD_tup, lnD_lst, lnD_new, lnD_ro, lnD_d, c_lenD, lnC_d, lnC_k, lnC_l, lnC_f, eq_cN, eq_cD, eq_Nc, eq_Dc, ne_cN, ne_cD, ne_Nc, ne_Dc, x_iEnumD, enumK_t, enumK_l, enumK_r, enumK_tk, enumK_lk, srt_d, srt_l, srt_n, c_srt, srtC_l, srtC_f, srtC_d, lsA_t, lsA_l, lsA_n, lsA_r, c_lsA, c_isi_list, c_isi_dict, c_isi_tuple, isiB_l, isiB_f, isiB_d, isiB_k, isi_n_list, isi_n_tuple, x_dListIt, litK_d, augK_s, iadd_ii, c_iaddn, c_iaddl, abs_i, x_dRevL, revK_n, revK_l, cnt_n, cnt_l, idx_l, isLst_l, isLst_n, c_pop, c_popD, c_isD, lcD2_d, lcD2_k, tk_0, tk_a0, tk_a1, tk_a2, tk_a3, tk_a4, isR_h, isR_app, isR_last, exitQ_ge, exitQ_lt, cl_loc, nle_h, nlt_h, ile_h, ilt_h, cmul_l, cmul_r, cdiv_h, cpow_h, csh_h, csh_0, oLt, oLe, oGt, oGe, oSub, oMod, oDiv, oPow, oShl, oShr, oAnd, oOr, oXor, isRaw, isNon, startD, List.length_map, decide_eq_true_eq, List.map_cons, List.map_nil, List.length_cons, List.length_nil, List.cons_append, List.nil_append, List.append_nil, List.replicate, List.getElem?_cons_zero, List.getElem?_cons_succ, List.set_cons_zero, List.set_cons_succ, List.take_length, true_and, and_true, eqv_int, eqv_bool, eqv_str, dep_int, dep_bool, dep_str, dep_none, min0l, min0r, Option.map_some, Option.map_none, if_true, if_false, Bool.and_true, Bool.true_and, Bool.false_eq_true, Bool.not_true, Bool.not_false, reduceIte, wipeD, List.append_assoc, at_nn, Option.some.injEq, exists_eq_left, exists_eq_left', Int.reduceToNat, Int.reduceLE, Int.reduceLT, List.length_set, Nat.reduceAdd, Nat.reduceLeDiff, Nat.reduceSub, dat_dat, dat_new, lst_lst, lst_new, seq_tup, seq_lst, seq_new, seq_ro, List.length_append, Nat.zero_add, eqv_tup, eqv_lst, eqvA_nn, eqvA_cc, eqvA_nc, eqvA_cn, dep_tup, dep_lst, depA_nil, depA_cons, Nat.max_zero, Nat.zero_max, Nat.lt_add_one, forall_const, oShlA, rng_c, Int.toNat_natCast, List.flatten_nil, decide_true, decide_false])
def sp_law_all_in : SpD := fun es μ q x => ∃ (w : Nat) (h : Nat) (ps : List Pt), es = [.dat (szD w h), .dat (.list (ps.map ptD))] ∧ ((w ≤ 10 ∧ h ≤ 10) ∧ ps.length ≤ 400 ∧ ∀ gs : List Pt, (∀ p, p ∈ gs ↔ p ∈ ps ∧ inF w h p) → gs.Nodup → q (.newd (gs.map ptE)) μ)
theorem e_law_all_in {w : Nat} {h : Nat} {ps : List Pt} {μ : Mu} {q : PQ} {x : XQ} : sp_law_all_in [.dat (szD w h), .dat (.list (ps.map ptD))] μ q x = ((w ≤ 10 ∧ h ≤ 10) ∧ ps.length ≤ 400 ∧ ∀ gs : List Pt, (∀ p, p ∈ gs ↔ p ∈ ps ∧ inF w h p) → gs.Nodup → q (.newd (gs.map ptE)) μ) := by
  refine propext ⟨fun hyp0 => ?_, fun hyp0 => ⟨w, h, ps, rfl, hyp0⟩⟩
  obtain ⟨w', h', ps', eq0, hyp0⟩ := hyp0
  simp only [List.cons.injEq, Exn.mk.injEq, EV.dat.injEq, EV.loc.injEq, EV.new.injEq, EV.ro.injEq, EV.exc.injEq, PyData.int.injEq, PyData.str.injEq, PyData.bool.injEq, PyData.list.injEq, PyData.tuple.injEq, and_true, true_and, and_assoc, map_int_inj, szD_inj, enc_pt.map_eq] at eq0
  obtain ⟨rfl, rfl, rfl⟩ := eq0
  exact hyp0
theorem ok_law_all_in (T : Top K mg) : DefAt P w K mg base "_law_all_in" 1 ["_law_size_here", "_law_some"] [] [] sp_law_all_in := by
  refine def_ok sp_law_all_in T.F_law_all_in sc_law_all_in T.m_law_all_in T.b_law_all_in (fun cdv A outer s H E hr tk pw => (dss_one (ds_ret (de_callTy (call_dictA rfl hr.units) cs_dictA (by rfl) T.n_dict bt_dict (da_cons (de_lc (own := [("_law_x", 2), ("_law_y", 3)]) rfl sc_law_all_in.nd (di_seqD (dv 1)) (blkOk_by (N := ["_law_size_here", "_law_some", "_law_x", "_law_y"]) (sc := defScope s_law_all_in) (by decide +kernel)) (by decide) (fun _ _ _ _ _ => (dg_tup (n := 2) rfl (dgs_cons (dg_name (i := 2) sc_law_all_in.nd rfl (by first | exact Or.inl rfl | exact Or.inr rfl)) (dgs_cons (dg_name (i := 3) sc_law_all_in.nd rfl (by first | exact Or.inl rfl | exact Or.inr rfl)) dgs_nil)))) (fun _ _ _ _ _ => (dts_one (dw_and (dt_chain op_le os_le op_lt os_lt de_int (dv 2) (de_ix ix_seq os_ix (dv 0) de_int (fun _ _ => rfl))) (dw_and1 (dt_chain op_le os_le op_lt os_lt de_int (dv 3) (de_ix ix_seq os_ix (dv 0) de_int (fun _ _ => rfl))))).dt)) (fun _ _ _ _ _ => (de_tup (da_cons (de_frz (de_tup (da_cons (de_frz (dv 2)) (da_cons (de_frz (dv 3)) da_nil)))) (da_cons de_bl da_nil))))) da_nil))))) ?_
  rintro es μ q x - ⟨w, h, ps, rfl, ⟨hw, hh⟩, hpl, k⟩
  walk_at "run"
  refine lc_filterD (p := fun c => decide (inF w h c)) (f := ptP) (as := ps) (by omega) trivial (fun c K N hc hK => ?e) ?_
  case e =>
    (try walk_at "dx")
    by_cases hin : inF w h c
    · rw [if_pos (decide_eq_true hin)] at hK
      unfold inF at hin
      repeat' split
      · exact hK
      all_goals omega
    · rw [if_neg (by simpa using hin)] at hK
      unfold inF at hin
      repeat' split
      · omega
      all_goals exact hK
  (try walk_at "dx")
  refine x_oDictN ?_
  (try walk_at "dx")
  refine k _ (fun p => ?_) (nodup_fold _ _ (by simp))
  rw [mem_foldIns, List.mem_filter, decide_eq_true_eq]
  simp
local macro_rules | `(tactic| walk_at "dx") => `(tactic| simp (disch := first | assumption | omega) only [↓e_joined, ↓e_moved, ↓e_common, ↓e_without, ↓ix_sz, ↓gTp_pt, ↓enumK_sh, ↓e_places, ↓e_count, ↓e_nothing, ↓e_has, ↓e_spread, ↓e_is_number, ↓isNum_i, ↓isNum_b, ↓isNum_n, ↓isNum_s, ↓isNum_l, ↓isNum_t, ↓e_is_place, ↓e_sheet_of, ↓e_sheet_of1, sh_eqv, sh_nod, sh_dmin, ↓e_flood, ↓e_grown, ↓e_turned_sheet, ↓e_mirrored, ↓e_law_floor, ↓e_law_sheet, ↓seqDK_pt, ↓gTp_pt, ↓kvT_pt, ↓ix_sz, ↓e_law_same, ↓e_law_size, ↓e_law_cells, ↓memA_dct, hasKs_ptE, ↓e_law_come_to, ↓e_law_near, ↓ex_dctD, ↓plcs_d, ↓plcs_l, ↓listA_pt, ↓lnD_pt, ↓srt_pt, ↓gTp_pr, okS_shC, len_shC, okS_10, noDs_pt, ↓e_law_all_in, ↓dVar_0, ↓dVar_1, ↓dVar_2, ↓dVar_3, ↓dVar_4, ↓dVar_5, ↓dVar_6, ↓dVar_7, ↓dVar_8, ↓dVar_9, ↓dVar_10, ↓dVar_11, ↓dVar_12, ↓dVar_13, ↓dVar_14, ↓dVar_15, ↓old_dat, ↓old_loc, ↓old_raw, ↓old_exc, ↓old_ro, ↓wDs_nil, ↓wDs_cons, ↓x_dC, ↓x_dRaw, ↓x_dFrz, ↓x_dCell, ↓x_dStl, ↓x_aNil, ↓x_aCons, ↓x_dLst, ↓x_dTup, ↓x_tVal, ↓x_tAndD, ↓x_tOrD, ↓x_tNotD, ↓x_tYesD, ↓x_dAndV, ↓x_dOrV, ↓x_dNotV, ↓x_dIfE, ↓x_dOp, ↓x_dUn, ↓x_dCB, ↓x_dChain, ↓intK_i, ↓x_oNo, ↓x_oSome, ↓x_dSl, ↓x_gNm, ↓x_gNl0, ↓x_gCn, ↓x_gTp, ↓x_gSb, ↓x_dCall, ↓seqK_tup, ↓seqK_lst, ↓seqK_new, ↓seqK_ro, ↓seqK_str, ↓rng1_i, ↓rng2_i, ↓x_iSeq, ↓x_iRange1, ↓x_iRange2, ↓x_dBM, ↓x_dBM0, ↓x_isStr, ↓bools_k, ↓ints_k, ↓strs_k, ↓lstK_lst, ↓lstK_new, ↓sqK_lst, ↓sqK_new, ↓sqK_tup, ↓sqK_ro, ↓x_oAll, ↓x_oSum, ↓x_oJoin, ↓x_oList, ↓x_oTuple, ↓x_oIsN, ↓x_oNotN, ↓x_lc, ↓int_i, ↓int_b, ↓mem_l, ↓mem_t, ↓mem_n, ↓x_srtS, ↓mul_ni, ↓mul_li, ↓wD_dat, ↓wD_new, ↓wB_b, ↓nN_dat, ↓nN_loc, ↓nN_raw, ↓nN_ro, ↓nN_exc, ↓aO_nil, ↓aO_cons, ↓stl_dat, ↓stl_new, ↓stl_loc, ↓stl_raw, ↓stl_ro, ↓stl_exc, ↓cel_dat, ↓cel_new, ↓cel_loc, ↓cel_raw, ↓cel_ro, ↓add_int, ↓add_strD, ↓add_tup, ↓add_ll, ↓add_ln, ↓add_nl, ↓add_nn, ↓oI_ii, ↓oI0_ii, ↓neg_i, ↓inv_i, ↓mul_int, ↓eq_dd, ↓ne_dd, ↓eq_nd, ↓ne_nd, ↓eq_dn, ↓ne_dn, ↓eq_nn, ↓ne_nn, ↓sign_ss, ↓ix_s, ↓ix_tupD, ↓ix_lstD, ↓ix_new, ↓ix_ro, ↓sl_s, ↓sl_tupD, ↓sl_lstD, ↓sl_new, ↓sl_ro, ↓len_str, ↓len_tup, ↓len_lst, ↓len_new, ↓len_ro, ↓max_ii, ↓min_ii, ↓isi_int, ↓isi_bool, ↓isi_str, ↓isi_list, ↓isi_tuple, ↓isi_dict, ↓exitQ_dat, ↓exitQ_new, ↓exitQ_raw, ↓cl_nil, ↓cl_none, ↓cl_dat, ↓cl_ro, ↓cl_raw, ↓cl_odat, ↓dVar_16, ↓dVar_17, ↓dVar_18, ↓dVar_19, ↓dVar_20, ↓dVar_21, ↓dVar_22, ↓dVar_23, ↓dVar_24, ↓dVar_25, ↓dVar_26, ↓dVar_27, ↓dVar_28, ↓dVar_29, ↓dVar_30, ↓dVar_31, ↓dVar_32, ↓dVar_33, ↓dVar_34, ↓dVar_35, ↓noD_n, ↓noD_b, ↓noD_i, ↓noD_s, ↓noD_l, ↓noD_t, ↓noDs_nil, ↓noDs_cons, ↓noDs_app, ↓noDs_i, ↓noDs_s, ↓noDs_b, ↓exC_k, ↓isIntD_none, ↓isIntD_bool, ↓isIntD_int, ↓isIntD_str, ↓isIntD_list, ↓isIntD_tuple, ↓isIntD_dict, ↓isBoolD_none, ↓isBoolD_bool, ↓isBoolD_int, ↓isBoolD_str, ↓isBoolD_list, ↓isBoolD_tuple, ↓isBoolD_dict, ↓isStrD_none, ↓isStrD_bool, ↓isStrD_int, ↓isStrD_str, ↓isStrD_list, ↓isStrD_tuple, ↓isStrD_dict, ↓isListD_none, ↓isListD_bool, ↓isListD_int, ↓isListD_str, ↓isListD_list, ↓isListD_tuple, ↓isListD_dict, ↓isTupD_none, ↓isTupD_bool, ↓isTupD_int, ↓isTupD_str, ↓isTupD_list, ↓isTupD_tuple, ↓isTupD_dict, ↓isDictD_none, ↓isDictD_bool, ↓isDictD_int, ↓isDictD_str, ↓isDictD_list, ↓isDictD_tuple, ↓isDictD_dict, ↓neg_i2, ↓inv_i2, ↓x_iSeqD, ↓seqDK_d, ↓seqDK_t, ↓seqDK_l, ↓seqDK_s, ↓seqDK_n, ↓seqDK_r, ↓seqDK_c, ↓x_iZipD, ↓zipK_t, ↓zipK_l, ↓x_dNewD, ↓lcD_d, ↓keysK_nil, ↓keysK_i, ↓keysK_s, ↓keysP_nil, ↓keysP_i, ↓keysP_s, ↓c_setD, ↓memA_dict, ↓memA_l, ↓memA_t, ↓memA_n, ↓c_memA, ↓memC_d, ↓memC_l, ↓memC_f, ↓cell_nd, ↓cell_nk, ↓stl_nd, ↓stl_nk, ↓ex_nd, ↓ex_nk, ↓x_dCellA, ↓cellA_new, ↓nextA_eq, ↓stateA_eq, ↓cellA_eq, ↓fg_nil, ↓fg_cons, ↓lcR_l, ↓lcR_f, ↓lcK_l, ↓c_len, ↓c_ix, ↓c_ixC, ↓c_app, ↓c_set, ↓c_isL, ↓c_lstK, ↓c_sqK, ↓c_mem, ↓c_addn, ↓c_addl, ↓c_sl, ↓c_seqK, ↓seqC_l, ↓seqC_f, ↓c_wD, ↓wdC_l, ↓wdC_f, ↓exC_l, ↓exC_f, ↓exC_d, ↓cellK_new, ↓cellK_dat, ↓cellK_loc, ↓get_a0, ↓get_a1, ↓get_a2, ↓get_a3, ↓set_a0, ↓set_a1, ↓set_a2, ↓set_a3, ↓lnD_str, ↓lnD_tup, ↓lnD_lst, ↓lnD_new, ↓lnD_ro, ↓lnD_d, ↓c_lenD, ↓lnC_d, ↓lnC_k, ↓lnC_l, ↓lnC_f, ↓eq_cN, ↓eq_cD, ↓eq_Nc, ↓eq_Dc, ↓ne_cN, ↓ne_cD, ↓ne_Nc, ↓ne_Dc, ↓x_iEnumD, ↓enumK_t, ↓enumK_l, ↓enumK_r, ↓enumK_tk, ↓enumK_lk, ↓srt_d, ↓srt_l, ↓srt_n, ↓c_srt, ↓srtC_l, ↓srtC_f, ↓srtC_d, ↓lsA_t, ↓lsA_l, ↓lsA_n, ↓lsA_r, ↓c_lsA, ↓c_isi_list, ↓c_isi_dict, ↓c_isi_tuple, ↓isiB_l, ↓isiB_f, ↓isiB_d, ↓isiB_k, ↓isi_n_list, ↓isi_n_tuple, ↓x_dListIt, ↓litK_d, ↓augK_s, ↓iadd_ii, ↓c_iaddn, ↓c_iaddl, ↓abs_i, ↓x_dRevL, ↓revK_n, ↓revK_l, ↓cnt_n, ↓cnt_l, ↓idx_l, ↓isLst_l, ↓isLst_n, ↓c_pop, ↓c_popD, ↓c_isD, ↓lcD2_d, ↓lcD2_k, ↓tk_0, ↓tk_a0, ↓tk_a1, ↓tk_a2, ↓tk_a3, ↓tk_a4, dVar_0, dVar_1, dVar_2, dVar_3, dVar_4, dVar_5, dVar_6, dVar_7, dVar_8, dVar_9, dVar_10, dVar_11, dVar_12, dVar_13, dVar_14, dVar_15, old_dat, old_loc, old_raw, old_exc, old_ro, wDs_nil, wDs_cons, x_dC, x_dRaw, x_dFrz, x_dCell, x_dStl, x_aNil, x_aCons, x_dLst, x_dTup, x_tVal, x_tAndD, x_tOrD, x_tNotD, x_tYesD, x_dAndV, x_dOrV, x_dNotV, x_dIfE, x_dOp, x_dUn, x_dCB, x_dChain, intK_i, x_oNo, x_oSome, x_dSl, x_gNm, x_gNl0, x_gCn, x_gTp, x_gSb, x_dCall, seqK_tup, seqK_lst, seqK_new, seqK_ro, seqK_str, rng1_i, rng2_i, x_iSeq, x_iRange1, x_iRange2, x_dBM, x_dBM0, x_isStr, bools_k, ints_k, strs_k, lstK_lst, lstK_new, sqK_lst, sqK_new, sqK_tup, sqK_ro, x_oAll, x_oSum, x_oJoin, x_oList, x_oTuple, x_oIsN, x_oNotN, x_lc, int_i, int_b, mem_l, mem_t, mem_n, x_srtS, mul_ni, mul_li, wD_dat, wD_new, wB_b, nN_dat, nN_loc, nN_raw, nN_ro, nN_exc, aO_nil, aO_cons, stl_dat, stl_new, stl_loc, stl_raw, stl_ro, stl_exc, cel_dat, cel_new, cel_loc, cel_raw, cel_ro, add_int, add_strD, add_tup, add_ll, add_ln, add_nl, add_nn, oI_ii, oI0_ii, neg_i, inv_i, mul_int, eq_dd, ne_dd, eq_nd, ne_nd, eq_dn, ne_dn, eq_nn, ne_nn, sign_ss, ix_s, ix_tupD, ix_lstD, ix_new, ix_ro, sl_s, sl_tupD, sl_lstD, sl_new, sl_ro, len_str, len_tup, len_lst, len_new, len_ro, max_ii, min_ii, isi_int, isi_bool, isi_str, isi_list, isi_tuple, isi_dict, exitQ_dat, exitQ_new, exitQ_raw, cl_nil, cl_none, cl_dat, cl_ro, cl_raw, cl_odat, dVar_16, dVar_17, dVar_18, dVar_19, dVar_20, dVar_21, dVar_22, dVar_23, dVar_24, dVar_25, dVar_26, dVar_27, dVar_28, dVar_29, dVar_30, dVar_31, dVar_32, dVar_33, dVar_34, dVar_35, noD_n, noD_b, noD_i, noD_s, noD_l, noD_t, noDs_nil, noDs_cons, noDs_app, noDs_i, noDs_s, noDs_b, exC_k, isIntD_none, isIntD_bool, isIntD_int, isIntD_str, isIntD_list, isIntD_tuple, isIntD_dict, isBoolD_none, isBoolD_bool, isBoolD_int, isBoolD_str, isBoolD_list, isBoolD_tuple, isBoolD_dict, isStrD_none, isStrD_bool, isStrD_int, isStrD_str, isStrD_list, isStrD_tuple, isStrD_dict, isListD_none, isListD_bool, isListD_int, isListD_str, isListD_list, isListD_tuple, isListD_dict, isTupD_none, isTupD_bool, isTupD_int, isTupD_str, isTupD_list, isTupD_tuple, isTupD_dict, isDictD_none, isDictD_bool, isDictD_int, isDictD_str, isDictD_list, isDictD_tuple, isDictD_dict, neg_i2, inv_i2, x_iSeqD, seqDK_d, seqDK_t, seqDK_l, seqDK_s, seqDK_n, seqDK_r, seqDK_c, x_iZipD, zipK_t, zipK_l, x_dNewD, lcD_d, keysK_nil, keysK_i, keysK_s, keysP_nil, keysP_i, keysP_s, c_setD, memA_dict, memA_l, memA_t, memA_n, c_memA, memC_d, memC_l, memC_f, cell_nd, cell_nk, stl_nd, stl_nk, ex_nd, ex_nk, x_dCellA, cellA_new, nextA_eq, stateA_eq, cellA_eq, fg_nil, fg_cons, lcR_l, lcR_f, lcK_l, c_len, c_ix, c_ixC, c_app, c_set, c_isL, c_lstK, c_sqK, c_mem, c_addn, c_addl, c_sl, c_seqK, seqC_l, seqC_f, c_wD, wdC_l, wdC_f, exC_l, exC_f, exC_d, cellK_new, cellK_dat, cellK_loc, get_a0, get_a1, get_a2, get_a3, set_a0, set_a1, set_a2, set_a3, lnD_str, lnD_tup, lnD_lst, lnD_new, lnD_ro, lnD_d, c_lenD, lnC_d, lnC_k, lnC_l, lnC_f, eq_cN, eq_cD, eq_Nc, eq_Dc, ne_cN, ne_cD, ne_Nc, ne_Dc, x_iEnumD, enumK_t, enumK_l, enumK_r, enumK_tk, enumK_lk, srt_d, srt_l, srt_n, c_srt, srtC_l, srtC_f, srtC_d, lsA_t, lsA_l, lsA_n, lsA_r, c_lsA, c_isi_list, c_isi_dict, c_isi_tuple, isiB_l, isiB_f, isiB_d, isiB_k, isi_n_list, isi_n_tuple, x_dListIt, litK_d, augK_s, iadd_ii, c_iaddn, c_iaddl, abs_i, x_dRevL, revK_n, revK_l, cnt_n, cnt_l, idx_l, isLst_l, isLst_n, c_pop, c_popD, c_isD, lcD2_d, lcD2_k, tk_0, tk_a0, tk_a1, tk_a2, tk_a3, tk_a4, isR_h, isR_app, isR_last, exitQ_ge, exitQ_lt, cl_loc, nle_h, nlt_h, ile_h, ilt_h, cmul_l, cmul_r, cdiv_h, cpow_h, csh_h, csh_0, oLt, oLe, oGt, oGe, oSub, oMod, oDiv, oPow, oShl, oShr, oAnd, oOr, oXor, isRaw, isNon, startD, List.length_map, decide_eq_true_eq, List.map_cons, List.map_nil, List.length_cons, List.length_nil, List.cons_append, List.nil_append, List.append_nil, List.replicate, List.getElem?_cons_zero, List.getElem?_cons_succ, List.set_cons_zero, List.set_cons_succ, List.take_length, true_and, and_true, eqv_int, eqv_bool, eqv_str, dep_int, dep_bool, dep_str, dep_none, min0l, min0r, Option.map_some, Option.map_none, if_true, if_false, Bool.and_true, Bool.true_and, Bool.false_eq_true, Bool.not_true, Bool.not_false, reduceIte, wipeD, List.append_assoc, at_nn, Option.some.injEq, exists_eq_left, exists_eq_left', Int.reduceToNat, Int.reduceLE, Int.reduceLT, List.length_set, Nat.reduceAdd, Nat.reduceLeDiff, Nat.reduceSub, dat_dat, dat_new, lst_lst, lst_new, seq_tup, seq_lst, seq_new, seq_ro, List.length_append, Nat.zero_add, eqv_tup, eqv_lst, eqvA_nn, eqvA_cc, eqvA_nc, eqvA_cn, dep_tup, dep_lst, depA_nil, depA_cons, Nat.max_zero, Nat.zero_max, Nat.lt_add_one, forall_const, oShlA, rng_c, Int.toNat_natCast, List.flatten_nil, decide_true, decide_false])
theorem zip_rows (F : Nat → Nat → Nat) (a b : Nat → Nat) (l : List Nat) : List.zipWith F (l.map a) (l.map b) = l.map fun y => F (a y) (b y) := by
  induction l with
  | nil => rfl
  | cons x l ih => simp only [List.map_cons, List.zipWith_cons_cons, ih]
theorem row_or (w : Nat) (f g : Nat → Bool) : rowB w f ||| rowB w g = rowB w fun x => f x || g x := row_ext _ fun x => by
  rw [Nat.testBit_or, rowB_bit, rowB_bit]
  cases decide (x < w) <;> simp
theorem row_and (w : Nat) (f g : Nat → Bool) : rowB w f &&& rowB w g = rowB w fun x => f x && g x := row_ext _ fun x => by
  rw [Nat.testBit_and, rowB_bit, rowB_bit]
  cases decide (x < w) <;> simp
theorem row_not (f g : Nat → Bool) : ∀ w : Nat, rowB w f = (rowB w fun x => f x && g x) + rowB w fun x => f x && !g x
  | 0 => rfl
  | w + 1 => by
    unfold rowB
    have ih := row_not f g w
    cases hf : f w <;> cases hg : g w <;> simp [hf, hg] <;> omega
theorem or_law (w h : Nat) (a b : List Pt) : orS (shC w h a) (shC w h b) = shC w h (a ++ b) := by
  unfold shC sheetB orS
  rw [zip_rows]
  refine List.map_congr_left fun y _ => ?_
  rw [row_or]
  refine rowB_congr fun x _ => ?_
  rw [Bool.eq_iff_iff, Bool.or_eq_true, decide_eq_true_eq, decide_eq_true_eq, decide_eq_true_eq, List.mem_append]
theorem and_law (w h : Nat) (a b : List Pt) : andS (shC w h a) (shC w h b) = shC w h (a.filter fun c => decide (c ∈ b)) := by
  unfold shC sheetB andS
  rw [zip_rows]
  refine List.map_congr_left fun y _ => ?_
  rw [row_and]
  refine rowB_congr fun x _ => ?_
  rw [Bool.eq_iff_iff, Bool.and_eq_true, decide_eq_true_eq, decide_eq_true_eq, decide_eq_true_eq, List.mem_filter, decide_eq_true_eq]
theorem not_law (w h : Nat) (a b : List Pt) : notS (shC w h a) (shC w h b) = shC w h (a.filter fun c => !decide (c ∈ b)) := by
  unfold shC sheetB notS
  rw [zip_rows]
  refine List.map_congr_left fun y _ => ?_
  have e := row_not (fun x : Nat => decide (((x : Int), (y : Int)) ∈ a)) (fun x : Nat => decide (((x : Int), (y : Int)) ∈ b)) w
  rw [row_and]
  show rowB w (fun x : Nat => decide (((x : Int), (y : Int)) ∈ a)) - rowB w (fun x : Nat => decide (((x : Int), (y : Int)) ∈ a) && decide (((x : Int), (y : Int)) ∈ b)) = rowB w (fun x : Nat => decide (((x : Int), (y : Int)) ∈ a.filter fun c => !decide (c ∈ b)))
  have e2 : (rowB w fun x : Nat => decide (((x : Int), (y : Int)) ∈ a) && !decide (((x : Int), (y : Int)) ∈ b)) = rowB w fun x : Nat => decide (((x : Int), (y : Int)) ∈ a.filter fun c => !decide (c ∈ b)) := rowB_congr fun x _ => by
    rw [Bool.eq_iff_iff, Bool.and_eq_true, decide_eq_true_eq, decide_eq_true_eq, List.mem_filter]
  rw [← e2]
  omega

theorem shC_mem {w h : Nat} {ps cs : List Pt} (hm : ∀ p, p ∈ ps ↔ p ∈ cs) : shC w h ps = shC w h cs := by
  unfold shC
  refine sheetB_congr fun x y _ _ _ _ => ?_
  rw [Bool.eq_iff_iff, decide_eq_true_eq, decide_eq_true_eq, hm]
theorem litK_pt {q : PQ} {μ : Mu} {cs : List Pt} : litK q μ (.dat (dctD cs)) = q (.new (cs.map ptP)) μ := by
  unfold dctD
  rw [litK_d, allT_pt, List.map_map]
  exact propext ⟨fun h => h.2, fun h => ⟨rfl, h⟩⟩
theorem mem_fold0 {cs : List Pt} {p : Pt} : p ∈ cs.foldl insC [] ↔ p ∈ cs := (mem_foldIns _ _).trans (by simp)
theorem memA_ptD {neg : Bool} {c : Pt} {cs : List Pt} {μ : Mu} {q : PQ} : oMemA neg (.dat (ptD c)) (.dat (dctD cs)) μ q = q (.dat (.bool (if neg then !decide (c ∈ cs) else decide (c ∈ cs)))) μ := memA_plcs (.inl rfl) c.1 c.2
local macro_rules | `(tactic| walk_at "dx") => `(tactic| simp (disch := first | assumption | omega) only [↓e_joined, ↓e_moved, ↓e_common, ↓e_without, ↓ix_sz, ↓gTp_pt, ↓enumK_sh, ↓e_places, ↓e_count, ↓e_nothing, ↓e_has, ↓e_spread, ↓e_is_number, ↓isNum_i, ↓isNum_b, ↓isNum_n, ↓isNum_s, ↓isNum_l, ↓isNum_t, ↓e_is_place, ↓e_sheet_of, ↓e_sheet_of1, sh_eqv, sh_nod, sh_dmin, ↓e_flood, ↓e_grown, ↓e_turned_sheet, ↓e_mirrored, ↓e_law_floor, ↓e_law_sheet, ↓seqDK_pt, ↓gTp_pt, ↓kvT_pt, ↓ix_sz, ↓e_law_same, ↓e_law_size, ↓e_law_cells, ↓memA_dct, hasKs_ptE, ↓e_law_come_to, ↓e_law_near, ↓ex_dctD, ↓plcs_d, ↓plcs_l, ↓listA_pt, ↓lnD_pt, ↓srt_pt, ↓gTp_pr, okS_shC, len_shC, okS_10, noDs_pt, ↓e_law_all_in, ↓litK_pt, ↓memA_ptD, ↓dVar_0, ↓dVar_1, ↓dVar_2, ↓dVar_3, ↓dVar_4, ↓dVar_5, ↓dVar_6, ↓dVar_7, ↓dVar_8, ↓dVar_9, ↓dVar_10, ↓dVar_11, ↓dVar_12, ↓dVar_13, ↓dVar_14, ↓dVar_15, ↓old_dat, ↓old_loc, ↓old_raw, ↓old_exc, ↓old_ro, ↓wDs_nil, ↓wDs_cons, ↓x_dC, ↓x_dRaw, ↓x_dFrz, ↓x_dCell, ↓x_dStl, ↓x_aNil, ↓x_aCons, ↓x_dLst, ↓x_dTup, ↓x_tVal, ↓x_tAndD, ↓x_tOrD, ↓x_tNotD, ↓x_tYesD, ↓x_dAndV, ↓x_dOrV, ↓x_dNotV, ↓x_dIfE, ↓x_dOp, ↓x_dUn, ↓x_dCB, ↓x_dChain, ↓intK_i, ↓x_oNo, ↓x_oSome, ↓x_dSl, ↓x_gNm, ↓x_gNl0, ↓x_gCn, ↓x_gTp, ↓x_gSb, ↓x_dCall, ↓seqK_tup, ↓seqK_lst, ↓seqK_new, ↓seqK_ro, ↓seqK_str, ↓rng1_i, ↓rng2_i, ↓x_iSeq, ↓x_iRange1, ↓x_iRange2, ↓x_dBM, ↓x_dBM0, ↓x_isStr, ↓bools_k, ↓ints_k, ↓strs_k, ↓lstK_lst, ↓lstK_new, ↓sqK_lst, ↓sqK_new, ↓sqK_tup, ↓sqK_ro, ↓x_oAll, ↓x_oSum, ↓x_oJoin, ↓x_oList, ↓x_oTuple, ↓x_oIsN, ↓x_oNotN, ↓x_lc, ↓int_i, ↓int_b, ↓mem_l, ↓mem_t, ↓mem_n, ↓x_srtS, ↓mul_ni, ↓mul_li, ↓wD_dat, ↓wD_new, ↓wB_b, ↓nN_dat, ↓nN_loc, ↓nN_raw, ↓nN_ro, ↓nN_exc, ↓aO_nil, ↓aO_cons, ↓stl_dat, ↓stl_new, ↓stl_loc, ↓stl_raw, ↓stl_ro, ↓stl_exc, ↓cel_dat, ↓cel_new, ↓cel_loc, ↓cel_raw, ↓cel_ro, ↓add_int, ↓add_strD, ↓add_tup, ↓add_ll, ↓add_ln, ↓add_nl, ↓add_nn, ↓oI_ii, ↓oI0_ii, ↓neg_i, ↓inv_i, ↓mul_int, ↓eq_dd, ↓ne_dd, ↓eq_nd, ↓ne_nd, ↓eq_dn, ↓ne_dn, ↓eq_nn, ↓ne_nn, ↓sign_ss, ↓ix_s, ↓ix_tupD, ↓ix_lstD, ↓ix_new, ↓ix_ro, ↓sl_s, ↓sl_tupD, ↓sl_lstD, ↓sl_new, ↓sl_ro, ↓len_str, ↓len_tup, ↓len_lst, ↓len_new, ↓len_ro, ↓max_ii, ↓min_ii, ↓isi_int, ↓isi_bool, ↓isi_str, ↓isi_list, ↓isi_tuple, ↓isi_dict, ↓exitQ_dat, ↓exitQ_new, ↓exitQ_raw, ↓cl_nil, ↓cl_none, ↓cl_dat, ↓cl_ro, ↓cl_raw, ↓cl_odat, ↓dVar_16, ↓dVar_17, ↓dVar_18, ↓dVar_19, ↓dVar_20, ↓dVar_21, ↓dVar_22, ↓dVar_23, ↓dVar_24, ↓dVar_25, ↓dVar_26, ↓dVar_27, ↓dVar_28, ↓dVar_29, ↓dVar_30, ↓dVar_31, ↓dVar_32, ↓dVar_33, ↓dVar_34, ↓dVar_35, ↓noD_n, ↓noD_b, ↓noD_i, ↓noD_s, ↓noD_l, ↓noD_t, ↓noDs_nil, ↓noDs_cons, ↓noDs_app, ↓noDs_i, ↓noDs_s, ↓noDs_b, ↓exC_k, ↓isIntD_none, ↓isIntD_bool, ↓isIntD_int, ↓isIntD_str, ↓isIntD_list, ↓isIntD_tuple, ↓isIntD_dict, ↓isBoolD_none, ↓isBoolD_bool, ↓isBoolD_int, ↓isBoolD_str, ↓isBoolD_list, ↓isBoolD_tuple, ↓isBoolD_dict, ↓isStrD_none, ↓isStrD_bool, ↓isStrD_int, ↓isStrD_str, ↓isStrD_list, ↓isStrD_tuple, ↓isStrD_dict, ↓isListD_none, ↓isListD_bool, ↓isListD_int, ↓isListD_str, ↓isListD_list, ↓isListD_tuple, ↓isListD_dict, ↓isTupD_none, ↓isTupD_bool, ↓isTupD_int, ↓isTupD_str, ↓isTupD_list, ↓isTupD_tuple, ↓isTupD_dict, ↓isDictD_none, ↓isDictD_bool, ↓isDictD_int, ↓isDictD_str, ↓isDictD_list, ↓isDictD_tuple, ↓isDictD_dict, ↓neg_i2, ↓inv_i2, ↓x_iSeqD, ↓seqDK_d, ↓seqDK_t, ↓seqDK_l, ↓seqDK_s, ↓seqDK_n, ↓seqDK_r, ↓seqDK_c, ↓x_iZipD, ↓zipK_t, ↓zipK_l, ↓x_dNewD, ↓lcD_d, ↓keysK_nil, ↓keysK_i, ↓keysK_s, ↓keysP_nil, ↓keysP_i, ↓keysP_s, ↓c_setD, ↓memA_dict, ↓memA_l, ↓memA_t, ↓memA_n, ↓c_memA, ↓memC_d, ↓memC_l, ↓memC_f, ↓cell_nd, ↓cell_nk, ↓stl_nd, ↓stl_nk, ↓ex_nd, ↓ex_nk, ↓x_dCellA, ↓cellA_new, ↓nextA_eq, ↓stateA_eq, ↓cellA_eq, ↓fg_nil, ↓fg_cons, ↓lcR_l, ↓lcR_f, ↓lcK_l, ↓c_len, ↓c_ix, ↓c_ixC, ↓c_app, ↓c_set, ↓c_isL, ↓c_lstK, ↓c_sqK, ↓c_mem, ↓c_addn, ↓c_addl, ↓c_sl, ↓c_seqK, ↓seqC_l, ↓seqC_f, ↓c_wD, ↓wdC_l, ↓wdC_f, ↓exC_l, ↓exC_f, ↓exC_d, ↓cellK_new, ↓cellK_dat, ↓cellK_loc, ↓get_a0, ↓get_a1, ↓get_a2, ↓get_a3, ↓set_a0, ↓set_a1, ↓set_a2, ↓set_a3, ↓lnD_str, ↓lnD_tup, ↓lnD_lst, ↓lnD_new, ↓lnD_ro, ↓lnD_d, ↓c_lenD, ↓lnC_d, ↓lnC_k, ↓lnC_l, ↓lnC_f, ↓eq_cN, ↓eq_cD, ↓eq_Nc, ↓eq_Dc, ↓ne_cN, ↓ne_cD, ↓ne_Nc, ↓ne_Dc, ↓x_iEnumD, ↓enumK_t, ↓enumK_l, ↓enumK_r, ↓enumK_tk, ↓enumK_lk, ↓srt_d, ↓srt_l, ↓srt_n, ↓c_srt, ↓srtC_l, ↓srtC_f, ↓srtC_d, ↓lsA_t, ↓lsA_l, ↓lsA_n, ↓lsA_r, ↓c_lsA, ↓c_isi_list, ↓c_isi_dict, ↓c_isi_tuple, ↓isiB_l, ↓isiB_f, ↓isiB_d, ↓isiB_k, ↓isi_n_list, ↓isi_n_tuple, ↓x_dListIt, ↓litK_d, ↓augK_s, ↓iadd_ii, ↓c_iaddn, ↓c_iaddl, ↓abs_i, ↓x_dRevL, ↓revK_n, ↓revK_l, ↓cnt_n, ↓cnt_l, ↓idx_l, ↓isLst_l, ↓isLst_n, ↓c_pop, ↓c_popD, ↓c_isD, ↓lcD2_d, ↓lcD2_k, ↓tk_0, ↓tk_a0, ↓tk_a1, ↓tk_a2, ↓tk_a3, ↓tk_a4, dVar_0, dVar_1, dVar_2, dVar_3, dVar_4, dVar_5, dVar_6, dVar_7, dVar_8, dVar_9, dVar_10, dVar_11, dVar_12, dVar_13, dVar_14, dVar_15, old_dat, old_loc, old_raw, old_exc, old_ro, wDs_nil, wDs_cons, x_dC, x_dRaw, x_dFrz, x_dCell, x_dStl, x_aNil, x_aCons, x_dLst, x_dTup, x_tVal, x_tAndD, x_tOrD, x_tNotD, x_tYesD, x_dAndV, x_dOrV, x_dNotV, x_dIfE, x_dOp, x_dUn, x_dCB, x_dChain, intK_i, x_oNo, x_oSome, x_dSl, x_gNm, x_gNl0, x_gCn, x_gTp, x_gSb, x_dCall, seqK_tup, seqK_lst, seqK_new, seqK_ro, seqK_str, rng1_i, rng2_i, x_iSeq, x_iRange1, x_iRange2, x_dBM, x_dBM0, x_isStr, bools_k, ints_k, strs_k, lstK_lst, lstK_new, sqK_lst, sqK_new, sqK_tup, sqK_ro, x_oAll, x_oSum, x_oJoin, x_oList, x_oTuple, x_oIsN, x_oNotN, x_lc, int_i, int_b, mem_l, mem_t, mem_n, x_srtS, mul_ni, mul_li, wD_dat, wD_new, wB_b, nN_dat, nN_loc, nN_raw, nN_ro, nN_exc, aO_nil, aO_cons, stl_dat, stl_new, stl_loc, stl_raw, stl_ro, stl_exc, cel_dat, cel_new, cel_loc, cel_raw, cel_ro, add_int, add_strD, add_tup, add_ll, add_ln, add_nl, add_nn, oI_ii, oI0_ii, neg_i, inv_i, mul_int, eq_dd, ne_dd, eq_nd, ne_nd, eq_dn, ne_dn, eq_nn, ne_nn, sign_ss, ix_s, ix_tupD, ix_lstD, ix_new, ix_ro, sl_s, sl_tupD, sl_lstD, sl_new, sl_ro, len_str, len_tup, len_lst, len_new, len_ro, max_ii, min_ii, isi_int, isi_bool, isi_str, isi_list, isi_tuple, isi_dict, exitQ_dat, exitQ_new, exitQ_raw, cl_nil, cl_none, cl_dat, cl_ro, cl_raw, cl_odat, dVar_16, dVar_17, dVar_18, dVar_19, dVar_20, dVar_21, dVar_22, dVar_23, dVar_24, dVar_25, dVar_26, dVar_27, dVar_28, dVar_29, dVar_30, dVar_31, dVar_32, dVar_33, dVar_34, dVar_35, noD_n, noD_b, noD_i, noD_s, noD_l, noD_t, noDs_nil, noDs_cons, noDs_app, noDs_i, noDs_s, noDs_b, exC_k, isIntD_none, isIntD_bool, isIntD_int, isIntD_str, isIntD_list, isIntD_tuple, isIntD_dict, isBoolD_none, isBoolD_bool, isBoolD_int, isBoolD_str, isBoolD_list, isBoolD_tuple, isBoolD_dict, isStrD_none, isStrD_bool, isStrD_int, isStrD_str, isStrD_list, isStrD_tuple, isStrD_dict, isListD_none, isListD_bool, isListD_int, isListD_str, isListD_list, isListD_tuple, isListD_dict, isTupD_none, isTupD_bool, isTupD_int, isTupD_str, isTupD_list, isTupD_tuple, isTupD_dict, isDictD_none, isDictD_bool, isDictD_int, isDictD_str, isDictD_list, isDictD_tuple, isDictD_dict, neg_i2, inv_i2, x_iSeqD, seqDK_d, seqDK_t, seqDK_l, seqDK_s, seqDK_n, seqDK_r, seqDK_c, x_iZipD, zipK_t, zipK_l, x_dNewD, lcD_d, keysK_nil, keysK_i, keysK_s, keysP_nil, keysP_i, keysP_s, c_setD, memA_dict, memA_l, memA_t, memA_n, c_memA, memC_d, memC_l, memC_f, cell_nd, cell_nk, stl_nd, stl_nk, ex_nd, ex_nk, x_dCellA, cellA_new, nextA_eq, stateA_eq, cellA_eq, fg_nil, fg_cons, lcR_l, lcR_f, lcK_l, c_len, c_ix, c_ixC, c_app, c_set, c_isL, c_lstK, c_sqK, c_mem, c_addn, c_addl, c_sl, c_seqK, seqC_l, seqC_f, c_wD, wdC_l, wdC_f, exC_l, exC_f, exC_d, cellK_new, cellK_dat, cellK_loc, get_a0, get_a1, get_a2, get_a3, set_a0, set_a1, set_a2, set_a3, lnD_str, lnD_tup, lnD_lst, lnD_new, lnD_ro, lnD_d, c_lenD, lnC_d, lnC_k, lnC_l, lnC_f, eq_cN, eq_cD, eq_Nc, eq_Dc, ne_cN, ne_cD, ne_Nc, ne_Dc, x_iEnumD, enumK_t, enumK_l, enumK_r, enumK_tk, enumK_lk, srt_d, srt_l, srt_n, c_srt, srtC_l, srtC_f, srtC_d, lsA_t, lsA_l, lsA_n, lsA_r, c_lsA, c_isi_list, c_isi_dict, c_isi_tuple, isiB_l, isiB_f, isiB_d, isiB_k, isi_n_list, isi_n_tuple, x_dListIt, litK_d, augK_s, iadd_ii, c_iaddn, c_iaddl, abs_i, x_dRevL, revK_n, revK_l, cnt_n, cnt_l, idx_l, isLst_l, isLst_n, c_pop, c_popD, c_isD, lcD2_d, lcD2_k, tk_0, tk_a0, tk_a1, tk_a2, tk_a3, tk_a4, isR_h, isR_app, isR_last, exitQ_ge, exitQ_lt, cl_loc, nle_h, nlt_h, ile_h, ilt_h, cmul_l, cmul_r, cdiv_h, cpow_h, csh_h, csh_0, oLt, oLe, oGt, oGe, oSub, oMod, oDiv, oPow, oShl, oShr, oAnd, oOr, oXor, isRaw, isNon, startD, List.length_map, decide_eq_true_eq, List.map_cons, List.map_nil, List.length_cons, List.length_nil, List.cons_append, List.nil_append, List.append_nil, List.replicate, List.getElem?_cons_zero, List.getElem?_cons_succ, List.set_cons_zero, List.set_cons_succ, List.take_length, true_and, and_true, eqv_int, eqv_bool, eqv_str, dep_int, dep_bool, dep_str, dep_none, min0l, min0r, Option.map_some, Option.map_none, if_true, if_false, Bool.and_true, Bool.true_and, Bool.false_eq_true, Bool.not_true, Bool.not_false, reduceIte, wipeD, List.append_assoc, at_nn, Option.some.injEq, exists_eq_left, exists_eq_left', Int.reduceToNat, Int.reduceLE, Int.reduceLT, List.length_set, Nat.reduceAdd, Nat.reduceLeDiff, Nat.reduceSub, dat_dat, dat_new, lst_lst, lst_new, seq_tup, seq_lst, seq_new, seq_ro, List.length_append, Nat.zero_add, eqv_tup, eqv_lst, eqvA_nn, eqvA_cc, eqvA_nc, eqvA_cn, dep_tup, dep_lst, depA_nil, depA_cons, Nat.max_zero, Nat.zero_max, Nat.lt_add_one, forall_const, oShlA, rng_c, Int.toNat_natCast, List.flatten_nil, decide_true, decide_false])
def sp_law_two_done : SpD := fun es μ q x => ∃ (way : Int) (w : Nat) (h : Nat) (s : List Nat) (cs : List Pt) (n : Nat), es = [.dat (.int way), .dat (szD w h), .dat (shD s), .dat (dctD cs), .loc n] ∧ (s = shC w h cs ∧ (0 ≤ way ∧ way ≤ 2) ∧ (3 ≤ w ∧ w ≤ 10 ∧ 3 ≤ h ∧ h ≤ 10) ∧ StC w h cs ∧ isR μ n ∧ ∀ cs', StC w h cs' → q (.dat (.tuple [szD w h, shD (shC w h cs'), dctD cs'])) μ)
theorem e_law_two_done {way : Int} {w : Nat} {h : Nat} {s : List Nat} {cs : List Pt} {n : Nat} {μ : Mu} {q : PQ} {x : XQ} : sp_law_two_done [.dat (.int way), .dat (szD w h), .dat (shD s), .dat (dctD cs), .loc n] μ q x = (s = shC w h cs ∧ (0 ≤ way ∧ way ≤ 2) ∧ (3 ≤ w ∧ w ≤ 10 ∧ 3 ≤ h ∧ h ≤ 10) ∧ StC w h cs ∧ isR μ n ∧ ∀ cs', StC w h cs' → q (.dat (.tuple [szD w h, shD (shC w h cs'), dctD cs'])) μ) := by
  refine propext ⟨fun hyp0 => ?_, fun hyp0 => ⟨way, w, h, s, cs, n, rfl, hyp0⟩⟩
  obtain ⟨way', w', h', s', cs', n', eq0, hyp0⟩ := hyp0
  simp only [List.cons.injEq, Exn.mk.injEq, EV.dat.injEq, EV.loc.injEq, EV.new.injEq, EV.ro.injEq, EV.exc.injEq, PyData.int.injEq, PyData.str.injEq, PyData.bool.injEq, PyData.list.injEq, PyData.tuple.injEq, and_true, true_and, and_assoc, map_int_inj, szD_inj, shD_inj, dctD_inj] at eq0
  obtain ⟨rfl, rfl, rfl, rfl, rfl, rfl⟩ := eq0
  exact hyp0
theorem ok_law_two_done (T : Top K mg) : DefAt P w K mg base "_law_two_done" 3 ["_law_way", "_law_size_here", "_law_sheet_here", "_law_cells_here", "_law_state_here"] [] [] sp_law_two_done := by
  refine def_ok sp_law_two_done T.F_law_two_done sc_law_two_done T.m_law_two_done T.b_law_two_done (fun cdv A outer s H E hr tk pw => (dss_cons (ds_set (i := 5) sc_law_two_done.nd rfl (by first | exact Or.inl rfl | exact Or.inr rfl) (de_stl (de_call (ok_law_cells T) hr (by decide) (by rfl) tk (fun _ _ => .nil) (da_cons (de_cell (dv 4)) (da_cons (de_stl (dv 1)) da_nil)))))
    (dss_cons (ds_set (i := 6) sc_law_two_done.nd rfl (by first | exact Or.inl rfl | exact Or.inr rfl) (de_stl (de_call (ok_law_sheet T) hr (by decide) (by rfl) tk (fun _ _ => .nil) (da_cons (de_stl (dv 1)) (da_cons (de_stl (dv 5)) da_nil)))))
    (dss_cons (ds_if (dt_cmp (opA_eq hr.units) os_eq (dv 0) de_int (nomark _)) (dss_one (ds_ret (de_tup (da_cons (de_frz (dv 1)) (da_cons (de_frz (de_stl (de_call (ok_joined T) hr (by decide) (by rfl) tk (fun _ _ => .nil) (da_cons (de_stl (dv 2)) (da_cons (de_stl (dv 6)) da_nil))))) (da_cons (de_frz (de_stl (de_callTy (call_dictA rfl hr.units) cs_dictA (by rfl) T.n_dict bt_dict (da_cons (de_op opA_add os_add (de_listItems rfl (dv 3) (by rfl) T.n_list bt_list) (de_listItems rfl (dv 5) (by rfl) T.n_list bt_list)) da_nil)))) da_nil)))))) dss_nil)
    (dss_cons (ds_if (dt_cmp (opA_eq hr.units) os_eq (dv 0) de_int (nomark _)) (dss_one (ds_ret (de_tup (da_cons (de_frz (dv 1)) (da_cons (de_frz (de_stl (de_call (ok_common T) hr (by decide) (by rfl) tk (fun _ _ => .nil) (da_cons (de_stl (dv 2)) (da_cons (de_stl (dv 6)) da_nil))))) (da_cons (de_frz (de_stl (de_callTy (call_dictA rfl hr.units) cs_dictA (by rfl) T.n_dict bt_dict (da_cons (de_lc (own := [("_law_cell", 7)]) rfl sc_law_two_done.nd (di_seqD (dv 3)) (blkOk_by (N := ["_law_way", "_law_size_here", "_law_sheet_here", "_law_cells_here", "_law_state_here", "_law_more", "_law_other", "_law_cell"]) (sc := defScope s_law_two_done) (by decide +kernel)) (by decide) (fun _ _ _ _ _ => (dg_name (i := 7) sc_law_two_done.nd rfl (by first | exact Or.inl rfl | exact Or.inr rfl))) (fun _ _ _ _ _ => (dts_one (dt_cmp (opA_in hr.units) os_memA (dv 7) (dv 5) (by rfl)))) (fun _ _ _ _ _ => (de_tup (da_cons (de_frz (dv 7)) (da_cons de_bl da_nil))))) da_nil)))) da_nil)))))) dss_nil)
    (dss_one (ds_ret (de_tup (da_cons (de_frz (dv 1)) (da_cons (de_frz (de_stl (de_call (ok_without T) hr (by decide) (by rfl) tk (fun _ _ => .nil) (da_cons (de_stl (dv 2)) (da_cons (de_stl (dv 6)) da_nil))))) (da_cons (de_frz (de_stl (de_callTy (call_dictA rfl hr.units) cs_dictA (by rfl) T.n_dict bt_dict (da_cons (de_lc (own := [("_law_cell", 7)]) rfl sc_law_two_done.nd (di_seqD (dv 3)) (blkOk_by (N := ["_law_way", "_law_size_here", "_law_sheet_here", "_law_cells_here", "_law_state_here", "_law_more", "_law_other", "_law_cell"]) (sc := defScope s_law_two_done) (by decide +kernel)) (by decide) (fun _ _ _ _ _ => (dg_name (i := 7) sc_law_two_done.nd rfl (by first | exact Or.inl rfl | exact Or.inr rfl))) (fun _ _ _ _ _ => (dts_one (dt_cmp (opA_notIn hr.units) os_memA (dv 7) (dv 5) (by rfl)))) (fun _ _ _ _ _ => (de_tup (da_cons (de_frz (dv 7)) (da_cons de_bl da_nil))))) da_nil)))) da_nil))))))))))) ?_
  rintro es μ q x - ⟨way, w, h, s, cs, n, rfl, rfl, ⟨w0, w2⟩, ⟨w3, w10, h3, h10⟩, S, hs, k⟩
  have hn := hs.lt
  have hcl := S.len w10 h10
  walk_at "run"
  intro mo hin hml hmn
  have hnd0 := S.nd
  walk_at "run"
  split
  · walk_at "run"
    rw [← List.map_append, or_law]
    refine x_oDictN ?_
    (try walk_at "dx")
    rw [← shC_mem (ps := (cs ++ mo).foldl insC []) fun p => mem_fold0]
    exact k _ ⟨fun c hc => (List.mem_append.mp (mem_fold0.mp hc)).elim (S.inn c) (hin c), nodup_fold _ _ (by simp)⟩
  · walk_at "run"
    split
    · walk_at "run"
      refine lc_filterD (p := fun c => decide (c ∈ mo)) (f := ptP) (as := cs) (by omega) trivial (fun c K N hc hK => ?e1) ?_
      case e1 => (try walk_at "dx"); simp only [decide_eq_true_eq] at hK; exact hK
      (try walk_at "dx")
      refine x_oDictN ?_
      (try walk_at "dx")
      rw [and_law, ← shC_mem (ps := (cs.filter fun c => decide (c ∈ mo)).foldl insC []) fun p => mem_fold0]
      exact k _ ⟨fun c hc => S.inn c (List.mem_filter.mp (mem_fold0.mp hc)).1, nodup_fold _ _ (by simp)⟩
    · walk_at "run"
      refine lc_filterD (p := fun c => !decide (c ∈ mo)) (f := ptP) (as := cs) (by omega) trivial (fun c K N hc hK => ?e2) ?_
      case e2 => (try walk_at "dx"); exact hK
      (try walk_at "dx")
      refine x_oDictN ?_
      (try walk_at "dx")
      rw [not_law, ← shC_mem (ps := (cs.filter fun c => !decide (c ∈ mo)).foldl insC []) fun p => mem_fold0]
      exact k _ ⟨fun c hc => S.inn c (List.mem_filter.mp (mem_fold0.mp hc)).1, nodup_fold _ _ (by simp)⟩
local macro_rules | `(tactic| walk_at "dx") => `(tactic| simp (disch := first | assumption | omega) only [↓e_joined, ↓e_moved, ↓e_common, ↓e_without, ↓ix_sz, ↓gTp_pt, ↓enumK_sh, ↓e_places, ↓e_count, ↓e_nothing, ↓e_has, ↓e_spread, ↓e_is_number, ↓isNum_i, ↓isNum_b, ↓isNum_n, ↓isNum_s, ↓isNum_l, ↓isNum_t, ↓e_is_place, ↓e_sheet_of, ↓e_sheet_of1, sh_eqv, sh_nod, sh_dmin, ↓e_flood, ↓e_grown, ↓e_turned_sheet, ↓e_mirrored, ↓e_law_floor, ↓e_law_sheet, ↓seqDK_pt, ↓gTp_pt, ↓kvT_pt, ↓ix_sz, ↓e_law_same, ↓e_law_size, ↓e_law_cells, ↓memA_dct, hasKs_ptE, ↓e_law_come_to, ↓e_law_near, ↓ex_dctD, ↓plcs_d, ↓plcs_l, ↓listA_pt, ↓lnD_pt, ↓srt_pt, ↓gTp_pr, okS_shC, len_shC, okS_10, noDs_pt, ↓e_law_all_in, ↓litK_pt, ↓memA_ptD, ↓e_law_two_done, ↓dVar_0, ↓dVar_1, ↓dVar_2, ↓dVar_3, ↓dVar_4, ↓dVar_5, ↓dVar_6, ↓dVar_7, ↓dVar_8, ↓dVar_9, ↓dVar_10, ↓dVar_11, ↓dVar_12, ↓dVar_13, ↓dVar_14, ↓dVar_15, ↓old_dat, ↓old_loc, ↓old_raw, ↓old_exc, ↓old_ro, ↓wDs_nil, ↓wDs_cons, ↓x_dC, ↓x_dRaw, ↓x_dFrz, ↓x_dCell, ↓x_dStl, ↓x_aNil, ↓x_aCons, ↓x_dLst, ↓x_dTup, ↓x_tVal, ↓x_tAndD, ↓x_tOrD, ↓x_tNotD, ↓x_tYesD, ↓x_dAndV, ↓x_dOrV, ↓x_dNotV, ↓x_dIfE, ↓x_dOp, ↓x_dUn, ↓x_dCB, ↓x_dChain, ↓intK_i, ↓x_oNo, ↓x_oSome, ↓x_dSl, ↓x_gNm, ↓x_gNl0, ↓x_gCn, ↓x_gTp, ↓x_gSb, ↓x_dCall, ↓seqK_tup, ↓seqK_lst, ↓seqK_new, ↓seqK_ro, ↓seqK_str, ↓rng1_i, ↓rng2_i, ↓x_iSeq, ↓x_iRange1, ↓x_iRange2, ↓x_dBM, ↓x_dBM0, ↓x_isStr, ↓bools_k, ↓ints_k, ↓strs_k, ↓lstK_lst, ↓lstK_new, ↓sqK_lst, ↓sqK_new, ↓sqK_tup, ↓sqK_ro, ↓x_oAll, ↓x_oSum, ↓x_oJoin, ↓x_oList, ↓x_oTuple, ↓x_oIsN, ↓x_oNotN, ↓x_lc, ↓int_i, ↓int_b, ↓mem_l, ↓mem_t, ↓mem_n, ↓x_srtS, ↓mul_ni, ↓mul_li, ↓wD_dat, ↓wD_new, ↓wB_b, ↓nN_dat, ↓nN_loc, ↓nN_raw, ↓nN_ro, ↓nN_exc, ↓aO_nil, ↓aO_cons, ↓stl_dat, ↓stl_new, ↓stl_loc, ↓stl_raw, ↓stl_ro, ↓stl_exc, ↓cel_dat, ↓cel_new, ↓cel_loc, ↓cel_raw, ↓cel_ro, ↓add_int, ↓add_strD, ↓add_tup, ↓add_ll, ↓add_ln, ↓add_nl, ↓add_nn, ↓oI_ii, ↓oI0_ii, ↓neg_i, ↓inv_i, ↓mul_int, ↓eq_dd, ↓ne_dd, ↓eq_nd, ↓ne_nd, ↓eq_dn, ↓ne_dn, ↓eq_nn, ↓ne_nn, ↓sign_ss, ↓ix_s, ↓ix_tupD, ↓ix_lstD, ↓ix_new, ↓ix_ro, ↓sl_s, ↓sl_tupD, ↓sl_lstD, ↓sl_new, ↓sl_ro, ↓len_str, ↓len_tup, ↓len_lst, ↓len_new, ↓len_ro, ↓max_ii, ↓min_ii, ↓isi_int, ↓isi_bool, ↓isi_str, ↓isi_list, ↓isi_tuple, ↓isi_dict, ↓exitQ_dat, ↓exitQ_new, ↓exitQ_raw, ↓cl_nil, ↓cl_none, ↓cl_dat, ↓cl_ro, ↓cl_raw, ↓cl_odat, ↓dVar_16, ↓dVar_17, ↓dVar_18, ↓dVar_19, ↓dVar_20, ↓dVar_21, ↓dVar_22, ↓dVar_23, ↓dVar_24, ↓dVar_25, ↓dVar_26, ↓dVar_27, ↓dVar_28, ↓dVar_29, ↓dVar_30, ↓dVar_31, ↓dVar_32, ↓dVar_33, ↓dVar_34, ↓dVar_35, ↓noD_n, ↓noD_b, ↓noD_i, ↓noD_s, ↓noD_l, ↓noD_t, ↓noDs_nil, ↓noDs_cons, ↓noDs_app, ↓noDs_i, ↓noDs_s, ↓noDs_b, ↓exC_k, ↓isIntD_none, ↓isIntD_bool, ↓isIntD_int, ↓isIntD_str, ↓isIntD_list, ↓isIntD_tuple, ↓isIntD_dict, ↓isBoolD_none, ↓isBoolD_bool, ↓isBoolD_int, ↓isBoolD_str, ↓isBoolD_list, ↓isBoolD_tuple, ↓isBoolD_dict, ↓isStrD_none, ↓isStrD_bool, ↓isStrD_int, ↓isStrD_str, ↓isStrD_list, ↓isStrD_tuple, ↓isStrD_dict, ↓isListD_none, ↓isListD_bool, ↓isListD_int, ↓isListD_str, ↓isListD_list, ↓isListD_tuple, ↓isListD_dict, ↓isTupD_none, ↓isTupD_bool, ↓isTupD_int, ↓isTupD_str, ↓isTupD_list, ↓isTupD_tuple, ↓isTupD_dict, ↓isDictD_none, ↓isDictD_bool, ↓isDictD_int, ↓isDictD_str, ↓isDictD_list, ↓isDictD_tuple, ↓isDictD_dict, ↓neg_i2, ↓inv_i2, ↓x_iSeqD, ↓seqDK_d, ↓seqDK_t, ↓seqDK_l, ↓seqDK_s, ↓seqDK_n, ↓seqDK_r, ↓seqDK_c, ↓x_iZipD, ↓zipK_t, ↓zipK_l, ↓x_dNewD, ↓lcD_d, ↓keysK_nil, ↓keysK_i, ↓keysK_s, ↓keysP_nil, ↓keysP_i, ↓keysP_s, ↓c_setD, ↓memA_dict, ↓memA_l, ↓memA_t, ↓memA_n, ↓c_memA, ↓memC_d, ↓memC_l, ↓memC_f, ↓cell_nd, ↓cell_nk, ↓stl_nd, ↓stl_nk, ↓ex_nd, ↓ex_nk, ↓x_dCellA, ↓cellA_new, ↓nextA_eq, ↓stateA_eq, ↓cellA_eq, ↓fg_nil, ↓fg_cons, ↓lcR_l, ↓lcR_f, ↓lcK_l, ↓c_len, ↓c_ix, ↓c_ixC, ↓c_app, ↓c_set, ↓c_isL, ↓c_lstK, ↓c_sqK, ↓c_mem, ↓c_addn, ↓c_addl, ↓c_sl, ↓c_seqK, ↓seqC_l, ↓seqC_f, ↓c_wD, ↓wdC_l, ↓wdC_f, ↓exC_l, ↓exC_f, ↓exC_d, ↓cellK_new, ↓cellK_dat, ↓cellK_loc, ↓get_a0, ↓get_a1, ↓get_a2, ↓get_a3, ↓set_a0, ↓set_a1, ↓set_a2, ↓set_a3, ↓lnD_str, ↓lnD_tup, ↓lnD_lst, ↓lnD_new, ↓lnD_ro, ↓lnD_d, ↓c_lenD, ↓lnC_d, ↓lnC_k, ↓lnC_l, ↓lnC_f, ↓eq_cN, ↓eq_cD, ↓eq_Nc, ↓eq_Dc, ↓ne_cN, ↓ne_cD, ↓ne_Nc, ↓ne_Dc, ↓x_iEnumD, ↓enumK_t, ↓enumK_l, ↓enumK_r, ↓enumK_tk, ↓enumK_lk, ↓srt_d, ↓srt_l, ↓srt_n, ↓c_srt, ↓srtC_l, ↓srtC_f, ↓srtC_d, ↓lsA_t, ↓lsA_l, ↓lsA_n, ↓lsA_r, ↓c_lsA, ↓c_isi_list, ↓c_isi_dict, ↓c_isi_tuple, ↓isiB_l, ↓isiB_f, ↓isiB_d, ↓isiB_k, ↓isi_n_list, ↓isi_n_tuple, ↓x_dListIt, ↓litK_d, ↓augK_s, ↓iadd_ii, ↓c_iaddn, ↓c_iaddl, ↓abs_i, ↓x_dRevL, ↓revK_n, ↓revK_l, ↓cnt_n, ↓cnt_l, ↓idx_l, ↓isLst_l, ↓isLst_n, ↓c_pop, ↓c_popD, ↓c_isD, ↓lcD2_d, ↓lcD2_k, ↓tk_0, ↓tk_a0, ↓tk_a1, ↓tk_a2, ↓tk_a3, ↓tk_a4, dVar_0, dVar_1, dVar_2, dVar_3, dVar_4, dVar_5, dVar_6, dVar_7, dVar_8, dVar_9, dVar_10, dVar_11, dVar_12, dVar_13, dVar_14, dVar_15, old_dat, old_loc, old_raw, old_exc, old_ro, wDs_nil, wDs_cons, x_dC, x_dRaw, x_dFrz, x_dCell, x_dStl, x_aNil, x_aCons, x_dLst, x_dTup, x_tVal, x_tAndD, x_tOrD, x_tNotD, x_tYesD, x_dAndV, x_dOrV, x_dNotV, x_dIfE, x_dOp, x_dUn, x_dCB, x_dChain, intK_i, x_oNo, x_oSome, x_dSl, x_gNm, x_gNl0, x_gCn, x_gTp, x_gSb, x_dCall, seqK_tup, seqK_lst, seqK_new, seqK_ro, seqK_str, rng1_i, rng2_i, x_iSeq, x_iRange1, x_iRange2, x_dBM, x_dBM0, x_isStr, bools_k, ints_k, strs_k, lstK_lst, lstK_new, sqK_lst, sqK_new, sqK_tup, sqK_ro, x_oAll, x_oSum, x_oJoin, x_oList, x_oTuple, x_oIsN, x_oNotN, x_lc, int_i, int_b, mem_l, mem_t, mem_n, x_srtS, mul_ni, mul_li, wD_dat, wD_new, wB_b, nN_dat, nN_loc, nN_raw, nN_ro, nN_exc, aO_nil, aO_cons, stl_dat, stl_new, stl_loc, stl_raw, stl_ro, stl_exc, cel_dat, cel_new, cel_loc, cel_raw, cel_ro, add_int, add_strD, add_tup, add_ll, add_ln, add_nl, add_nn, oI_ii, oI0_ii, neg_i, inv_i, mul_int, eq_dd, ne_dd, eq_nd, ne_nd, eq_dn, ne_dn, eq_nn, ne_nn, sign_ss, ix_s, ix_tupD, ix_lstD, ix_new, ix_ro, sl_s, sl_tupD, sl_lstD, sl_new, sl_ro, len_str, len_tup, len_lst, len_new, len_ro, max_ii, min_ii, isi_int, isi_bool, isi_str, isi_list, isi_tuple, isi_dict, exitQ_dat, exitQ_new, exitQ_raw, cl_nil, cl_none, cl_dat, cl_ro, cl_raw, cl_odat, dVar_16, dVar_17, dVar_18, dVar_19, dVar_20, dVar_21, dVar_22, dVar_23, dVar_24, dVar_25, dVar_26, dVar_27, dVar_28, dVar_29, dVar_30, dVar_31, dVar_32, dVar_33, dVar_34, dVar_35, noD_n, noD_b, noD_i, noD_s, noD_l, noD_t, noDs_nil, noDs_cons, noDs_app, noDs_i, noDs_s, noDs_b, exC_k, isIntD_none, isIntD_bool, isIntD_int, isIntD_str, isIntD_list, isIntD_tuple, isIntD_dict, isBoolD_none, isBoolD_bool, isBoolD_int, isBoolD_str, isBoolD_list, isBoolD_tuple, isBoolD_dict, isStrD_none, isStrD_bool, isStrD_int, isStrD_str, isStrD_list, isStrD_tuple, isStrD_dict, isListD_none, isListD_bool, isListD_int, isListD_str, isListD_list, isListD_tuple, isListD_dict, isTupD_none, isTupD_bool, isTupD_int, isTupD_str, isTupD_list, isTupD_tuple, isTupD_dict, isDictD_none, isDictD_bool, isDictD_int, isDictD_str, isDictD_list, isDictD_tuple, isDictD_dict, neg_i2, inv_i2, x_iSeqD, seqDK_d, seqDK_t, seqDK_l, seqDK_s, seqDK_n, seqDK_r, seqDK_c, x_iZipD, zipK_t, zipK_l, x_dNewD, lcD_d, keysK_nil, keysK_i, keysK_s, keysP_nil, keysP_i, keysP_s, c_setD, memA_dict, memA_l, memA_t, memA_n, c_memA, memC_d, memC_l, memC_f, cell_nd, cell_nk, stl_nd, stl_nk, ex_nd, ex_nk, x_dCellA, cellA_new, nextA_eq, stateA_eq, cellA_eq, fg_nil, fg_cons, lcR_l, lcR_f, lcK_l, c_len, c_ix, c_ixC, c_app, c_set, c_isL, c_lstK, c_sqK, c_mem, c_addn, c_addl, c_sl, c_seqK, seqC_l, seqC_f, c_wD, wdC_l, wdC_f, exC_l, exC_f, exC_d, cellK_new, cellK_dat, cellK_loc, get_a0, get_a1, get_a2, get_a3, set_a0, set_a1, set_a2, set_a3, lnD_str, lnD_tup, lnD_lst, lnD_new, lnD_ro, lnD_d, c_lenD, lnC_d, lnC_k, lnC_l, lnC_f, eq_cN, eq_cD, eq_Nc, eq_Dc, ne_cN, ne_cD, ne_Nc, ne_Dc, x_iEnumD, enumK_t, enumK_l, enumK_r, enumK_tk, enumK_lk, srt_d, srt_l, srt_n, c_srt, srtC_l, srtC_f, srtC_d, lsA_t, lsA_l, lsA_n, lsA_r, c_lsA, c_isi_list, c_isi_dict, c_isi_tuple, isiB_l, isiB_f, isiB_d, isiB_k, isi_n_list, isi_n_tuple, x_dListIt, litK_d, augK_s, iadd_ii, c_iaddn, c_iaddl, abs_i, x_dRevL, revK_n, revK_l, cnt_n, cnt_l, idx_l, isLst_l, isLst_n, c_pop, c_popD, c_isD, lcD2_d, lcD2_k, tk_0, tk_a0, tk_a1, tk_a2, tk_a3, tk_a4, isR_h, isR_app, isR_last, exitQ_ge, exitQ_lt, cl_loc, nle_h, nlt_h, ile_h, ilt_h, cmul_l, cmul_r, cdiv_h, cpow_h, csh_h, csh_0, oLt, oLe, oGt, oGe, oSub, oMod, oDiv, oPow, oShl, oShr, oAnd, oOr, oXor, isRaw, isNon, startD, List.length_map, decide_eq_true_eq, List.map_cons, List.map_nil, List.length_cons, List.length_nil, List.cons_append, List.nil_append, List.append_nil, List.replicate, List.getElem?_cons_zero, List.getElem?_cons_succ, List.set_cons_zero, List.set_cons_succ, List.take_length, true_and, and_true, eqv_int, eqv_bool, eqv_str, dep_int, dep_bool, dep_str, dep_none, min0l, min0r, Option.map_some, Option.map_none, if_true, if_false, Bool.and_true, Bool.true_and, Bool.false_eq_true, Bool.not_true, Bool.not_false, reduceIte, wipeD, List.append_assoc, at_nn, Option.some.injEq, exists_eq_left, exists_eq_left', Int.reduceToNat, Int.reduceLE, Int.reduceLT, List.length_set, Nat.reduceAdd, Nat.reduceLeDiff, Nat.reduceSub, dat_dat, dat_new, lst_lst, lst_new, seq_tup, seq_lst, seq_new, seq_ro, List.length_append, Nat.zero_add, eqv_tup, eqv_lst, eqvA_nn, eqvA_cc, eqvA_nc, eqvA_cn, dep_tup, dep_lst, depA_nil, depA_cons, Nat.max_zero, Nat.zero_max, Nat.lt_add_one, forall_const, oShlA, rng_c, Int.toNat_natCast, List.flatten_nil, decide_true, decide_false])
theorem wid1_bit {w h : Nat} {s : List Nat} (hl : s.length = h) (x y : Int) (hin : inF w h (x, y)) : bitS (wid1 w h s) x y = (bitS s x y || (bitS s (x - 1) y || bitS s (x + 1) y)) := by
  unfold wid1
  rw [orS_bit (by rw [orS_len (by rw [movS_len, movS_len]), movS_len, hl]), orS_bit (by rw [movS_len, movS_len]), movS_bit, movS_bit, decide_eq_true hin, Bool.true_and, Bool.true_and, Int.sub_zero, show x - -1 = x + 1 by omega]
theorem gro1_bit {w h : Nat} {s : List Nat} (hl : s.length = h) (hs : okS w s) (x y : Int) (hin : inF w h (x, y)) : bitS (gro1 w h s) x y = true ↔ ∃ a b : Int, -1 ≤ a ∧ a ≤ 1 ∧ -1 ≤ b ∧ b ≤ 1 ∧ inF w h (x, y + b) ∧ bitS s (x + a) (y + b) = true := by
  have hw := wid1_len (w := w) hl
  have ow := wid1_ok (h := h) hs
  have key : ∀ b : Int, bitS (wid1 w h s) x (y + b) = true ↔ inF w h (x, y + b) ∧ ∃ a : Int, -1 ≤ a ∧ a ≤ 1 ∧ bitS s (x + a) (y + b) = true := fun b => by
    constructor
    · intro hb
      have hin2 := bitS_in hw ow hb
      refine ⟨hin2, ?_⟩
      rw [wid1_bit hl _ _ hin2, Bool.or_eq_true, Bool.or_eq_true] at hb
      rcases hb with hb | hb | hb
      · exact ⟨0, by omega, by omega, by rwa [Int.add_zero]⟩
      · exact ⟨-1, by omega, by omega, hb⟩
      · exact ⟨1, by omega, by omega, hb⟩
    · rintro ⟨hin2, a, a0, a1, hb⟩
      rw [wid1_bit hl _ _ hin2, Bool.or_eq_true, Bool.or_eq_true]
      by_cases e0 : a = 0
      · subst e0
        rw [Int.add_zero] at hb
        exact .inl hb
      · by_cases e1 : a = -1
        · subst e1
          exact .inr (.inl hb)
        · have e2 : a = 1 := by omega
          subst e2
          exact .inr (.inr hb)
  unfold gro1
  rw [orS_bit (by rw [orS_len (by rw [movS_len, movS_len]), movS_len, hw]), orS_bit (by rw [movS_len, movS_len]), movS_bit, movS_bit, decide_eq_true hin, Bool.true_and, Bool.true_and, Int.sub_zero, Bool.or_eq_true, Bool.or_eq_true, show y - -1 = y + 1 by omega]
  have k0 := key 0
  rw [Int.add_zero] at k0
  have k1 := key (-1)
  have k2 := key 1
  rw [show y + -1 = y - 1 by omega] at k1
  rw [k0, k1, k2]
  constructor
  · rintro (⟨i0, a, a0, a1, hb⟩ | ⟨i0, a, a0, a1, hb⟩ | ⟨i0, a, a0, a1, hb⟩)
    · exact ⟨a, 0, a0, a1, by omega, by omega, by rwa [Int.add_zero], by rwa [Int.add_zero]⟩
    · exact ⟨a, -1, a0, a1, by omega, by omega, i0, hb⟩
    · exact ⟨a, 1, a0, a1, by omega, by omega, i0, hb⟩
  · rintro ⟨a, b, a0, a1, b0, b1, hi2, hb⟩
    by_cases e0 : b = 0
    · subst e0
      rw [Int.add_zero] at hi2 hb
      exact .inl ⟨hi2, a, a0, a1, hb⟩
    · by_cases e1 : b = -1
      · subst e1
        exact .inr (.inl ⟨hi2, a, a0, a1, hb⟩)
      · have e2 : b = 1 := by omega
        subst e2
        exact .inr (.inr ⟨hi2, a, a0, a1, hb⟩)
theorem toward (x c : Int) (n : Nat) (h1 : c - (n + 1 : Nat) ≤ x) (h2 : x ≤ c + (n + 1 : Nat)) : ∃ a : Int, -1 ≤ a ∧ a ≤ 1 ∧ c - n ≤ x + a ∧ x + a ≤ c + n ∧ ((x ≤ x + a ∧ x + a ≤ c) ∨ (c ≤ x + a ∧ x + a ≤ x)) := by
  by_cases e1 : x < c
  · exact ⟨1, by omega, by omega, by omega, by omega, .inl (by omega)⟩
  · by_cases e2 : c < x
    · exact ⟨-1, by omega, by omega, by omega, by omega, .inr (by omega)⟩
    · exact ⟨0, by omega, by omega, by omega, by omega, .inl (by omega)⟩
theorem groN_bit {w h : Nat} {cs : List Pt} (hc : ∀ c ∈ cs, inF w h c) : ∀ (n : Nat) (x y : Int), inF w h (x, y) → (bitS (groN w h n (shC w h cs)) x y = true ↔ ∃ c ∈ cs, near n c (x, y))
  | 0, x, y, hin => by
    show bitS (shC w h cs) x y = true ↔ _
    rw [shC_bit, decide_eq_true hin, Bool.true_and, decide_eq_true_eq]
    constructor
    · intro hm
      exact ⟨_, hm, by unfold near; simp only; omega⟩
    · rintro ⟨c, hm, hn⟩
      have e : c = (x, y) := by
        unfold near at hn
        simp only at hn
        exact Prod.ext (by simp only; omega) (by simp only; omega)
      exact e ▸ hm
  | n + 1, x, y, hin => by
    have hl := groN_len (w := w) (h := h) (s := shC w h cs) (sheetB_len _ _ _) n
    have ho := groN_ok (w := w) (h := h) (s := shC w h cs) (sheetB_ok _ _ _) n
    show bitS (gro1 w h (groN w h n (shC w h cs))) x y = true ↔ _
    rw [gro1_bit hl ho x y hin]
    constructor
    · rintro ⟨a, b, a0, a1, b0, b1, _, hb⟩
      obtain ⟨c, hm, hn⟩ := (groN_bit hc n (x + a) (y + b) (bitS_in hl ho hb)).mp hb
      exact ⟨c, hm, by unfold near at hn ⊢; simp only at hn ⊢; omega⟩
    · rintro ⟨c, hm, hn⟩
      have hcc := hc c hm
      unfold near at hn
      simp only at hn
      obtain ⟨a, a0, a1, a2, a3, a4⟩ := toward x c.1 n (by omega) (by omega)
      obtain ⟨b, b0, b1, b2, b3, b4⟩ := toward y c.2 n (by omega) (by omega)
      unfold inF at hin hcc
      simp only at hin hcc
      refine ⟨a, b, a0, a1, b0, b1, by unfold inF; simp only; omega, (groN_bit hc n (x + a) (y + b) (by unfold inF; simp only; omega)).mpr ⟨c, hm, ?_⟩⟩
      unfold near
      simp only
      omega
theorem grown_law {w h : Nat} {cs gs : List Pt} {g : Int} (g0 : 0 ≤ g) (hc : ∀ c ∈ cs, inF w h c) (hg : ∀ p, p ∈ gs ↔ inF w h p ∧ ∃ c ∈ cs, near g c p) : groN w h g.toNat (shC w h cs) = shC w h gs := by
  refine sheet_ext _ (groN_len (sheetB_len _ _ _) _) (groN_ok (sheetB_ok _ _ _) _) fun x y h1 h2 h3 h4 => ?_
  have hin : inF w h (x, y) := ⟨h1, h2, h3, h4⟩
  rw [Bool.eq_iff_iff, groN_bit hc _ x y hin, decide_eq_true_eq, hg, show ((g.toNat : Nat) : Int) = g by omega]
  exact ⟨fun z => ⟨hin, z⟩, fun z => z.2⟩

theorem flood_law {w h : Nat} {cs gs : List Pt} {a b : Int} {t : List Nat} (hc : ∀ c ∈ cs, inF w h c) (F : FloodOf w h (shC w h cs) a b t) (hg : ∀ p, p ∈ gs ↔ Rch (fun p => p ∈ cs) (a, b) p) : t = shC w h gs := by
  obtain ⟨h1, h2, h3⟩ := F
  refine sheet_ext _ h1 h2 fun x y x0 x1 y0 y1 => ?_
  rw [Bool.eq_iff_iff, h3, decide_eq_true_eq, hg]
  refine Rch.congr fun p => ?_
  rw [shC_bit, Bool.and_eq_true, decide_eq_true_eq, decide_eq_true_eq]
  exact ⟨fun z => z.2, fun z => ⟨hc p z, z⟩⟩
theorem flood_law2 {w h : Nat} {cs gs : List Pt} {a b c d : Int} {t : List Nat} (hc : ∀ c ∈ cs, inF w h c) (F : FloodOf w h (shC w h cs) c d t) (hg : ∀ p, p ∈ gs ↔ Rch (fun p => p ∈ cs) (a, b) p) (hm : (c, d) ∈ gs) : t = shC w h gs :=
  flood_law hc F fun p => (hg p).trans (((hg _).mp hm).same).symm

theorem tur_law {w h : Nat} {cs gs : List Pt} (hc : ∀ c ∈ cs, inF w h c) (hg : ∀ p, p ∈ gs ↔ p ∈ cs.map (turP h) ∧ inF h w p) : turB w h (shC w h cs) = shC h w gs := by
  unfold turB
  rw [show shC h w gs = sheetB h w fun x y => decide ((x, y) ∈ gs) from rfl]
  refine sheetB_congr fun x y h1 h2 h3 h4 => ?_
  rw [bit_in hc, Bool.eq_iff_iff, decide_eq_true_eq, decide_eq_true_eq, hg, List.mem_map]
  constructor
  · intro hm
    exact ⟨⟨_, hm, Prod.ext (by unfold turP; simp only; omega) rfl⟩, h1, h2, h3, h4⟩
  · rintro ⟨⟨c, hm, e⟩, _⟩
    have e1 := congrArg Prod.fst e
    have e2 := congrArg Prod.snd e
    unfold turP at e1 e2
    simp only at e1 e2
    have e3 : c = (y, (h : Int) - 1 - x) := Prod.ext (by simp only; omega) (by simp only; omega)
    rw [← e3]
    exact hm
theorem mir_law {w h : Nat} {cs gs : List Pt} (hc : ∀ c ∈ cs, inF w h c) (hg : ∀ p, p ∈ gs ↔ p ∈ cs.map (mirP w) ∧ inF w h p) : mirB w h (shC w h cs) = shC w h gs := by
  unfold mirB
  rw [show shC w h gs = sheetB w h fun x y => decide ((x, y) ∈ gs) from rfl]
  refine sheetB_congr fun x y h1 h2 h3 h4 => ?_
  rw [bit_in hc, Bool.eq_iff_iff, decide_eq_true_eq, decide_eq_true_eq, hg, List.mem_map]
  constructor
  · intro hm
    exact ⟨⟨_, hm, Prod.ext (by unfold mirP; simp only; omega) rfl⟩, h1, h2, h3, h4⟩
  · rintro ⟨⟨c, hm, e⟩, _⟩
    have e1 := congrArg Prod.fst e
    have e2 := congrArg Prod.snd e
    unfold mirP at e1 e2
    simp only at e1 e2
    have e3 : c = ((w : Int) - 1 - x, y) := Prod.ext (by simp only; omega) (by simp only; omega)
    rw [← e3]
    exact hm
theorem mov_law {w h : Nat} {cs gs : List Pt} {dx dy : Int} (hc : ∀ c ∈ cs, inF w h c) (hg : ∀ p, p ∈ gs ↔ p ∈ cs.map (fun c => (c.1 + dx, c.2 + dy)) ∧ inF w h p) : movS w h (shC w h cs) dx dy = shC w h gs := by
  unfold movS
  rw [show shC w h gs = sheetB w h fun x y => decide ((x, y) ∈ gs) from rfl]
  refine sheetB_congr fun x y h1 h2 h3 h4 => ?_
  rw [bit_in hc, Bool.eq_iff_iff, decide_eq_true_eq, decide_eq_true_eq, hg, List.mem_map]
  constructor
  · intro hm
    exact ⟨⟨_, hm, Prod.ext (by simp only; omega) (by simp only; omega)⟩, h1, h2, h3, h4⟩
  · rintro ⟨⟨c, hm, e⟩, _⟩
    have e1 := congrArg Prod.fst e
    have e2 := congrArg Prod.snd e
    simp only at e1 e2
    have e3 : c = (x - dx, y - dy) := Prod.ext (by simp only; omega) (by simp only; omega)
    rw [← e3]
    exact hm
def sp_law_done : SpD := fun es μ q x => ∃ (w : Nat) (h : Nat) (s : List Nat) (cs : List Pt) (n : Nat), es = [.dat (szD w h), .dat (shD s), .dat (dctD cs), .loc n] ∧ (s = shC w h cs ∧ (3 ≤ w ∧ w ≤ 10 ∧ 3 ≤ h ∧ h ≤ 10) ∧ StC w h cs ∧ isR μ n ∧ ∀ w' h' cs', (3 ≤ w' ∧ w' ≤ 10 ∧ 3 ≤ h' ∧ h' ≤ 10) → StC w' h' cs' → q (.dat (.tuple [szD w' h', shD (shC w' h' cs'), dctD cs'])) μ)
theorem e_law_done {w : Nat} {h : Nat} {s : List Nat} {cs : List Pt} {n : Nat} {μ : Mu} {q : PQ} {x : XQ} : sp_law_done [.dat (szD w h), .dat (shD s), .dat (dctD cs), .loc n] μ q x = (s = shC w h cs ∧ (3 ≤ w ∧ w ≤ 10 ∧ 3 ≤ h ∧ h ≤ 10) ∧ StC w h cs ∧ isR μ n ∧ ∀ w' h' cs', (3 ≤ w' ∧ w' ≤ 10 ∧ 3 ≤ h' ∧ h' ≤ 10) → StC w' h' cs' → q (.dat (.tuple [szD w' h', shD (shC w' h' cs'), dctD cs'])) μ) := by
  refine propext ⟨fun hyp0 => ?_, fun hyp0 => ⟨w, h, s, cs, n, rfl, hyp0⟩⟩
  obtain ⟨w', h', s', cs', n', eq0, hyp0⟩ := hyp0
  simp only [List.cons.injEq, Exn.mk.injEq, EV.dat.injEq, EV.loc.injEq, EV.new.injEq, EV.ro.injEq, EV.exc.injEq, PyData.int.injEq, PyData.str.injEq, PyData.bool.injEq, PyData.list.injEq, PyData.tuple.injEq, and_true, true_and, and_assoc, map_int_inj, szD_inj, shD_inj, dctD_inj] at eq0
  obtain ⟨rfl, rfl, rfl, rfl, rfl⟩ := eq0
  exact hyp0
theorem ok_law_done (T : Top K mg) : DefAt P w K mg base "_law_done" 5 ["_law_size_here", "_law_sheet_here", "_law_cells_here", "_law_state_here"] [] [] sp_law_done := by
  refine def_ok sp_law_done T.F_law_done sc_law_done T.m_law_done T.b_law_done (fun cdv A outer s H E hr tk pw => (dss_cons (ds_set (i := 4) sc_law_done.nd rfl (by first | exact Or.inl rfl | exact Or.inr rfl) (de_stl (de_ix ix_seq os_ix (de_lst (da_cons de_int (da_cons de_int (da_cons de_int (da_cons de_int (da_cons de_int (da_cons de_int (da_cons de_int (da_cons de_int (da_cons de_int (da_cons de_int da_nil))))))))))) (de_call (ok_law_next T) hr (by decide) (by rfl) tk (fun _ _ => .nil) (da_cons (de_cell (dv 3)) (da_cons de_int da_nil))) (fun _ _ => rfl))))
    (dss_cons (ds_if (dt_cmp op_lt os_lt (dv 4) de_int (nomark _)) (dss_one (ds_ret (de_call (ok_law_two_done T) hr (by decide) (by rfl) tk (fun _ _ => .nil) (da_cons (de_stl (dv 4)) (da_cons (de_stl (dv 0)) (da_cons (de_stl (dv 1)) (da_cons (de_stl (dv 2)) (da_cons (de_cell (dv 3)) da_nil)))))))) dss_nil)
    (dss_cons (ds_if (dt_cmp (opA_eq hr.units) os_eq (dv 4) de_int (nomark _)) (dss_cons (ds_asg (de_frz (de_tup (da_cons (de_frz (de_op op_sub os_sub (de_call (ok_law_next T) hr (by decide) (by rfl) tk (fun _ _ => .nil) (da_cons (de_cell (dv 3)) (da_cons de_int da_nil))) de_int)) (da_cons (de_frz (de_op op_sub os_sub (de_call (ok_law_next T) hr (by decide) (by rfl) tk (fun _ _ => .nil) (da_cons (de_cell (dv 3)) (da_cons de_int da_nil))) de_int)) da_nil)))) (dg_tup (n := 2) rfl (dgs_cons (dg_name (i := 5) sc_law_done.nd rfl (by first | exact Or.inl rfl | exact Or.inr rfl)) (dgs_cons (dg_name (i := 6) sc_law_done.nd rfl (by first | exact Or.inl rfl | exact Or.inr rfl)) dgs_nil))))
    (dss_one (ds_ret (de_tup (da_cons (de_frz (dv 0)) (da_cons (de_frz (de_stl (de_call (ok_moved T) hr (by decide) (by rfl) tk (fun _ _ => .nil) (da_cons (de_stl (dv 0)) (da_cons (de_stl (dv 1)) (da_cons (de_stl (dv 5)) (da_cons (de_stl (dv 6)) da_nil))))))) (da_cons (de_frz (de_stl (de_call (ok_law_all_in T) hr (by decide) (by rfl) tk (fun _ _ => .nil) (da_cons (de_stl (dv 0)) (da_cons (de_stl (de_lc (own := [("_law_x", 8), ("_law_y", 9)]) rfl sc_law_done.nd (di_seqD (dv 2)) (blkOk_by (N := ["_law_size_here", "_law_sheet_here", "_law_cells_here", "_law_state_here", "_law_way", "_law_dx", "_law_dy", "_law_gap", "_law_x", "_law_y", "_law_other"]) (sc := defScope s_law_done) (by decide +kernel)) (by decide) (fun _ _ _ _ _ => (dg_tup (n := 2) rfl (dgs_cons (dg_name (i := 8) sc_law_done.nd rfl (by first | exact Or.inl rfl | exact Or.inr rfl)) (dgs_cons (dg_name (i := 9) sc_law_done.nd rfl (by first | exact Or.inl rfl | exact Or.inr rfl)) dgs_nil)))) (fun _ _ _ _ _ => dts_nil) (fun _ _ _ _ _ => (de_tup (da_cons (de_frz (de_op opA_add os_add (dv 8) (dv 5))) (da_cons (de_frz (de_op opA_add os_add (dv 9) (dv 6))) da_nil)))))) da_nil))))) da_nil))))))) dss_nil)
    (dss_cons (ds_if (dt_cmp (opA_eq hr.units) os_eq (dv 4) de_int (nomark _)) (dss_cons (ds_set (i := 7) sc_law_done.nd rfl (by first | exact Or.inl rfl | exact Or.inr rfl) (de_stl (de_call (ok_law_next T) hr (by decide) (by rfl) tk (fun _ _ => .nil) (da_cons (de_cell (dv 3)) (da_cons de_int da_nil)))))
    (dss_one (ds_ret (de_tup (da_cons (de_frz (dv 0)) (da_cons (de_frz (de_stl (de_call (ok_grown T) hr (by decide) (by rfl) tk (fun _ _ => .nil) (da_cons (de_stl (dv 0)) (da_cons (de_stl (dv 1)) (da_cons (de_stl (dv 7)) da_nil)))))) (da_cons (de_frz (de_stl (de_call (ok_law_near T) hr (by decide) (by rfl) tk (fun _ _ => .nil) (da_cons (de_stl (dv 2)) (da_cons (de_stl (dv 0)) (da_cons (de_stl (dv 7)) da_nil)))))) da_nil))))))) dss_nil)
    (dss_cons (ds_if (dt_cmp (opA_eq hr.units) os_eq (dv 4) de_int (nomark _)) (dss_cons (ds_par (i := 8) (j := 9) rfl sc_law_done.nd rfl rfl (by decide) rfl rfl (da_cons (de_stl (de_call (ok_law_next T) hr (by decide) (by rfl) tk (fun _ _ => .nil) (da_cons (de_cell (dv 3)) (da_cons (de_stl (de_ix ix_seq os_ix (dv 0) de_int (fun _ _ => rfl))) da_nil)))) (da_cons (de_stl (de_call (ok_law_next T) hr (by decide) (by rfl) tk (fun _ _ => .nil) (da_cons (de_cell (dv 3)) (da_cons (de_stl (de_ix ix_seq os_ix (dv 0) de_int (fun _ _ => rfl))) da_nil)))) da_nil)) (by rfl))
    (dss_one (ds_ret (de_tup (da_cons (de_frz (dv 0)) (da_cons (de_frz (de_stl (de_call (ok_flood T) hr (by decide) (by rfl) tk (fun _ _ => .nil) (da_cons (de_stl (dv 0)) (da_cons (de_stl (dv 1)) (da_cons (de_stl (dv 8)) (da_cons (de_stl (dv 9)) da_nil))))))) (da_cons (de_frz (de_stl (de_call (ok_law_come_to T) hr (by decide) (by rfl) tk (fun _ _ => .nil) (da_cons (de_stl (dv 2)) (da_cons (de_stl (de_tup (da_cons (de_frz (dv 8)) (da_cons (de_frz (dv 9)) da_nil)))) da_nil))))) da_nil))))))) dss_nil)
    (dss_cons (ds_if (dt_cmp (opA_eq hr.units) os_eq (dv 4) de_int (nomark _)) (dss_cons (ds_set (i := 10) sc_law_done.nd rfl (by first | exact Or.inl rfl | exact Or.inr rfl) (de_stl (de_tup (da_cons (de_frz (de_ix ix_seq os_ix (dv 0) de_int (fun _ _ => rfl))) (da_cons (de_frz (de_ix ix_seq os_ix (dv 0) de_int (fun _ _ => rfl))) da_nil)))))
    (dss_one (ds_ret (de_tup (da_cons (de_frz (dv 10)) (da_cons (de_frz (de_stl (de_call (ok_turned_sheet T) hr (by decide) (by rfl) tk (fun _ _ => .nil) (da_cons (de_stl (dv 0)) (da_cons (de_stl (dv 1)) da_nil))))) (da_cons (de_frz (de_stl (de_call (ok_law_all_in T) hr (by decide) (by rfl) tk (fun _ _ => .nil) (da_cons (de_stl (dv 10)) (da_cons (de_stl (de_lc (own := [("_law_x", 8), ("_law_y", 9)]) rfl sc_law_done.nd (di_seqD (dv 2)) (blkOk_by (N := ["_law_size_here", "_law_sheet_here", "_law_cells_here", "_law_state_here", "_law_way", "_law_dx", "_law_dy", "_law_gap", "_law_x", "_law_y", "_law_other"]) (sc := defScope s_law_done) (by decide +kernel)) (by decide) (fun _ _ _ _ _ => (dg_tup (n := 2) rfl (dgs_cons (dg_name (i := 8) sc_law_done.nd rfl (by first | exact Or.inl rfl | exact Or.inr rfl)) (dgs_cons (dg_name (i := 9) sc_law_done.nd rfl (by first | exact Or.inl rfl | exact Or.inr rfl)) dgs_nil)))) (fun _ _ _ _ _ => dts_nil) (fun _ _ _ _ _ => (de_tup (da_cons (de_frz (de_op op_sub os_sub (de_op op_sub os_sub (de_ix ix_seq os_ix (dv 0) de_int (fun _ _ => rfl)) de_int) (dv 9))) (da_cons (de_frz (dv 8)) da_nil)))))) da_nil))))) da_nil))))))) dss_nil)
    (dss_one (ds_ret (de_tup (da_cons (de_frz (dv 0)) (da_cons (de_frz (de_stl (de_call (ok_mirrored T) hr (by decide) (by rfl) tk (fun _ _ => .nil) (da_cons (de_stl (dv 0)) (da_cons (de_stl (dv 1)) da_nil))))) (da_cons (de_frz (de_stl (de_call (ok_law_all_in T) hr (by decide) (by rfl) tk (fun _ _ => .nil) (da_cons (de_stl (dv 0)) (da_cons (de_stl (de_lc (own := [("_law_x", 8), ("_law_y", 9)]) rfl sc_law_done.nd (di_seqD (dv 2)) (blkOk_by (N := ["_law_size_here", "_law_sheet_here", "_law_cells_here", "_law_state_here", "_law_way", "_law_dx", "_law_dy", "_law_gap", "_law_x", "_law_y", "_law_other"]) (sc := defScope s_law_done) (by decide +kernel)) (by decide) (fun _ _ _ _ _ => (dg_tup (n := 2) rfl (dgs_cons (dg_name (i := 8) sc_law_done.nd rfl (by first | exact Or.inl rfl | exact Or.inr rfl)) (dgs_cons (dg_name (i := 9) sc_law_done.nd rfl (by first | exact Or.inl rfl | exact Or.inr rfl)) dgs_nil)))) (fun _ _ _ _ _ => dts_nil) (fun _ _ _ _ _ => (de_tup (da_cons (de_frz (de_op op_sub os_sub (de_op op_sub os_sub (de_ix ix_seq os_ix (dv 0) de_int (fun _ _ => rfl)) de_int) (dv 8))) (da_cons (de_frz (dv 9)) da_nil)))))) da_nil))))) da_nil))))))))))))) ?_
  rintro es μ q x - ⟨w, h, s, cs, n, rfl, rfl, hb, S, hs, k⟩
  have hn := hs.lt
  have hcl := S.len hb.2.1 hb.2.2.2
  walk_at "run"
  intro r r0 r1
  rw [at_nn r0]
  refine pick_at r0 (by simpa using r1) ?_
  intro d hd
  obtain ⟨m, rfl, m0, m7⟩ : ∃ m : Int, d = .int m ∧ 0 ≤ m ∧ m ≤ 7 := by
    simp only [List.mem_cons, List.not_mem_nil, or_false] at hd
    rcases hd with rfl | rfl | rfl | rfl | rfl | rfl | rfl | rfl | rfl | rfl
    all_goals exact ⟨_, rfl, by omega, by omega⟩
  clear hd
  obtain ⟨w3, w10, h3, h10⟩ := hb
  walk_at "run"
  split
  · walk_at "run"
    exact ⟨S, fun cs' S' => k w h cs' ⟨w3, w10, h3, h10⟩ S'⟩
  · walk_at "run"
    split
    · walk_at "run"
      intro a a0 a1 b b0 b1
      walk_at "run"
      refine lc_mapD (f := fun c : Pt => ptD (c.1 + (a - 2), c.2 + (b - 2))) (by omega) trivial (fun c K hc hK => ?e3) ?_
      case e3 => (try walk_at "dx"); exact hK
      have e : (cs.map fun c : Pt => ptD (c.1 + (a - 2), c.2 + (b - 2))) = (cs.map fun c => (c.1 + (a - 2), c.2 + (b - 2))).map ptD := by rw [List.map_map]; rfl
      rw [e]
      walk_at "run"
      intro gs hg hgn
      walk_at "run"
      rw [mov_law S.inn hg]
      exact k w h gs ⟨w3, w10, h3, h10⟩ ⟨fun c hc => ((hg c).mp hc).2, hgn⟩
    · walk_at "run"
      split
      · walk_at "run"
        intro a a0 a1
        walk_at "run"
        intro gs hg hgn
        walk_at "run"
        rw [grown_law a0 S.inn hg]
        exact k w h gs ⟨w3, w10, h3, h10⟩ ⟨fun c hc => ((hg c).mp hc).1, hgn⟩
      · walk_at "run"
        split
        · walk_at "run"
          intro a a0 a1 b b0 b1
          walk_at "run"
          intro t F
          walk_at "run"
          intro gs hg hgl hgn
          walk_at "run"
          rw [flood_law S.inn F hg]
          exact k w h gs ⟨w3, w10, h3, h10⟩ ⟨fun c hc => S.inn c ((hg c).mp hc).p, hgn⟩
        · walk_at "run"
          split
          · walk_at "run"
            refine lc_mapD (f := fun c : Pt => ptD (turP h c)) (by omega) trivial (fun c K hc hK => ?e6) ?_
            case e6 => (try walk_at "dx"); exact hK
            have e : (cs.map fun c : Pt => ptD (turP h c)) = (cs.map (turP h)).map ptD := by rw [List.map_map]; rfl
            rw [e, show PyData.tuple [.int (h : Int), .int (w : Int)] = szD h w from rfl]
            walk_at "run"
            intro gs hg hgn
            walk_at "run"
            rw [tur_law S.inn hg]
            exact k h w gs ⟨h3, h10, w3, w10⟩ ⟨fun c hc => ((hg c).mp hc).2, hgn⟩
          · walk_at "run"
            refine lc_mapD (f := fun c : Pt => ptD (mirP w c)) (by omega) trivial (fun c K hc hK => ?e7) ?_
            case e7 => (try walk_at "dx"); exact hK
            have e : (cs.map fun c : Pt => ptD (mirP w c)) = (cs.map (mirP w)).map ptD := by rw [List.map_map]; rfl
            rw [e]
            walk_at "run"
            intro gs hg hgn
            walk_at "run"
            rw [mir_law S.inn hg]
            exact k w h gs ⟨w3, w10, h3, h10⟩ ⟨fun c hc => ((hg c).mp hc).2, hgn⟩
local macro_rules | `(tactic| walk_at "dx") => `(tactic| simp (disch := first | assumption | omega) only [↓e_joined, ↓e_moved, ↓e_common, ↓e_without, ↓ix_sz, ↓gTp_pt, ↓enumK_sh, ↓e_places, ↓e_count, ↓e_nothing, ↓e_has, ↓e_spread, ↓e_is_number, ↓isNum_i, ↓isNum_b, ↓isNum_n, ↓isNum_s, ↓isNum_l, ↓isNum_t, ↓e_is_place, ↓e_sheet_of, ↓e_sheet_of1, sh_eqv, sh_nod, sh_dmin, ↓e_flood, ↓e_grown, ↓e_turned_sheet, ↓e_mirrored, ↓e_law_floor, ↓e_law_sheet, ↓seqDK_pt, ↓gTp_pt, ↓kvT_pt, ↓ix_sz, ↓e_law_same, ↓e_law_size, ↓e_law_cells, ↓memA_dct, hasKs_ptE, ↓e_law_come_to, ↓e_law_near, ↓ex_dctD, ↓plcs_d, ↓plcs_l, ↓listA_pt, ↓lnD_pt, ↓srt_pt, ↓gTp_pr, okS_shC, len_shC, okS_10, noDs_pt, ↓e_law_all_in, ↓litK_pt, ↓memA_ptD, ↓e_law_two_done, ↓e_law_done, ↓dVar_0, ↓dVar_1, ↓dVar_2, ↓dVar_3, ↓dVar_4, ↓dVar_5, ↓dVar_6, ↓dVar_7, ↓dVar_8, ↓dVar_9, ↓dVar_10, ↓dVar_11, ↓dVar_12, ↓dVar_13, ↓dVar_14, ↓dVar_15, ↓old_dat, ↓old_loc, ↓old_raw, ↓old_exc, ↓old_ro, ↓wDs_nil, ↓wDs_cons, ↓x_dC, ↓x_dRaw, ↓x_dFrz, ↓x_dCell, ↓x_dStl, ↓x_aNil, ↓x_aCons, ↓x_dLst, ↓x_dTup, ↓x_tVal, ↓x_tAndD, ↓x_tOrD, ↓x_tNotD, ↓x_tYesD, ↓x_dAndV, ↓x_dOrV, ↓x_dNotV, ↓x_dIfE, ↓x_dOp, ↓x_dUn, ↓x_dCB, ↓x_dChain, ↓intK_i, ↓x_oNo, ↓x_oSome, ↓x_dSl, ↓x_gNm, ↓x_gNl0, ↓x_gCn, ↓x_gTp, ↓x_gSb, ↓x_dCall, ↓seqK_tup, ↓seqK_lst, ↓seqK_new, ↓seqK_ro, ↓seqK_str, ↓rng1_i, ↓rng2_i, ↓x_iSeq, ↓x_iRange1, ↓x_iRange2, ↓x_dBM, ↓x_dBM0, ↓x_isStr, ↓bools_k, ↓ints_k, ↓strs_k, ↓lstK_lst, ↓lstK_new, ↓sqK_lst, ↓sqK_new, ↓sqK_tup, ↓sqK_ro, ↓x_oAll, ↓x_oSum, ↓x_oJoin, ↓x_oList, ↓x_oTuple, ↓x_oIsN, ↓x_oNotN, ↓x_lc, ↓int_i, ↓int_b, ↓mem_l, ↓mem_t, ↓mem_n, ↓x_srtS, ↓mul_ni, ↓mul_li, ↓wD_dat, ↓wD_new, ↓wB_b, ↓nN_dat, ↓nN_loc, ↓nN_raw, ↓nN_ro, ↓nN_exc, ↓aO_nil, ↓aO_cons, ↓stl_dat, ↓stl_new, ↓stl_loc, ↓stl_raw, ↓stl_ro, ↓stl_exc, ↓cel_dat, ↓cel_new, ↓cel_loc, ↓cel_raw, ↓cel_ro, ↓add_int, ↓add_strD, ↓add_tup, ↓add_ll, ↓add_ln, ↓add_nl, ↓add_nn, ↓oI_ii, ↓oI0_ii, ↓neg_i, ↓inv_i, ↓mul_int, ↓eq_dd, ↓ne_dd, ↓eq_nd, ↓ne_nd, ↓eq_dn, ↓ne_dn, ↓eq_nn, ↓ne_nn, ↓sign_ss, ↓ix_s, ↓ix_tupD, ↓ix_lstD, ↓ix_new, ↓ix_ro, ↓sl_s, ↓sl_tupD, ↓sl_lstD, ↓sl_new, ↓sl_ro, ↓len_str, ↓len_tup, ↓len_lst, ↓len_new, ↓len_ro, ↓max_ii, ↓min_ii, ↓isi_int, ↓isi_bool, ↓isi_str, ↓isi_list, ↓isi_tuple, ↓isi_dict, ↓exitQ_dat, ↓exitQ_new, ↓exitQ_raw, ↓cl_nil, ↓cl_none, ↓cl_dat, ↓cl_ro, ↓cl_raw, ↓cl_odat, ↓dVar_16, ↓dVar_17, ↓dVar_18, ↓dVar_19, ↓dVar_20, ↓dVar_21, ↓dVar_22, ↓dVar_23, ↓dVar_24, ↓dVar_25, ↓dVar_26, ↓dVar_27, ↓dVar_28, ↓dVar_29, ↓dVar_30, ↓dVar_31, ↓dVar_32, ↓dVar_33, ↓dVar_34, ↓dVar_35, ↓noD_n, ↓noD_b, ↓noD_i, ↓noD_s, ↓noD_l, ↓noD_t, ↓noDs_nil, ↓noDs_cons, ↓noDs_app, ↓noDs_i, ↓noDs_s, ↓noDs_b, ↓exC_k, ↓isIntD_none, ↓isIntD_bool, ↓isIntD_int, ↓isIntD_str, ↓isIntD_list, ↓isIntD_tuple, ↓isIntD_dict, ↓isBoolD_none, ↓isBoolD_bool, ↓isBoolD_int, ↓isBoolD_str, ↓isBoolD_list, ↓isBoolD_tuple, ↓isBoolD_dict, ↓isStrD_none, ↓isStrD_bool, ↓isStrD_int, ↓isStrD_str, ↓isStrD_list, ↓isStrD_tuple, ↓isStrD_dict, ↓isListD_none, ↓isListD_bool, ↓isListD_int, ↓isListD_str, ↓isListD_list, ↓isListD_tuple, ↓isListD_dict, ↓isTupD_none, ↓isTupD_bool, ↓isTupD_int, ↓isTupD_str, ↓isTupD_list, ↓isTupD_tuple, ↓isTupD_dict, ↓isDictD_none, ↓isDictD_bool, ↓isDictD_int, ↓isDictD_str, ↓isDictD_list, ↓isDictD_tuple, ↓isDictD_dict, ↓neg_i2, ↓inv_i2, ↓x_iSeqD, ↓seqDK_d, ↓seqDK_t, ↓seqDK_l, ↓seqDK_s, ↓seqDK_n, ↓seqDK_r, ↓seqDK_c, ↓x_iZipD, ↓zipK_t, ↓zipK_l, ↓x_dNewD, ↓lcD_d, ↓keysK_nil, ↓keysK_i, ↓keysK_s, ↓keysP_nil, ↓keysP_i, ↓keysP_s, ↓c_setD, ↓memA_dict, ↓memA_l, ↓memA_t, ↓memA_n, ↓c_memA, ↓memC_d, ↓memC_l, ↓memC_f, ↓cell_nd, ↓cell_nk, ↓stl_nd, ↓stl_nk, ↓ex_nd, ↓ex_nk, ↓x_dCellA, ↓cellA_new, ↓nextA_eq, ↓stateA_eq, ↓cellA_eq, ↓fg_nil, ↓fg_cons, ↓lcR_l, ↓lcR_f, ↓lcK_l, ↓c_len, ↓c_ix, ↓c_ixC, ↓c_app, ↓c_set, ↓c_isL, ↓c_lstK, ↓c_sqK, ↓c_mem, ↓c_addn, ↓c_addl, ↓c_sl, ↓c_seqK, ↓seqC_l, ↓seqC_f, ↓c_wD, ↓wdC_l, ↓wdC_f, ↓exC_l, ↓exC_f, ↓exC_d, ↓cellK_new, ↓cellK_dat, ↓cellK_loc, ↓get_a0, ↓get_a1, ↓get_a2, ↓get_a3, ↓set_a0, ↓set_a1, ↓set_a2, ↓set_a3, ↓lnD_str, ↓lnD_tup, ↓lnD_lst, ↓lnD_new, ↓lnD_ro, ↓lnD_d, ↓c_lenD, ↓lnC_d, ↓lnC_k, ↓lnC_l, ↓lnC_f, ↓eq_cN, ↓eq_cD, ↓eq_Nc, ↓eq_Dc, ↓ne_cN, ↓ne_cD, ↓ne_Nc, ↓ne_Dc, ↓x_iEnumD, ↓enumK_t, ↓enumK_l, ↓enumK_r, ↓enumK_tk, ↓enumK_lk, ↓srt_d, ↓srt_l, ↓srt_n, ↓c_srt, ↓srtC_l, ↓srtC_f, ↓srtC_d, ↓lsA_t, ↓lsA_l, ↓lsA_n, ↓lsA_r, ↓c_lsA, ↓c_isi_list, ↓c_isi_dict, ↓c_isi_tuple, ↓isiB_l, ↓isiB_f, ↓isiB_d, ↓isiB_k, ↓isi_n_list, ↓isi_n_tuple, ↓x_dListIt, ↓litK_d, ↓augK_s, ↓iadd_ii, ↓c_iaddn, ↓c_iaddl, ↓abs_i, ↓x_dRevL, ↓revK_n, ↓revK_l, ↓cnt_n, ↓cnt_l, ↓idx_l, ↓isLst_l, ↓isLst_n, ↓c_pop, ↓c_popD, ↓c_isD, ↓lcD2_d, ↓lcD2_k, ↓tk_0, ↓tk_a0, ↓tk_a1, ↓tk_a2, ↓tk_a3, ↓tk_a4, dVar_0, dVar_1, dVar_2, dVar_3, dVar_4, dVar_5, dVar_6, dVar_7, dVar_8, dVar_9, dVar_10, dVar_11, dVar_12, dVar_13, dVar_14, dVar_15, old_dat, old_loc, old_raw, old_exc, old_ro, wDs_nil, wDs_cons, x_dC, x_dRaw, x_dFrz, x_dCell, x_dStl, x_aNil, x_aCons, x_dLst, x_dTup, x_tVal, x_tAndD, x_tOrD, x_tNotD, x_tYesD, x_dAndV, x_dOrV, x_dNotV, x_dIfE, x_dOp, x_dUn, x_dCB, x_dChain, intK_i, x_oNo, x_oSome, x_dSl, x_gNm, x_gNl0, x_gCn, x_gTp, x_gSb, x_dCall, seqK_tup, seqK_lst, seqK_new, seqK_ro, seqK_str, rng1_i, rng2_i, x_iSeq, x_iRange1, x_iRange2, x_dBM, x_dBM0, x_isStr, bools_k, ints_k, strs_k, lstK_lst, lstK_new, sqK_lst, sqK_new, sqK_tup, sqK_ro, x_oAll, x_oSum, x_oJoin, x_oList, x_oTuple, x_oIsN, x_oNotN, x_lc, int_i, int_b, mem_l, mem_t, mem_n, x_srtS, mul_ni, mul_li, wD_dat, wD_new, wB_b, nN_dat, nN_loc, nN_raw, nN_ro, nN_exc, aO_nil, aO_cons, stl_dat, stl_new, stl_loc, stl_raw, stl_ro, stl_exc, cel_dat, cel_new, cel_loc, cel_raw, cel_ro, add_int, add_strD, add_tup, add_ll, add_ln, add_nl, add_nn, oI_ii, oI0_ii, neg_i, inv_i, mul_int, eq_dd, ne_dd, eq_nd, ne_nd, eq_dn, ne_dn, eq_nn, ne_nn, sign_ss, ix_s, ix_tupD, ix_lstD, ix_new, ix_ro, sl_s, sl_tupD, sl_lstD, sl_new, sl_ro, len_str, len_tup, len_lst, len_new, len_ro, max_ii, min_ii, isi_int, isi_bool, isi_str, isi_list, isi_tuple, isi_dict, exitQ_dat, exitQ_new, exitQ_raw, cl_nil, cl_none, cl_dat, cl_ro, cl_raw, cl_odat, dVar_16, dVar_17, dVar_18, dVar_19, dVar_20, dVar_21, dVar_22, dVar_23, dVar_24, dVar_25, dVar_26, dVar_27, dVar_28, dVar_29, dVar_30, dVar_31, dVar_32, dVar_33, dVar_34, dVar_35, noD_n, noD_b, noD_i, noD_s, noD_l, noD_t, noDs_nil, noDs_cons, noDs_app, noDs_i, noDs_s, noDs_b, exC_k, isIntD_none, isIntD_bool, isIntD_int, isIntD_str, isIntD_list, isIntD_tuple, isIntD_dict, isBoolD_none, isBoolD_bool, isBoolD_int, isBoolD_str, isBoolD_list, isBoolD_tuple, isBoolD_dict, isStrD_none, isStrD_bool, isStrD_int, isStrD_str, isStrD_list, isStrD_tuple, isStrD_dict, isListD_none, isListD_bool, isListD_int, isListD_str, isListD_list, isListD_tuple, isListD_dict, isTupD_none, isTupD_bool, isTupD_int, isTupD_str, isTupD_list, isTupD_tuple, isTupD_dict, isDictD_none, isDictD_bool, isDictD_int, isDictD_str, isDictD_list, isDictD_tuple, isDictD_dict, neg_i2, inv_i2, x_iSeqD, seqDK_d, seqDK_t, seqDK_l, seqDK_s, seqDK_n, seqDK_r, seqDK_c, x_iZipD, zipK_t, zipK_l, x_dNewD, lcD_d, keysK_nil, keysK_i, keysK_s, keysP_nil, keysP_i, keysP_s, c_setD, memA_dict, memA_l, memA_t, memA_n, c_memA, memC_d, memC_l, memC_f, cell_nd, cell_nk, stl_nd, stl_nk, ex_nd, ex_nk, x_dCellA, cellA_new, nextA_eq, stateA_eq, cellA_eq, fg_nil, fg_cons, lcR_l, lcR_f, lcK_l, c_len, c_ix, c_ixC, c_app, c_set, c_isL, c_lstK, c_sqK, c_mem, c_addn, c_addl, c_sl, c_seqK, seqC_l, seqC_f, c_wD, wdC_l, wdC_f, exC_l, exC_f, exC_d, cellK_new, cellK_dat, cellK_loc, get_a0, get_a1, get_a2, get_a3, set_a0, set_a1, set_a2, set_a3, lnD_str, lnD_tup, lnD_lst, lnD_new, lnD_ro, lnD_d, c_lenD, lnC_d, lnC_k, lnC_l, lnC_f, eq_cN, eq_cD, eq_Nc, eq_Dc, ne_cN, ne_cD, ne_Nc, ne_Dc, x_iEnumD, enumK_t, enumK_l, enumK_r, enumK_tk, enumK_lk, srt_d, srt_l, srt_n, c_srt, srtC_l, srtC_f, srtC_d, lsA_t, lsA_l, lsA_n, lsA_r, c_lsA, c_isi_list, c_isi_dict, c_isi_tuple, isiB_l, isiB_f, isiB_d, isiB_k, isi_n_list, isi_n_tuple, x_dListIt, litK_d, augK_s, iadd_ii, c_iaddn, c_iaddl, abs_i, x_dRevL, revK_n, revK_l, cnt_n, cnt_l, idx_l, isLst_l, isLst_n, c_pop, c_popD, c_isD, lcD2_d, lcD2_k, tk_0, tk_a0, tk_a1, tk_a2, tk_a3, tk_a4, isR_h, isR_app, isR_last, exitQ_ge, exitQ_lt, cl_loc, nle_h, nlt_h, ile_h, ilt_h, cmul_l, cmul_r, cdiv_h, cpow_h, csh_h, csh_0, oLt, oLe, oGt, oGe, oSub, oMod, oDiv, oPow, oShl, oShr, oAnd, oOr, oXor, isRaw, isNon, startD, List.length_map, decide_eq_true_eq, List.map_cons, List.map_nil, List.length_cons, List.length_nil, List.cons_append, List.nil_append, List.append_nil, List.replicate, List.getElem?_cons_zero, List.getElem?_cons_succ, List.set_cons_zero, List.set_cons_succ, List.take_length, true_and, and_true, eqv_int, eqv_bool, eqv_str, dep_int, dep_bool, dep_str, dep_none, min0l, min0r, Option.map_some, Option.map_none, if_true, if_false, Bool.and_true, Bool.true_and, Bool.false_eq_true, Bool.not_true, Bool.not_false, reduceIte, wipeD, List.append_assoc, at_nn, Option.some.injEq, exists_eq_left, exists_eq_left', Int.reduceToNat, Int.reduceLE, Int.reduceLT, List.length_set, Nat.reduceAdd, Nat.reduceLeDiff, Nat.reduceSub, dat_dat, dat_new, lst_lst, lst_new, seq_tup, seq_lst, seq_new, seq_ro, List.length_append, Nat.zero_add, eqv_tup, eqv_lst, eqvA_nn, eqvA_cc, eqvA_nc, eqvA_cn, dep_tup, dep_lst, depA_nil, depA_cons, Nat.max_zero, Nat.zero_max, Nat.lt_add_one, forall_const, oShlA, rng_c, Int.toNat_natCast, List.flatten_nil, decide_true, decide_false])
theorem turB_len (w h : Nat) (s : List Nat) : (turB w h s).length = w := sheetB_len _ _ _
theorem turB_ok (w h : Nat) (s : List Nat) : okS h (turB w h s) := sheetB_ok _ _ _
theorem mirB_len (w h : Nat) (s : List Nat) : (mirB w h s).length = h := sheetB_len _ _ _
theorem mirB_ok (w h : Nat) (s : List Nat) : okS w (mirB w h s) := sheetB_ok _ _ _
/-- the sheet behind so many turns -/
def turN (w h : Nat) (s : List Nat) : Nat → (Nat × Nat × List Nat)
  | 0 => (w, h, s)
  | n + 1 => ((turN w h s n).2.1, (turN w h s n).1, turB (turN w h s n).1 (turN w h s n).2.1 (turN w h s n).2.2)
theorem turN_ok {w h : Nat} {s : List Nat} (hl : s.length = h) (hs : okS w s) : ∀ n, (turN w h s n).2.2.length = (turN w h s n).2.1 ∧ okS (turN w h s n).1 (turN w h s n).2.2 ∧ (((turN w h s n).1 = w ∧ (turN w h s n).2.1 = h) ∨ ((turN w h s n).1 = h ∧ (turN w h s n).2.1 = w))
  | 0 => ⟨hl, hs, .inl ⟨rfl, rfl⟩⟩
  | n + 1 => by
    obtain ⟨h1, h2, h3⟩ := turN_ok hl hs n
    exact ⟨turB_len _ _ _, turB_ok _ _ _, h3.elim (fun z => .inr ⟨z.2, z.1⟩) fun z => .inl ⟨z.2, z.1⟩⟩
theorem bit_out {w h : Nat} {s : List Nat} (hl : s.length = h) (hs : okS w s) {x y : Int} (hn : ¬ inF w h (x, y)) : bitS s x y = false := by
  cases hb : bitS s x y with
  | false => rfl
  | true => exact absurd (bitS_in hl hs hb) hn
theorem turB_bit (w h : Nat) (s : List Nat) (x y : Int) : bitS (turB w h s) x y = (decide (inF h w (x, y)) && bitS s y ((h : Int) - 1 - x)) := by
  unfold turB
  rw [sheetB_bit]
  congr 1
theorem mirB_bit (w h : Nat) (s : List Nat) (x y : Int) : bitS (mirB w h s) x y = (decide (inF w h (x, y)) && bitS s ((w : Int) - 1 - x) y) := by
  unfold mirB
  rw [sheetB_bit]
  congr 1
theorem tur_4 {w h : Nat} {s : List Nat} (hl : s.length = h) (hs : okS w s) : turB h w (turB w h (turB h w (turB w h s))) = s := by
  refine (sh_eq (w := w) (h := h) hl hs (turB_len _ _ _) (turB_ok _ _ _) fun x y => ?_).symm
  simp only [turB_bit, Bool.and_eq_true, decide_eq_true_eq]
  constructor
  · intro hb
    have hin := bitS_in hl hs hb
    unfold inF at hin ⊢
    simp only at hin ⊢
    refine ⟨by omega, by omega, by omega, by omega, ?_⟩
    rw [show (w : Int) - 1 - ((w : Int) - 1 - x) = x by omega, show (h : Int) - 1 - ((h : Int) - 1 - y) = y by omega]
    exact hb
  · rintro ⟨h1, h2, h3, h4, h5⟩
    rw [show (w : Int) - 1 - ((w : Int) - 1 - x) = x by omega, show (h : Int) - 1 - ((h : Int) - 1 - y) = y by omega] at h5
    exact h5
theorem mir_2 {w h : Nat} {s : List Nat} (hl : s.length = h) (hs : okS w s) : mirB w h (mirB w h s) = s := by
  refine (sh_eq (w := w) (h := h) hl hs (mirB_len _ _ _) (mirB_ok _ _ _) fun x y => ?_).symm
  simp only [mirB_bit, Bool.and_eq_true, decide_eq_true_eq]
  constructor
  · intro hb
    have hin := bitS_in hl hs hb
    unfold inF at hin ⊢
    simp only at hin ⊢
    refine ⟨by omega, by omega, ?_⟩
    rw [show (w : Int) - 1 - ((w : Int) - 1 - x) = x by omega]
    exact hb
  · rintro ⟨h1, h2, h3⟩
    rw [show (w : Int) - 1 - ((w : Int) - 1 - x) = x by omega] at h3
    exact h3
def sp_law_back : SpD := fun es μ q x => ∃ (w : Nat) (h : Nat) (s : List Nat), es = [.dat (szD w h), .dat (shD s)] ∧ (s.length = h ∧ okS w s ∧ (3 ≤ w ∧ w ≤ 10 ∧ 3 ≤ h ∧ h ≤ 10) ∧ q (.dat (.bool true)) μ)
theorem e_law_back {w : Nat} {h : Nat} {s : List Nat} {μ : Mu} {q : PQ} {x : XQ} : sp_law_back [.dat (szD w h), .dat (shD s)] μ q x = (s.length = h ∧ okS w s ∧ (3 ≤ w ∧ w ≤ 10 ∧ 3 ≤ h ∧ h ≤ 10) ∧ q (.dat (.bool true)) μ) := by
  refine propext ⟨fun hyp0 => ?_, fun hyp0 => ⟨w, h, s, rfl, hyp0⟩⟩
  obtain ⟨w', h', s', eq0, hyp0⟩ := hyp0
  simp only [List.cons.injEq, Exn.mk.injEq, EV.dat.injEq, EV.loc.injEq, EV.new.injEq, EV.ro.injEq, EV.exc.injEq, PyData.int.injEq, PyData.str.injEq, PyData.bool.injEq, PyData.list.injEq, PyData.tuple.injEq, and_true, true_and, and_assoc, map_int_inj, szD_inj, shD_inj] at eq0
  obtain ⟨rfl, rfl, rfl⟩ := eq0
  exact hyp0
theorem ok_law_back (T : Top K mg) : DefAt P w K mg base "_law_back" 5 ["_law_size_here", "_law_sheet_here"] [] [] sp_law_back := by
  refine def_ok sp_law_back T.F_law_back sc_law_back T.m_law_back T.b_law_back (fun cdv A outer s H E hr tk pw => (dss_cons (ds_par (i := 2) (j := 3) rfl sc_law_back.nd rfl rfl (by decide) rfl rfl (da_cons (de_stl (dv 1)) (da_cons (de_stl (dv 0)) da_nil)) (by rfl))
    (dss_cons (ds_forF [4] pw rfl (di_range1 (by rfl) T.n_range (da_cons de_int da_nil)) (dg_name (i := 4) sc_law_back.nd rfl (by first | exact Or.inl rfl | exact Or.inr rfl)) (dss_one (ds_par (i := 2) (j := 3) rfl sc_law_back.nd rfl rfl (by decide) rfl rfl (da_cons (de_stl (de_call (ok_turned_sheet T) hr (by decide) (by rfl) tk (fun _ _ => .nil) (da_cons (de_stl (dv 3)) (da_cons (de_stl (dv 2)) da_nil)))) (da_cons (de_stl (de_tup (da_cons (de_frz (de_ix ix_seq os_ix (dv 3) de_int (fun _ _ => rfl))) (da_cons (de_frz (de_ix ix_seq os_ix (dv 3) de_int (fun _ _ => rfl))) da_nil)))) da_nil)) (by rfl))))
    (dss_one (ds_ret (de_and (de_cmp (opA_eq hr.units) os_eq (dv 2) (dv 1) (nomark _)) (de_one (de_cmp (opA_eq hr.units) os_eq (de_call (ok_mirrored T) hr (by decide) (by rfl) tk (fun _ _ => .nil) (da_cons (de_stl (dv 0)) (da_cons (de_stl (de_call (ok_mirrored T) hr (by decide) (by rfl) tk (fun _ _ => .nil) (da_cons (de_stl (dv 0)) (da_cons (de_stl (dv 1)) da_nil)))) da_nil))) (dv 1) (nomark _))))))))) ?_
  rintro es μ q x - ⟨w, h, s, rfl, hl, hs, ⟨w3, w10, h3, h10⟩, k⟩
  walk_at "run"
  refine for_stR (fun i (p : Nat × Nat × List Nat) => p = turN w h s i) (fun η p => (η.set 2 (some (.dat (shD p.2.2)))).set 3 (some (.dat (szD p.1 p.2.1)))) (fun μ _ => μ) (w, h, s) rfl rfl rfl (fun _ => trivial) ?_ ?_
  · rintro i p J hi rfl hJ
    obtain ⟨t1, t2, t3⟩ := turN_ok hl hs i
    have go := hJ _ rfl
    have e1 : (turN w h s (i + 1)).2.2 = turB (turN w h s i).1 (turN w h s i).2.1 (turN w h s i).2.2 := rfl
    have e2 : (turN w h s (i + 1)).1 = (turN w h s i).2.1 := rfl
    have e3 : (turN w h s (i + 1)).2.1 = (turN w h s i).1 := rfl
    rw [e1, e2, e3] at go
    generalize turN w h s i = p at t1 t2 t3 go ⊢
    obtain ⟨a, b, t⟩ := p
    simp only at t1 t2 t3 go
    have b1 : 3 ≤ a ∧ a ≤ 10 ∧ 3 ≤ b ∧ b ≤ 10 := by omega
    obtain ⟨b1, b2, b3, b4⟩ := b1
    walk_at "run"
    refine ⟨t1, t2, ?_⟩
    walk_at "run"
    simpa [fg_cons, fg_nil, szD] using go
  · rintro p rfl
    have e : turN w h s 4 = (w, h, s) := Prod.ext rfl (Prod.ext rfl (tur_4 hl hs))
    rw [e]
    walk_at "run"
    refine ⟨hl, hs, mirB_len _ _ _, mirB_ok _ _ _, ?_⟩
    rw [mir_2 hl hs, decide_eq_true rfl]
    exact k
local macro_rules | `(tactic| walk_at "dx") => `(tactic| simp (disch := first | assumption | omega) only [↓e_joined, ↓e_moved, ↓e_common, ↓e_without, ↓ix_sz, ↓gTp_pt, ↓enumK_sh, ↓e_places, ↓e_count, ↓e_nothing, ↓e_has, ↓e_spread, ↓e_is_number, ↓isNum_i, ↓isNum_b, ↓isNum_n, ↓isNum_s, ↓isNum_l, ↓isNum_t, ↓e_is_place, ↓e_sheet_of, ↓e_sheet_of1, sh_eqv, sh_nod, sh_dmin, ↓e_flood, ↓e_grown, ↓e_turned_sheet, ↓e_mirrored, ↓e_law_floor, ↓e_law_sheet, ↓seqDK_pt, ↓gTp_pt, ↓kvT_pt, ↓ix_sz, ↓e_law_same, ↓e_law_size, ↓e_law_cells, ↓memA_dct, hasKs_ptE, ↓e_law_come_to, ↓e_law_near, ↓ex_dctD, ↓plcs_d, ↓plcs_l, ↓listA_pt, ↓lnD_pt, ↓srt_pt, ↓gTp_pr, okS_shC, len_shC, okS_10, noDs_pt, ↓e_law_all_in, ↓litK_pt, ↓memA_ptD, ↓e_law_two_done, ↓e_law_done, ↓e_law_back, ↓dVar_0, ↓dVar_1, ↓dVar_2, ↓dVar_3, ↓dVar_4, ↓dVar_5, ↓dVar_6, ↓dVar_7, ↓dVar_8, ↓dVar_9, ↓dVar_10, ↓dVar_11, ↓dVar_12, ↓dVar_13, ↓dVar_14, ↓dVar_15, ↓old_dat, ↓old_loc, ↓old_raw, ↓old_exc, ↓old_ro, ↓wDs_nil, ↓wDs_cons, ↓x_dC, ↓x_dRaw, ↓x_dFrz, ↓x_dCell, ↓x_dStl, ↓x_aNil, ↓x_aCons, ↓x_dLst, ↓x_dTup, ↓x_tVal, ↓x_tAndD, ↓x_tOrD, ↓x_tNotD, ↓x_tYesD, ↓x_dAndV, ↓x_dOrV, ↓x_dNotV, ↓x_dIfE, ↓x_dOp, ↓x_dUn, ↓x_dCB, ↓x_dChain, ↓intK_i, ↓x_oNo, ↓x_oSome, ↓x_dSl, ↓x_gNm, ↓x_gNl0, ↓x_gCn, ↓x_gTp, ↓x_gSb, ↓x_dCall, ↓seqK_tup, ↓seqK_lst, ↓seqK_new, ↓seqK_ro, ↓seqK_str, ↓rng1_i, ↓rng2_i, ↓x_iSeq, ↓x_iRange1, ↓x_iRange2, ↓x_dBM, ↓x_dBM0, ↓x_isStr, ↓bools_k, ↓ints_k, ↓strs_k, ↓lstK_lst, ↓lstK_new, ↓sqK_lst, ↓sqK_new, ↓sqK_tup, ↓sqK_ro, ↓x_oAll, ↓x_oSum, ↓x_oJoin, ↓x_oList, ↓x_oTuple, ↓x_oIsN, ↓x_oNotN, ↓x_lc, ↓int_i, ↓int_b, ↓mem_l, ↓mem_t, ↓mem_n, ↓x_srtS, ↓mul_ni, ↓mul_li, ↓wD_dat, ↓wD_new, ↓wB_b, ↓nN_dat, ↓nN_loc, ↓nN_raw, ↓nN_ro, ↓nN_exc, ↓aO_nil, ↓aO_cons, ↓stl_dat, ↓stl_new, ↓stl_loc, ↓stl_raw, ↓stl_ro, ↓stl_exc, ↓cel_dat, ↓cel_new, ↓cel_loc, ↓cel_raw, ↓cel_ro, ↓add_int, ↓add_strD, ↓add_tup, ↓add_ll, ↓add_ln, ↓add_nl, ↓add_nn, ↓oI_ii, ↓oI0_ii, ↓neg_i, ↓inv_i, ↓mul_int, ↓eq_dd, ↓ne_dd, ↓eq_nd, ↓ne_nd, ↓eq_dn, ↓ne_dn, ↓eq_nn, ↓ne_nn, ↓sign_ss, ↓ix_s, ↓ix_tupD, ↓ix_lstD, ↓ix_new, ↓ix_ro, ↓sl_s, ↓sl_tupD, ↓sl_lstD, ↓sl_new, ↓sl_ro, ↓len_str, ↓len_tup, ↓len_lst, ↓len_new, ↓len_ro, ↓max_ii, ↓min_ii, ↓isi_int, ↓isi_bool, ↓isi_str, ↓isi_list, ↓isi_tuple, ↓isi_dict, ↓exitQ_dat, ↓exitQ_new, ↓exitQ_raw, ↓cl_nil, ↓cl_none, ↓cl_dat, ↓cl_ro, ↓cl_raw, ↓cl_odat, ↓dVar_16, ↓dVar_17, ↓dVar_18, ↓dVar_19, ↓dVar_20, ↓dVar_21, ↓dVar_22, ↓dVar_23, ↓dVar_24, ↓dVar_25, ↓dVar_26, ↓dVar_27, ↓dVar_28, ↓dVar_29, ↓dVar_30, ↓dVar_31, ↓dVar_32, ↓dVar_33, ↓dVar_34, ↓dVar_35, ↓noD_n, ↓noD_b, ↓noD_i, ↓noD_s, ↓noD_l, ↓noD_t, ↓noDs_nil, ↓noDs_cons, ↓noDs_app, ↓noDs_i, ↓noDs_s, ↓noDs_b, ↓exC_k, ↓isIntD_none, ↓isIntD_bool, ↓isIntD_int, ↓isIntD_str, ↓isIntD_list, ↓isIntD_tuple, ↓isIntD_dict, ↓isBoolD_none, ↓isBoolD_bool, ↓isBoolD_int, ↓isBoolD_str, ↓isBoolD_list, ↓isBoolD_tuple, ↓isBoolD_dict, ↓isStrD_none, ↓isStrD_bool, ↓isStrD_int, ↓isStrD_str, ↓isStrD_list, ↓isStrD_tuple, ↓isStrD_dict, ↓isListD_none, ↓isListD_bool, ↓isListD_int, ↓isListD_str, ↓isListD_list, ↓isListD_tuple, ↓isListD_dict, ↓isTupD_none, ↓isTupD_bool, ↓isTupD_int, ↓isTupD_str, ↓isTupD_list, ↓isTupD_tuple, ↓isTupD_dict, ↓isDictD_none, ↓isDictD_bool, ↓isDictD_int, ↓isDictD_str, ↓isDictD_list, ↓isDictD_tuple, ↓isDictD_dict, ↓neg_i2, ↓inv_i2, ↓x_iSeqD, ↓seqDK_d, ↓seqDK_t, ↓seqDK_l, ↓seqDK_s, ↓seqDK_n, ↓seqDK_r, ↓seqDK_c, ↓x_iZipD, ↓zipK_t, ↓zipK_l, ↓x_dNewD, ↓lcD_d, ↓keysK_nil, ↓keysK_i, ↓keysK_s, ↓keysP_nil, ↓keysP_i, ↓keysP_s, ↓c_setD, ↓memA_dict, ↓memA_l, ↓memA_t, ↓memA_n, ↓c_memA, ↓memC_d, ↓memC_l, ↓memC_f, ↓cell_nd, ↓cell_nk, ↓stl_nd, ↓stl_nk, ↓ex_nd, ↓ex_nk, ↓x_dCellA, ↓cellA_new, ↓nextA_eq, ↓stateA_eq, ↓cellA_eq, ↓fg_nil, ↓fg_cons, ↓lcR_l, ↓lcR_f, ↓lcK_l, ↓c_len, ↓c_ix, ↓c_ixC, ↓c_app, ↓c_set, ↓c_isL, ↓c_lstK, ↓c_sqK, ↓c_mem, ↓c_addn, ↓c_addl, ↓c_sl, ↓c_seqK, ↓seqC_l, ↓seqC_f, ↓c_wD, ↓wdC_l, ↓wdC_f, ↓exC_l, ↓exC_f, ↓exC_d, ↓cellK_new, ↓cellK_dat, ↓cellK_loc, ↓get_a0, ↓get_a1, ↓get_a2, ↓get_a3, ↓set_a0, ↓set_a1, ↓set_a2, ↓set_a3, ↓lnD_str, ↓lnD_tup, ↓lnD_lst, ↓lnD_new, ↓lnD_ro, ↓lnD_d, ↓c_lenD, ↓lnC_d, ↓lnC_k, ↓lnC_l, ↓lnC_f, ↓eq_cN, ↓eq_cD, ↓eq_Nc, ↓eq_Dc, ↓ne_cN, ↓ne_cD, ↓ne_Nc, ↓ne_Dc, ↓x_iEnumD, ↓enumK_t, ↓enumK_l, ↓enumK_r, ↓enumK_tk, ↓enumK_lk, ↓srt_d, ↓srt_l, ↓srt_n, ↓c_srt, ↓srtC_l, ↓srtC_f, ↓srtC_d, ↓lsA_t, ↓lsA_l, ↓lsA_n, ↓lsA_r, ↓c_lsA, ↓c_isi_list, ↓c_isi_dict, ↓c_isi_tuple, ↓isiB_l, ↓isiB_f, ↓isiB_d, ↓isiB_k, ↓isi_n_list, ↓isi_n_tuple, ↓x_dListIt, ↓litK_d, ↓augK_s, ↓iadd_ii, ↓c_iaddn, ↓c_iaddl, ↓abs_i, ↓x_dRevL, ↓revK_n, ↓revK_l, ↓cnt_n, ↓cnt_l, ↓idx_l, ↓isLst_l, ↓isLst_n, ↓c_pop, ↓c_popD, ↓c_isD, ↓lcD2_d, ↓lcD2_k, ↓tk_0, ↓tk_a0, ↓tk_a1, ↓tk_a2, ↓tk_a3, ↓tk_a4, dVar_0, dVar_1, dVar_2, dVar_3, dVar_4, dVar_5, dVar_6, dVar_7, dVar_8, dVar_9, dVar_10, dVar_11, dVar_12, dVar_13, dVar_14, dVar_15, old_dat, old_loc, old_raw, old_exc, old_ro, wDs_nil, wDs_cons, x_dC, x_dRaw, x_dFrz, x_dCell, x_dStl, x_aNil, x_aCons, x_dLst, x_dTup, x_tVal, x_tAndD, x_tOrD, x_tNotD, x_tYesD, x_dAndV, x_dOrV, x_dNotV, x_dIfE, x_dOp, x_dUn, x_dCB, x_dChain, intK_i, x_oNo, x_oSome, x_dSl, x_gNm, x_gNl0, x_gCn, x_gTp, x_gSb, x_dCall, seqK_tup, seqK_lst, seqK_new, seqK_ro, seqK_str, rng1_i, rng2_i, x_iSeq, x_iRange1, x_iRange2, x_dBM, x_dBM0, x_isStr, bools_k, ints_k, strs_k, lstK_lst, lstK_new, sqK_lst, sqK_new, sqK_tup, sqK_ro, x_oAll, x_oSum, x_oJoin, x_oList, x_oTuple, x_oIsN, x_oNotN, x_lc, int_i, int_b, mem_l, mem_t, mem_n, x_srtS, mul_ni, mul_li, wD_dat, wD_new, wB_b, nN_dat, nN_loc, nN_raw, nN_ro, nN_exc, aO_nil, aO_cons, stl_dat, stl_new, stl_loc, stl_raw, stl_ro, stl_exc, cel_dat, cel_new, cel_loc, cel_raw, cel_ro, add_int, add_strD, add_tup, add_ll, add_ln, add_nl, add_nn, oI_ii, oI0_ii, neg_i, inv_i, mul_int, eq_dd, ne_dd, eq_nd, ne_nd, eq_dn, ne_dn, eq_nn, ne_nn, sign_ss, ix_s, ix_tupD, ix_lstD, ix_new, ix_ro, sl_s, sl_tupD, sl_lstD, sl_new, sl_ro, len_str, len_tup, len_lst, len_new, len_ro, max_ii, min_ii, isi_int, isi_bool, isi_str, isi_list, isi_tuple, isi_dict, exitQ_dat, exitQ_new, exitQ_raw, cl_nil, cl_none, cl_dat, cl_ro, cl_raw, cl_odat, dVar_16, dVar_17, dVar_18, dVar_19, dVar_20, dVar_21, dVar_22, dVar_23, dVar_24, dVar_25, dVar_26, dVar_27, dVar_28, dVar_29, dVar_30, dVar_31, dVar_32, dVar_33, dVar_34, dVar_35, noD_n, noD_b, noD_i, noD_s, noD_l, noD_t, noDs_nil, noDs_cons, noDs_app, noDs_i, noDs_s, noDs_b, exC_k, isIntD_none, isIntD_bool, isIntD_int, isIntD_str, isIntD_list, isIntD_tuple, isIntD_dict, isBoolD_none, isBoolD_bool, isBoolD_int, isBoolD_str, isBoolD_list, isBoolD_tuple, isBoolD_dict, isStrD_none, isStrD_bool, isStrD_int, isStrD_str, isStrD_list, isStrD_tuple, isStrD_dict, isListD_none, isListD_bool, isListD_int, isListD_str, isListD_list, isListD_tuple, isListD_dict, isTupD_none, isTupD_bool, isTupD_int, isTupD_str, isTupD_list, isTupD_tuple, isTupD_dict, isDictD_none, isDictD_bool, isDictD_int, isDictD_str, isDictD_list, isDictD_tuple, isDictD_dict, neg_i2, inv_i2, x_iSeqD, seqDK_d, seqDK_t, seqDK_l, seqDK_s, seqDK_n, seqDK_r, seqDK_c, x_iZipD, zipK_t, zipK_l, x_dNewD, lcD_d, keysK_nil, keysK_i, keysK_s, keysP_nil, keysP_i, keysP_s, c_setD, memA_dict, memA_l, memA_t, memA_n, c_memA, memC_d, memC_l, memC_f, cell_nd, cell_nk, stl_nd, stl_nk, ex_nd, ex_nk, x_dCellA, cellA_new, nextA_eq, stateA_eq, cellA_eq, fg_nil, fg_cons, lcR_l, lcR_f, lcK_l, c_len, c_ix, c_ixC, c_app, c_set, c_isL, c_lstK, c_sqK, c_mem, c_addn, c_addl, c_sl, c_seqK, seqC_l, seqC_f, c_wD, wdC_l, wdC_f, exC_l, exC_f, exC_d, cellK_new, cellK_dat, cellK_loc, get_a0, get_a1, get_a2, get_a3, set_a0, set_a1, set_a2, set_a3, lnD_str, lnD_tup, lnD_lst, lnD_new, lnD_ro, lnD_d, c_lenD, lnC_d, lnC_k, lnC_l, lnC_f, eq_cN, eq_cD, eq_Nc, eq_Dc, ne_cN, ne_cD, ne_Nc, ne_Dc, x_iEnumD, enumK_t, enumK_l, enumK_r, enumK_tk, enumK_lk, srt_d, srt_l, srt_n, c_srt, srtC_l, srtC_f, srtC_d, lsA_t, lsA_l, lsA_n, lsA_r, c_lsA, c_isi_list, c_isi_dict, c_isi_tuple, isiB_l, isiB_f, isiB_d, isiB_k, isi_n_list, isi_n_tuple, x_dListIt, litK_d, augK_s, iadd_ii, c_iaddn, c_iaddl, abs_i, x_dRevL, revK_n, revK_l, cnt_n, cnt_l, idx_l, isLst_l, isLst_n, c_pop, c_popD, c_isD, lcD2_d, lcD2_k, tk_0, tk_a0, tk_a1, tk_a2, tk_a3, tk_a4, isR_h, isR_app, isR_last, exitQ_ge, exitQ_lt, cl_loc, nle_h, nlt_h, ile_h, ilt_h, cmul_l, cmul_r, cdiv_h, cpow_h, csh_h, csh_0, oLt, oLe, oGt, oGe, oSub, oMod, oDiv, oPow, oShl, oShr, oAnd, oOr, oXor, isRaw, isNon, startD, List.length_map, decide_eq_true_eq, List.map_cons, List.map_nil, List.length_cons, List.length_nil, List.cons_append, List.nil_append, List.append_nil, List.replicate, List.getElem?_cons_zero, List.getElem?_cons_succ, List.set_cons_zero, List.set_cons_succ, List.take_length, true_and, and_true, eqv_int, eqv_bool, eqv_str, dep_int, dep_bool, dep_str, dep_none, min0l, min0r, Option.map_some, Option.map_none, if_true, if_false, Bool.and_true, Bool.true_and, Bool.false_eq_true, Bool.not_true, Bool.not_false, reduceIte, wipeD, List.append_assoc, at_nn, Option.some.injEq, exists_eq_left, exists_eq_left', Int.reduceToNat, Int.reduceLE, Int.reduceLT, List.length_set, Nat.reduceAdd, Nat.reduceLeDiff, Nat.reduceSub, dat_dat, dat_new, lst_lst, lst_new, seq_tup, seq_lst, seq_new, seq_ro, List.length_append, Nat.zero_add, eqv_tup, eqv_lst, eqvA_nn, eqvA_cc, eqvA_nc, eqvA_cn, dep_tup, dep_lst, depA_nil, depA_cons, Nat.max_zero, Nat.zero_max, Nat.lt_add_one, forall_const, oShlA, rng_c, Int.toNat_natCast, List.flatten_nil, decide_true, decide_false])
def cutA {α : Type} (xs : List α) (lo hi : Option Int) : List α := (xs.drop (HT.sIx xs.length 0 lo)).take (HT.sIx xs.length xs.length hi - HT.sIx xs.length 0 lo)
theorem cut_map {α : Type} (en : α → PyData) (as : List α) (lo hi : Option Int) : cutD (as.map en) lo hi = (cutA as lo hi).map en := by
  unfold cutD cutA
  rw [List.length_map, ← List.map_drop, ← List.map_take]
theorem cut_len {α : Type} (xs : List α) (lo hi : Option Int) : (cutA xs lo hi).length ≤ xs.length := by
  unfold cutA
  rw [List.length_take, List.length_drop]
  omega
theorem gTp3 {t : TDGs} {a b c : PyData} {η : DEnv} {μ : Mu} {q : DEnv → Mu → Prop} : gTp 3 t (.dat (.tuple [a, b, c])) η μ q = t [a, b, c] η μ q := by
  rw [x_gTp]
  simp
def heldD (t : List Nat) : PyData := .tuple [shD t, shD t]
local macro_rules | `(tactic| walk_at "dx") => `(tactic| simp (disch := first | assumption | omega) only [↓e_joined, ↓e_moved, ↓e_common, ↓e_without, ↓ix_sz, ↓gTp_pt, ↓enumK_sh, ↓e_places, ↓e_count, ↓e_nothing, ↓e_has, ↓e_spread, ↓e_is_number, ↓isNum_i, ↓isNum_b, ↓isNum_n, ↓isNum_s, ↓isNum_l, ↓isNum_t, ↓e_is_place, ↓e_sheet_of, ↓e_sheet_of1, sh_eqv, sh_nod, sh_dmin, ↓e_flood, ↓e_grown, ↓e_turned_sheet, ↓e_mirrored, ↓e_law_floor, ↓e_law_sheet, ↓seqDK_pt, ↓gTp_pt, ↓kvT_pt, ↓ix_sz, ↓e_law_same, ↓e_law_size, ↓e_law_cells, ↓memA_dct, hasKs_ptE, ↓e_law_come_to, ↓e_law_near, ↓ex_dctD, ↓plcs_d, ↓plcs_l, ↓listA_pt, ↓lnD_pt, ↓srt_pt, ↓gTp_pr, okS_shC, len_shC, okS_10, noDs_pt, ↓e_law_all_in, ↓litK_pt, ↓memA_ptD, ↓e_law_two_done, ↓e_law_done, ↓e_law_back, ↓gTp3, eqvA_pt, depA_pt, sh_eqv, sh_nod, sh_dmin, ↓dVar_0, ↓dVar_1, ↓dVar_2, ↓dVar_3, ↓dVar_4, ↓dVar_5, ↓dVar_6, ↓dVar_7, ↓dVar_8, ↓dVar_9, ↓dVar_10, ↓dVar_11, ↓dVar_12, ↓dVar_13, ↓dVar_14, ↓dVar_15, ↓old_dat, ↓old_loc, ↓old_raw, ↓old_exc, ↓old_ro, ↓wDs_nil, ↓wDs_cons, ↓x_dC, ↓x_dRaw, ↓x_dFrz, ↓x_dCell, ↓x_dStl, ↓x_aNil, ↓x_aCons, ↓x_dLst, ↓x_dTup, ↓x_tVal, ↓x_tAndD, ↓x_tOrD, ↓x_tNotD, ↓x_tYesD, ↓x_dAndV, ↓x_dOrV, ↓x_dNotV, ↓x_dIfE, ↓x_dOp, ↓x_dUn, ↓x_dCB, ↓x_dChain, ↓intK_i, ↓x_oNo, ↓x_oSome, ↓x_dSl, ↓x_gNm, ↓x_gNl0, ↓x_gCn, ↓x_gTp, ↓x_gSb, ↓x_dCall, ↓seqK_tup, ↓seqK_lst, ↓seqK_new, ↓seqK_ro, ↓seqK_str, ↓rng1_i, ↓rng2_i, ↓x_iSeq, ↓x_iRange1, ↓x_iRange2, ↓x_dBM, ↓x_dBM0, ↓x_isStr, ↓bools_k, ↓ints_k, ↓strs_k, ↓lstK_lst, ↓lstK_new, ↓sqK_lst, ↓sqK_new, ↓sqK_tup, ↓sqK_ro, ↓x_oAll, ↓x_oSum, ↓x_oJoin, ↓x_oList, ↓x_oTuple, ↓x_oIsN, ↓x_oNotN, ↓x_lc, ↓int_i, ↓int_b, ↓mem_l, ↓mem_t, ↓mem_n, ↓x_srtS, ↓mul_ni, ↓mul_li, ↓wD_dat, ↓wD_new, ↓wB_b, ↓nN_dat, ↓nN_loc, ↓nN_raw, ↓nN_ro, ↓nN_exc, ↓aO_nil, ↓aO_cons, ↓stl_dat, ↓stl_new, ↓stl_loc, ↓stl_raw, ↓stl_ro, ↓stl_exc, ↓cel_dat, ↓cel_new, ↓cel_loc, ↓cel_raw, ↓cel_ro, ↓add_int, ↓add_strD, ↓add_tup, ↓add_ll, ↓add_ln, ↓add_nl, ↓add_nn, ↓oI_ii, ↓oI0_ii, ↓neg_i, ↓inv_i, ↓mul_int, ↓eq_dd, ↓ne_dd, ↓eq_nd, ↓ne_nd, ↓eq_dn, ↓ne_dn, ↓eq_nn, ↓ne_nn, ↓sign_ss, ↓ix_s, ↓ix_tupD, ↓ix_lstD, ↓ix_new, ↓ix_ro, ↓sl_s, ↓sl_tupD, ↓sl_lstD, ↓sl_new, ↓sl_ro, ↓len_str, ↓len_tup, ↓len_lst, ↓len_new, ↓len_ro, ↓max_ii, ↓min_ii, ↓isi_int, ↓isi_bool, ↓isi_str, ↓isi_list, ↓isi_tuple, ↓isi_dict, ↓exitQ_dat, ↓exitQ_new, ↓exitQ_raw, ↓cl_nil, ↓cl_none, ↓cl_dat, ↓cl_ro, ↓cl_raw, ↓cl_odat, ↓dVar_16, ↓dVar_17, ↓dVar_18, ↓dVar_19, ↓dVar_20, ↓dVar_21, ↓dVar_22, ↓dVar_23, ↓dVar_24, ↓dVar_25, ↓dVar_26, ↓dVar_27, ↓dVar_28, ↓dVar_29, ↓dVar_30, ↓dVar_31, ↓dVar_32, ↓dVar_33, ↓dVar_34, ↓dVar_35, ↓noD_n, ↓noD_b, ↓noD_i, ↓noD_s, ↓noD_l, ↓noD_t, ↓noDs_nil, ↓noDs_cons, ↓noDs_app, ↓noDs_i, ↓noDs_s, ↓noDs_b, ↓exC_k, ↓isIntD_none, ↓isIntD_bool, ↓isIntD_int, ↓isIntD_str, ↓isIntD_list, ↓isIntD_tuple, ↓isIntD_dict, ↓isBoolD_none, ↓isBoolD_bool, ↓isBoolD_int, ↓isBoolD_str, ↓isBoolD_list, ↓isBoolD_tuple, ↓isBoolD_dict, ↓isStrD_none, ↓isStrD_bool, ↓isStrD_int, ↓isStrD_str, ↓isStrD_list, ↓isStrD_tuple, ↓isStrD_dict, ↓isListD_none, ↓isListD_bool, ↓isListD_int, ↓isListD_str, ↓isListD_list, ↓isListD_tuple, ↓isListD_dict, ↓isTupD_none, ↓isTupD_bool, ↓isTupD_int, ↓isTupD_str, ↓isTupD_list, ↓isTupD_tuple, ↓isTupD_dict, ↓isDictD_none, ↓isDictD_bool, ↓isDictD_int, ↓isDictD_str, ↓isDictD_list, ↓isDictD_tuple, ↓isDictD_dict, ↓neg_i2, ↓inv_i2, ↓x_iSeqD, ↓seqDK_d, ↓seqDK_t, ↓seqDK_l, ↓seqDK_s, ↓seqDK_n, ↓seqDK_r, ↓seqDK_c, ↓x_iZipD, ↓zipK_t, ↓zipK_l, ↓x_dNewD, ↓lcD_d, ↓keysK_nil, ↓keysK_i, ↓keysK_s, ↓keysP_nil, ↓keysP_i, ↓keysP_s, ↓c_setD, ↓memA_dict, ↓memA_l, ↓memA_t, ↓memA_n, ↓c_memA, ↓memC_d, ↓memC_l, ↓memC_f, ↓cell_nd, ↓cell_nk, ↓stl_nd, ↓stl_nk, ↓ex_nd, ↓ex_nk, ↓x_dCellA, ↓cellA_new, ↓nextA_eq, ↓stateA_eq, ↓cellA_eq, ↓fg_nil, ↓fg_cons, ↓lcR_l, ↓lcR_f, ↓lcK_l, ↓c_len, ↓c_ix, ↓c_ixC, ↓c_app, ↓c_set, ↓c_isL, ↓c_lstK, ↓c_sqK, ↓c_mem, ↓c_addn, ↓c_addl, ↓c_sl, ↓c_seqK, ↓seqC_l, ↓seqC_f, ↓c_wD, ↓wdC_l, ↓wdC_f, ↓exC_l, ↓exC_f, ↓exC_d, ↓cellK_new, ↓cellK_dat, ↓cellK_loc, ↓get_a0, ↓get_a1, ↓get_a2, ↓get_a3, ↓set_a0, ↓set_a1, ↓set_a2, ↓set_a3, ↓lnD_str, ↓lnD_tup, ↓lnD_lst, ↓lnD_new, ↓lnD_ro, ↓lnD_d, ↓c_lenD, ↓lnC_d, ↓lnC_k, ↓lnC_l, ↓lnC_f, ↓eq_cN, ↓eq_cD, ↓eq_Nc, ↓eq_Dc, ↓ne_cN, ↓ne_cD, ↓ne_Nc, ↓ne_Dc, ↓x_iEnumD, ↓enumK_t, ↓enumK_l, ↓enumK_r, ↓enumK_tk, ↓enumK_lk, ↓srt_d, ↓srt_l, ↓srt_n, ↓c_srt, ↓srtC_l, ↓srtC_f, ↓srtC_d, ↓lsA_t, ↓lsA_l, ↓lsA_n, ↓lsA_r, ↓c_lsA, ↓c_isi_list, ↓c_isi_dict, ↓c_isi_tuple, ↓isiB_l, ↓isiB_f, ↓isiB_d, ↓isiB_k, ↓isi_n_list, ↓isi_n_tuple, ↓x_dListIt, ↓litK_d, ↓augK_s, ↓iadd_ii, ↓c_iaddn, ↓c_iaddl, ↓abs_i, ↓x_dRevL, ↓revK_n, ↓revK_l, ↓cnt_n, ↓cnt_l, ↓idx_l, ↓isLst_l, ↓isLst_n, ↓c_pop, ↓c_popD, ↓c_isD, ↓lcD2_d, ↓lcD2_k, ↓tk_0, ↓tk_a0, ↓tk_a1, ↓tk_a2, ↓tk_a3, ↓tk_a4, dVar_0, dVar_1, dVar_2, dVar_3, dVar_4, dVar_5, dVar_6, dVar_7, dVar_8, dVar_9, dVar_10, dVar_11, dVar_12, dVar_13, dVar_14, dVar_15, old_dat, old_loc, old_raw, old_exc, old_ro, wDs_nil, wDs_cons, x_dC, x_dRaw, x_dFrz, x_dCell, x_dStl, x_aNil, x_aCons, x_dLst, x_dTup, x_tVal, x_tAndD, x_tOrD, x_tNotD, x_tYesD, x_dAndV, x_dOrV, x_dNotV, x_dIfE, x_dOp, x_dUn, x_dCB, x_dChain, intK_i, x_oNo, x_oSome, x_dSl, x_gNm, x_gNl0, x_gCn, x_gTp, x_gSb, x_dCall, seqK_tup, seqK_lst, seqK_new, seqK_ro, seqK_str, rng1_i, rng2_i, x_iSeq, x_iRange1, x_iRange2, x_dBM, x_dBM0, x_isStr, bools_k, ints_k, strs_k, lstK_lst, lstK_new, sqK_lst, sqK_new, sqK_tup, sqK_ro, x_oAll, x_oSum, x_oJoin, x_oList, x_oTuple, x_oIsN, x_oNotN, x_lc, int_i, int_b, mem_l, mem_t, mem_n, x_srtS, mul_ni, mul_li, wD_dat, wD_new, wB_b, nN_dat, nN_loc, nN_raw, nN_ro, nN_exc, aO_nil, aO_cons, stl_dat, stl_new, stl_loc, stl_raw, stl_ro, stl_exc, cel_dat, cel_new, cel_loc, cel_raw, cel_ro, add_int, add_strD, add_tup, add_ll, add_ln, add_nl, add_nn, oI_ii, oI0_ii, neg_i, inv_i, mul_int, eq_dd, ne_dd, eq_nd, ne_nd, eq_dn, ne_dn, eq_nn, ne_nn, sign_ss, ix_s, ix_tupD, ix_lstD, ix_new, ix_ro, sl_s, sl_tupD, sl_lstD, sl_new, sl_ro, len_str, len_tup, len_lst, len_new, len_ro, max_ii, min_ii, isi_int, isi_bool, isi_str, isi_list, isi_tuple, isi_dict, exitQ_dat, exitQ_new, exitQ_raw, cl_nil, cl_none, cl_dat, cl_ro, cl_raw, cl_odat, dVar_16, dVar_17, dVar_18, dVar_19, dVar_20, dVar_21, dVar_22, dVar_23, dVar_24, dVar_25, dVar_26, dVar_27, dVar_28, dVar_29, dVar_30, dVar_31, dVar_32, dVar_33, dVar_34, dVar_35, noD_n, noD_b, noD_i, noD_s, noD_l, noD_t, noDs_nil, noDs_cons, noDs_app, noDs_i, noDs_s, noDs_b, exC_k, isIntD_none, isIntD_bool, isIntD_int, isIntD_str, isIntD_list, isIntD_tuple, isIntD_dict, isBoolD_none, isBoolD_bool, isBoolD_int, isBoolD_str, isBoolD_list, isBoolD_tuple, isBoolD_dict, isStrD_none, isStrD_bool, isStrD_int, isStrD_str, isStrD_list, isStrD_tuple, isStrD_dict, isListD_none, isListD_bool, isListD_int, isListD_str, isListD_list, isListD_tuple, isListD_dict, isTupD_none, isTupD_bool, isTupD_int, isTupD_str, isTupD_list, isTupD_tuple, isTupD_dict, isDictD_none, isDictD_bool, isDictD_int, isDictD_str, isDictD_list, isDictD_tuple, isDictD_dict, neg_i2, inv_i2, x_iSeqD, seqDK_d, seqDK_t, seqDK_l, seqDK_s, seqDK_n, seqDK_r, seqDK_c, x_iZipD, zipK_t, zipK_l, x_dNewD, lcD_d, keysK_nil, keysK_i, keysK_s, keysP_nil, keysP_i, keysP_s, c_setD, memA_dict, memA_l, memA_t, memA_n, c_memA, memC_d, memC_l, memC_f, cell_nd, cell_nk, stl_nd, stl_nk, ex_nd, ex_nk, x_dCellA, cellA_new, nextA_eq, stateA_eq, cellA_eq, fg_nil, fg_cons, lcR_l, lcR_f, lcK_l, c_len, c_ix, c_ixC, c_app, c_set, c_isL, c_lstK, c_sqK, c_mem, c_addn, c_addl, c_sl, c_seqK, seqC_l, seqC_f, c_wD, wdC_l, wdC_f, exC_l, exC_f, exC_d, cellK_new, cellK_dat, cellK_loc, get_a0, get_a1, get_a2, get_a3, set_a0, set_a1, set_a2, set_a3, lnD_str, lnD_tup, lnD_lst, lnD_new, lnD_ro, lnD_d, c_lenD, lnC_d, lnC_k, lnC_l, lnC_f, eq_cN, eq_cD, eq_Nc, eq_Dc, ne_cN, ne_cD, ne_Nc, ne_Dc, x_iEnumD, enumK_t, enumK_l, enumK_r, enumK_tk, enumK_lk, srt_d, srt_l, srt_n, c_srt, srtC_l, srtC_f, srtC_d, lsA_t, lsA_l, lsA_n, lsA_r, c_lsA, c_isi_list, c_isi_dict, c_isi_tuple, isiB_l, isiB_f, isiB_d, isiB_k, isi_n_list, isi_n_tuple, x_dListIt, litK_d, augK_s, iadd_ii, c_iaddn, c_iaddl, abs_i, x_dRevL, revK_n, revK_l, cnt_n, cnt_l, idx_l, isLst_l, isLst_n, c_pop, c_popD, c_isD, lcD2_d, lcD2_k, tk_0, tk_a0, tk_a1, tk_a2, tk_a3, tk_a4, isR_h, isR_app, isR_last, exitQ_ge, exitQ_lt, cl_loc, nle_h, nlt_h, ile_h, ilt_h, cmul_l, cmul_r, cdiv_h, cpow_h, csh_h, csh_0, oLt, oLe, oGt, oGe, oSub, oMod, oDiv, oPow, oShl, oShr, oAnd, oOr, oXor, isRaw, isNon, startD, List.length_map, decide_eq_true_eq, List.map_cons, List.map_nil, List.length_cons, List.length_nil, List.cons_append, List.nil_append, List.append_nil, List.replicate, List.getElem?_cons_zero, List.getElem?_cons_succ, List.set_cons_zero, List.set_cons_succ, List.take_length, true_and, and_true, eqv_int, eqv_bool, eqv_str, dep_int, dep_bool, dep_str, dep_none, min0l, min0r, Option.map_some, Option.map_none, if_true, if_false, Bool.and_true, Bool.true_and, Bool.false_eq_true, Bool.not_true, Bool.not_false, reduceIte, wipeD, List.append_assoc, at_nn, Option.some.injEq, exists_eq_left, exists_eq_left', Int.reduceToNat, Int.reduceLE, Int.reduceLT, List.length_set, Nat.reduceAdd, Nat.reduceLeDiff, Nat.reduceSub, dat_dat, dat_new, lst_lst, lst_new, seq_tup, seq_lst, seq_new, seq_ro, List.length_append, Nat.zero_add, eqv_tup, eqv_lst, eqvA_nn, eqvA_cc, eqvA_nc, eqvA_cn, dep_tup, dep_lst, depA_nil, depA_cons, Nat.max_zero, Nat.zero_max, Nat.lt_add_one, forall_const, oShlA, rng_c, Int.toNat_natCast, List.flatten_nil, decide_true, decide_false])
theorem ok_law (T : Top K mg) : FnOk P w K mg base (L2.CX P w) 6 T.a_law T.fd_law ["_law_script"] (spOf K 1 spLawD) := by
  refine fd_of T.F_law sc_law (fun cdv A outer s H E hr => ((fun tk pw => (dss_cons (ds_set (i := 1) sc_law.nd rfl (by first | exact Or.inl rfl | exact Or.inr rfl) (de_cellA rngP (de_call (ok_law_state T) hr (by decide) (by rfl) tk (fun _ _ => .nil) (da_cons (de_stl (de_call (ok_law_cell_at T) hr (by decide) (by rfl) tk (fun _ _ => .nil) (da_cons (de_stl (dv 0)) (da_cons de_int da_nil)))) (da_cons de_int da_nil)))))
    (dss_cons (ds_set (i := 2) sc_law.nd rfl (by first | exact Or.inl rfl | exact Or.inr rfl) (de_stl (de_call (ok_law_size T) hr (by decide) (by rfl) tk (fun _ _ => .nil) (da_cons (de_cell (dv 1)) da_nil))))
    (dss_cons (ds_set (i := 3) sc_law.nd rfl (by first | exact Or.inl rfl | exact Or.inr rfl) (de_stl (de_call (ok_law_cells T) hr (by decide) (by rfl) tk (fun _ _ => .nil) (da_cons (de_cell (dv 1)) (da_cons (de_stl (dv 2)) da_nil)))))
    (dss_cons (ds_set (i := 4) sc_law.nd rfl (by first | exact Or.inl rfl | exact Or.inr rfl) (de_stl (de_call (ok_law_sheet T) hr (by decide) (by rfl) tk (fun _ _ => .nil) (da_cons (de_stl (dv 2)) (da_cons (de_stl (dv 3)) da_nil)))))
    (dss_cons (ds_set (i := 5) sc_law.nd rfl (by first | exact Or.inl rfl | exact Or.inr rfl) (de_cell (de_lst da_nil)))
    (dss_cons (ds_forF [0, 1, 6, 7, 8, 9, 10, 11] pw rfl (di_enum1 (by rfl) T.n_enumerate (da_cons (de_stl (de_slice slA os_sl (dv 0) do_none (do_some de_int))) da_nil)) (dg_tup (n := 2) rfl (dgs_cons (dg_name (i := 6) sc_law.nd rfl (by first | exact Or.inl rfl | exact Or.inr rfl)) (dgs_cons (dg_name (i := 7) sc_law.nd rfl (by first | exact Or.inl rfl | exact Or.inr rfl)) dgs_nil))) (dss_cons (ds_set (i := 8) sc_law.nd rfl (by first | exact Or.inl rfl | exact Or.inr rfl) (de_cellA rngP (de_call (ok_law_state T) hr (by decide) (by rfl) tk (fun _ _ => .nil) (da_cons (de_stl (dv 7)) (da_cons (de_stl (dv 6)) da_nil)))))
    (dss_cons (ds_asg (de_frz (de_call (ok_law_done T) hr (by decide) (by rfl) tk (fun _ _ => .nil) (da_cons (de_stl (dv 2)) (da_cons (de_stl (dv 4)) (da_cons (de_stl (dv 3)) (da_cons (de_cell (dv 8)) da_nil)))))) (dg_tup (n := 3) rfl (dgs_cons (dg_name (i := 2) sc_law.nd rfl (by first | exact Or.inl rfl | exact Or.inr rfl)) (dgs_cons (dg_name (i := 4) sc_law.nd rfl (by first | exact Or.inl rfl | exact Or.inr rfl)) (dgs_cons (dg_name (i := 3) sc_law.nd rfl (by first | exact Or.inl rfl | exact Or.inr rfl)) dgs_nil)))))
    (dss_cons (ds_set (i := 9) sc_law.nd rfl (by first | exact Or.inl rfl | exact Or.inr rfl) (de_stl (de_call (ok_law_sheet T) hr (by decide) (by rfl) tk (fun _ _ => .nil) (da_cons (de_stl (dv 2)) (da_cons (de_stl (dv 3)) da_nil)))))
    (dss_cons (ds_if (dw_or (dt_not (dt_val (de_call (ok_law_same T) hr (by decide) (by rfl) tk (fun _ _ => .nil) (da_cons (de_stl (dv 4)) (da_cons (de_stl (dv 9)) da_nil))))) (dw_or (dt_cmp (opA_ne hr.units) os_ne (de_call (ok_count T) hr (by decide) (by rfl) tk (fun _ _ => .nil) (da_cons (de_stl (dv 4)) da_nil)) (de_callB call_lenA cs_lenD (by rfl) T.n_len bb_len (da_cons (dv 3) da_nil)) (nomark _)) (dw_or1 (dt_cmp (opA_ne hr.units) os_ne (de_call (ok_places T) hr (by decide) (by rfl) tk (fun _ _ => .nil) (da_cons (de_stl (dv 4)) da_nil)) (de_callB (call_sortA rfl hr.units) cs_sortA (by rfl) T.n_sorted bb_sorted (da_cons (dv 3) da_nil)) (nomark _))))).dt (dss_one (ds_ret de_bl)) dss_nil)
    (dss_cons (ds_par (i := 10) (j := 11) rfl sc_law.nd rfl rfl (by decide) rfl rfl (da_cons (de_stl (de_op op_sub os_sub (de_call (ok_law_next T) hr (by decide) (by rfl) tk (fun _ _ => .nil) (da_cons (de_cell (dv 8)) (da_cons de_int da_nil))) de_int)) (da_cons (de_stl (de_op op_sub os_sub (de_call (ok_law_next T) hr (by decide) (by rfl) tk (fun _ _ => .nil) (da_cons (de_cell (dv 8)) (da_cons de_int da_nil))) de_int)) da_nil)) (by rfl))
    (dss_cons (ds_if (dw_or (dt_cmp (opA_ne hr.units) os_ne (de_call (ok_has T) hr (by decide) (by rfl) tk (fun _ _ => .nil) (da_cons (de_stl (dv 4)) (da_cons (de_stl (dv 10)) (da_cons (de_stl (dv 11)) da_nil)))) (de_cmp (opA_in hr.units) os_memA (de_tup (da_cons (de_frz (dv 10)) (da_cons (de_frz (dv 11)) da_nil))) (dv 3) (by rfl)) (nomark _)) (dw_or1 (dt_not (dt_val (de_call (ok_law_back T) hr (by decide) (by rfl) tk (fun _ _ => .nil) (da_cons (de_stl (dv 2)) (da_cons (de_stl (dv 4)) da_nil))))))).dt (dss_one (ds_ret de_bl)) dss_nil)
    (dss_one (ds_expr (de_bm PySem.F.plainAttrs_list PySem.F.slot_list_append PySem.F.type_list_append mt_append rc_lst ms_append (dv 5) (da_cons (de_frz (de_tup (da_cons (de_frz (dv 4)) (da_cons (de_frz (dv 9)) da_nil)))) da_nil)))))))))))
    (dss_one (ds_ret (de_cmp (opA_eq hr.units) os_eq (de_lc (own := [("_law_one", 12)]) rfl sc_law.nd (di_seqD (dv 5)) (blkOk_by (N := ["_law_script", "_law_state_here", "_law_size_here", "_law_cells_here", "_law_sheet_here", "_law_held", "_law_k", "_law_cell", "_law_draw", "_law_due", "_law_x", "_law_y", "_law_one"]) (sc := defScope s_law) (by decide +kernel)) (by decide) (fun _ _ _ _ _ => (dg_name (i := 12) sc_law.nd rfl (by first | exact Or.inl rfl | exact Or.inr rfl))) (fun _ _ _ _ _ => (dts_one (dt_cmp (opA_ne hr.units) os_ne (de_ix ix_seq os_ix (dv 12) de_int (fun _ _ => rfl)) (de_ix ix_seq os_ix (dv 12) de_int (fun _ _ => rfl)) (nomark _)))) (fun _ _ _ _ _ => (dv 12))) (de_lst da_nil) (nomark _))))))))))) : Takes _ _ → PassesOwn _ _ _ _ → _) (takes_of rfl rfl rfl rfl) (passes_of rfl)) ?_
  rintro es μ q x - ⟨ns, rfl, hl, -, kk⟩
  walk_at "run"
  intro w h w3 w10 h3 h10
  walk_at "run"
  intro cs hcs hcl hnd
  walk_at "run"
  have hlen := cut_len ns none (some 80)
  rw [cut_map, enumE_map]
  refine for_st (as := (cutA ns none (some 80)).zipIdx) (h := fun p : Int × Nat => EV.dat (.tuple [.int (0 + (p.2 : Nat)), .int p.1])) (fun i (p : (Nat × Nat) × List Pt × List (List Nat)) => (3 ≤ p.1.1 ∧ p.1.1 ≤ 10 ∧ 3 ≤ p.1.2 ∧ p.1.2 ≤ 10) ∧ StC p.1.1 p.1.2 p.2.1 ∧ p.2.2.length ≤ i)
    (fun η p => ((η.set 2 (some (.dat (szD p.1.1 p.1.2)))).set 3 (some (.dat (dctD p.2.1)))).set 4 (some (.dat (shD (shC p.1.1 p.1.2 p.2.1))))) (fun _ p => μ ++ [.abs rngP, .lst (p.2.2.map heldD)]) ((w, h), cs, []) rfl rfl ⟨⟨w3, w10, h3, h10⟩, ⟨hcs, hnd⟩, Nat.le_refl _⟩ (fun _ => trivial) ?_ ?_
  · rintro i ⟨c, j⟩ ⟨⟨w, h⟩, cs, held⟩ J hi ⟨hb, S, hh⟩ hJ
    simp only at hb S hh
    have hj : j < 63 := by
      rw [List.getElem?_zipIdx] at hi
      obtain ⟨c', hc, e⟩ := Option.map_eq_some_iff.mp hi
      have := get_lt hc
      simp only [Prod.mk.injEq] at e
      omega
    have hi63 : i < 63 := by
      have := get_lt hi
      rw [List.length_zipIdx] at this
      omega
    walk_at "run"
    refine ⟨S, by unfold isR; simp, ?_⟩
    intro w' h' cs' ⟨b1, b2, b3, b4⟩ S'
    have hP := cells_perm S'.inn S'.nd
    have e1 : (cellsB (shC w' h' cs')).length = cs'.length := hP.length_eq
    have e2 : (cellsB (shC w' h' cs')).mergeSort leP = cs'.mergeSort leP := sort_perm hP
    walk_at "run"
    rw [e1, e2, decide_eq_true rfl, decide_eq_true rfl, if_neg (by simp), if_neg (by simp)]
    walk_at "run"
    refine ⟨by unfold isR; simp, ?_⟩
    intro a a0 a1
    refine ⟨by unfold isR; simp, ?_⟩
    intro b b00 b01
    walk_at "run"
    rw [bit_in S'.inn, if_neg (by simp)]
    walk_at "run"
    have go := hJ ((w', h'), cs', held ++ [shC w' h' cs']) ⟨⟨b1, b2, b3, b4⟩, S', by simp; omega⟩
    simpa [fg_cons, fg_nil, heldD] using go
  · rintro ⟨⟨w, h⟩, cs, held⟩ ⟨hb, S, hh⟩
    simp only at hb S hh
    walk_at "run"
    refine lc_filterD (p := fun _ => false) (f := heldD) (en := heldD) (as := held) (μ1 := μ ++ [.abs rngP, .lst (held.map heldD)]) (by rw [List.length_zipIdx] at hh; omega) ?_ ?_ ?_
    · exact .inl (by simp)
    · intro t K K' ht hK
      show gNm 12 (.dat (.tuple [shD t, shD t])) _ _ _
      walk_at "run"
      exact hK
    · walk_at "run"
      have ee : held.filter (fun _ => false) = [] := List.filter_eq_nil_iff.mpr fun _ _ => Bool.false_ne_true
      rw [ee]
      exact ⟨rfl, kk _⟩
theorem all_mk {K : PySem.W.Frag} {h : Heap} {mg : Str → Option Value} {fa : Addr} (X : K.In h) (G : h.Ns mainGlobals mg) (hfa : mg "law" = some (.ref fa)) {f_0 f_1 f_2 f_3 f_4 f_5 f_6 f_7 f_8 f_9 f_10 f_11 f_12 f_13 f_14 f_15 f_16 f_17 f_18 f_19 f_20 f_21 f_22 f_23 f_24 f_25 f_26 f_27 f_28 f_29 f_30 : Addr}
    {od0 an0 : Option Addr} {sl0 : Array (Option Value)} {oc0 kV0 dc0 pm0 cd0 ct0 : Value}
    (n0 : PySem.W.nsIn K mainGlobals "is_number" = some (some (.ref f_0))) (l0 : K.lookup f_0 = some ⟨oc0, od0, .func (PySem.W.fnOf "is_number" "is_number" (defArgs s_is_number) (defBody s_is_number) (defScope s_is_number) .none kV0 dc0 pm0 an0 cd0 ct0), sl0⟩) (c0 : PySem.W.codeIn K cd0 "is_number" = true) (k0 : PySem.W.keepIn K (.ref f_0) = true)
    {od1 an1 : Option Addr} {sl1 : Array (Option Value)} {oc1 kV1 dc1 pm1 cd1 ct1 : Value}
    (n1 : PySem.W.nsIn K mainGlobals "nothing" = some (some (.ref f_1))) (l1 : K.lookup f_1 = some ⟨oc1, od1, .func (PySem.W.fnOf "nothing" "nothing" (defArgs s_nothing) (defBody s_nothing) (defScope s_nothing) .none kV1 dc1 pm1 an1 cd1 ct1), sl1⟩) (c1 : PySem.W.codeIn K cd1 "nothing" = true) (k1 : PySem.W.keepIn K (.ref f_1) = true)
    {od2 an2 : Option Addr} {sl2 : Array (Option Value)} {oc2 kV2 dc2 pm2 cd2 ct2 : Value}
    (n2 : PySem.W.nsIn K mainGlobals "is_place" = some (some (.ref f_2))) (l2 : K.lookup f_2 = some ⟨oc2, od2, .func (PySem.W.fnOf "is_place" "is_place" (defArgs s_is_place) (defBody s_is_place) (defScope s_is_place) .none kV2 dc2 pm2 an2 cd2 ct2), sl2⟩) (c2 : PySem.W.codeIn K cd2 "is_place" = true) (k2 : PySem.W.keepIn K (.ref f_2) = true)
    {od3 an3 : Option Addr} {sl3 : Array (Option Value)} {oc3 kV3 dc3 pm3 cd3 ct3 : Value}
    (n3 : PySem.W.nsIn K mainGlobals "sheet_of" = some (some (.ref f_3))) (l3 : K.lookup f_3 = some ⟨oc3, od3, .func (PySem.W.fnOf "sheet_of" "sheet_of" (defArgs s_sheet_of) (defBody s_sheet_of) (defScope s_sheet_of) .none kV3 dc3 pm3 an3 cd3 ct3), sl3⟩) (c3 : PySem.W.codeIn K cd3 "sheet_of" = true) (k3 : PySem.W.keepIn K (.ref f_3) = true)
    {od4 an4 : Option Addr} {sl4 : Array (Option Value)} {oc4 kV4 dc4 pm4 cd4 ct4 : Value}
    (n4 : PySem.W.nsIn K mainGlobals "has" = some (some (.ref f_4))) (l4 : K.lookup f_4 = some ⟨oc4, od4, .func (PySem.W.fnOf "has" "has" (defArgs s_has) (defBody s_has) (defScope s_has) .none kV4 dc4 pm4 an4 cd4 ct4), sl4⟩) (c4 : PySem.W.codeIn K cd4 "has" = true) (k4 : PySem.W.keepIn K (.ref f_4) = true)
    {od5 an5 : Option Addr} {sl5 : Array (Option Value)} {oc5 kV5 dc5 pm5 cd5 ct5 : Value}
    (n5 : PySem.W.nsIn K mainGlobals "places" = some (some (.ref f_5))) (l5 : K.lookup f_5 = some ⟨oc5, od5, .func (PySem.W.fnOf "places" "places" (defArgs s_places) (defBody s_places) (defScope s_places) .none kV5 dc5 pm5 an5 cd5 ct5), sl5⟩) (c5 : PySem.W.codeIn K cd5 "places" = true) (k5 : PySem.W.keepIn K (.ref f_5) = true)
    {od6 an6 : Option Addr} {sl6 : Array (Option Value)} {oc6 kV6 dc6 pm6 cd6 ct6 : Value}
    (n6 : PySem.W.nsIn K mainGlobals "count" = some (some (.ref f_6))) (l6 : K.lookup f_6 = some ⟨oc6, od6, .func (PySem.W.fnOf "count" "count" (defArgs s_count) (defBody s_count) (defScope s_count) .none kV6 dc6 pm6 an6 cd6 ct6), sl6⟩) (c6 : PySem.W.codeIn K cd6 "count" = true) (k6 : PySem.W.keepIn K (.ref f_6) = true)
    {od7 an7 : Option Addr} {sl7 : Array (Option Value)} {oc7 kV7 dc7 pm7 cd7 ct7 : Value}
    (n7 : PySem.W.nsIn K mainGlobals "joined" = some (some (.ref f_7))) (l7 : K.lookup f_7 = some ⟨oc7, od7, .func (PySem.W.fnOf "joined" "joined" (defArgs s_joined) (defBody s_joined) (defScope s_joined) .none kV7 dc7 pm7 an7 cd7 ct7), sl7⟩) (c7 : PySem.W.codeIn K cd7 "joined" = true) (k7 : PySem.W.keepIn K (.ref f_7) = true)
    {od8 an8 : Option Addr} {sl8 : Array (Option Value)} {oc8 kV8 dc8 pm8 cd8 ct8 : Value}
    (n8 : PySem.W.nsIn K mainGlobals "common" = some (some (.ref f_8))) (l8 : K.lookup f_8 = some ⟨oc8, od8, .func (PySem.W.fnOf "common" "common" (defArgs s_common) (defBody s_common) (defScope s_common) .none kV8 dc8 pm8 an8 cd8 ct8), sl8⟩) (c8 : PySem.W.codeIn K cd8 "common" = true) (k8 : PySem.W.keepIn K (.ref f_8) = true)
    {od9 an9 : Option Addr} {sl9 : Array (Option Value)} {oc9 kV9 dc9 pm9 cd9 ct9 : Value}
    (n9 : PySem.W.nsIn K mainGlobals "without" = some (some (.ref f_9))) (l9 : K.lookup f_9 = some ⟨oc9, od9, .func (PySem.W.fnOf "without" "without" (defArgs s_without) (defBody s_without) (defScope s_without) .none kV9 dc9 pm9 an9 cd9 ct9), sl9⟩) (c9 : PySem.W.codeIn K cd9 "without" = true) (k9 : PySem.W.keepIn K (.ref f_9) = true)
    {od10 an10 : Option Addr} {sl10 : Array (Option Value)} {oc10 kV10 dc10 pm10 cd10 ct10 : Value}
    (n10 : PySem.W.nsIn K mainGlobals "moved" = some (some (.ref f_10))) (l10 : K.lookup f_10 = some ⟨oc10, od10, .func (PySem.W.fnOf "moved" "moved" (defArgs s_moved) (defBody s_moved) (defScope s_moved) .none kV10 dc10 pm10 an10 cd10 ct10), sl10⟩) (c10 : PySem.W.codeIn K cd10 "moved" = true) (k10 : PySem.W.keepIn K (.ref f_10) = true)
    {od11 an11 : Option Addr} {sl11 : Array (Option Value)} {oc11 kV11 dc11 pm11 cd11 ct11 : Value}
    (n11 : PySem.W.nsIn K mainGlobals "grown" = some (some (.ref f_11))) (l11 : K.lookup f_11 = some ⟨oc11, od11, .func (PySem.W.fnOf "grown" "grown" (defArgs s_grown) (defBody s_grown) (defScope s_grown) .none kV11 dc11 pm11 an11 cd11 ct11), sl11⟩) (c11 : PySem.W.codeIn K cd11 "grown" = true) (k11 : PySem.W.keepIn K (.ref f_11) = true)
    {od12 an12 : Option Addr} {sl12 : Array (Option Value)} {oc12 kV12 dc12 pm12 cd12 ct12 : Value}
    (n12 : PySem.W.nsIn K mainGlobals "spread" = some (some (.ref f_12))) (l12 : K.lookup f_12 = some ⟨oc12, od12, .func (PySem.W.fnOf "spread" "spread" (defArgs s_spread) (defBody s_spread) (defScope s_spread) .none kV12 dc12 pm12 an12 cd12 ct12), sl12⟩) (c12 : PySem.W.codeIn K cd12 "spread" = true) (k12 : PySem.W.keepIn K (.ref f_12) = true)
    {od13 an13 : Option Addr} {sl13 : Array (Option Value)} {oc13 kV13 dc13 pm13 cd13 ct13 : Value}
    (n13 : PySem.W.nsIn K mainGlobals "flood" = some (some (.ref f_13))) (l13 : K.lookup f_13 = some ⟨oc13, od13, .func (PySem.W.fnOf "flood" "flood" (defArgs s_flood) (defBody s_flood) (defScope s_flood) .none kV13 dc13 pm13 an13 cd13 ct13), sl13⟩) (c13 : PySem.W.codeIn K cd13 "flood" = true) (k13 : PySem.W.keepIn K (.ref f_13) = true)
    {od14 an14 : Option Addr} {sl14 : Array (Option Value)} {oc14 kV14 dc14 pm14 cd14 ct14 : Value}
    (n14 : PySem.W.nsIn K mainGlobals "turned_sheet" = some (some (.ref f_14))) (l14 : K.lookup f_14 = some ⟨oc14, od14, .func (PySem.W.fnOf "turned_sheet" "turned_sheet" (defArgs s_turned_sheet) (defBody s_turned_sheet) (defScope s_turned_sheet) .none kV14 dc14 pm14 an14 cd14 ct14), sl14⟩) (c14 : PySem.W.codeIn K cd14 "turned_sheet" = true) (k14 : PySem.W.keepIn K (.ref f_14) = true)
    {od15 an15 : Option Addr} {sl15 : Array (Option Value)} {oc15 kV15 dc15 pm15 cd15 ct15 : Value}
    (n15 : PySem.W.nsIn K mainGlobals "mirrored" = some (some (.ref f_15))) (l15 : K.lookup f_15 = some ⟨oc15, od15, .func (PySem.W.fnOf "mirrored" "mirrored" (defArgs s_mirrored) (defBody s_mirrored) (defScope s_mirrored) .none kV15 dc15 pm15 an15 cd15 ct15), sl15⟩) (c15 : PySem.W.codeIn K cd15 "mirrored" = true) (k15 : PySem.W.keepIn K (.ref f_15) = true)
    {od16 an16 : Option Addr} {sl16 : Array (Option Value)} {oc16 kV16 dc16 pm16 cd16 ct16 : Value}
    (n16 : PySem.W.nsIn K mainGlobals "_law_cell_at" = some (some (.ref f_16))) (l16 : K.lookup f_16 = some ⟨oc16, od16, .func (PySem.W.fnOf "_law_cell_at" "_law_cell_at" (defArgs s_law_cell_at) (defBody s_law_cell_at) (defScope s_law_cell_at) .none kV16 dc16 pm16 an16 cd16 ct16), sl16⟩) (c16 : PySem.W.codeIn K cd16 "_law_cell_at" = true) (k16 : PySem.W.keepIn K (.ref f_16) = true)
    {od17 an17 : Option Addr} {sl17 : Array (Option Value)} {oc17 kV17 dc17 pm17 cd17 ct17 : Value}
    (n17 : PySem.W.nsIn K mainGlobals "_law_state" = some (some (.ref f_17))) (l17 : K.lookup f_17 = some ⟨oc17, od17, .func (PySem.W.fnOf "_law_state" "_law_state" (defArgs s_law_state) (defBody s_law_state) (defScope s_law_state) .none kV17 dc17 pm17 an17 cd17 ct17), sl17⟩) (c17 : PySem.W.codeIn K cd17 "_law_state" = true) (k17 : PySem.W.keepIn K (.ref f_17) = true)
    {od18 an18 : Option Addr} {sl18 : Array (Option Value)} {oc18 kV18 dc18 pm18 cd18 ct18 : Value}
    (n18 : PySem.W.nsIn K mainGlobals "_law_next" = some (some (.ref f_18))) (l18 : K.lookup f_18 = some ⟨oc18, od18, .func (PySem.W.fnOf "_law_next" "_law_next" (defArgs s_law_next) (defBody s_law_next) (defScope s_law_next) .none kV18 dc18 pm18 an18 cd18 ct18), sl18⟩) (c18 : PySem.W.codeIn K cd18 "_law_next" = true) (k18 : PySem.W.keepIn K (.ref f_18) = true)
    {od19 an19 : Option Addr} {sl19 : Array (Option Value)} {oc19 kV19 dc19 pm19 cd19 ct19 : Value}
    (n19 : PySem.W.nsIn K mainGlobals "_law_floor" = some (some (.ref f_19))) (l19 : K.lookup f_19 = some ⟨oc19, od19, .func (PySem.W.fnOf "_law_floor" "_law_floor" (defArgs s_law_floor) (defBody s_law_floor) (defScope s_law_floor) .none kV19 dc19 pm19 an19 cd19 ct19), sl19⟩) (c19 : PySem.W.codeIn K cd19 "_law_floor" = true) (k19 : PySem.W.keepIn K (.ref f_19) = true)
    {od20 an20 : Option Addr} {sl20 : Array (Option Value)} {oc20 kV20 dc20 pm20 cd20 ct20 : Value}
    (n20 : PySem.W.nsIn K mainGlobals "_law_sheet" = some (some (.ref f_20))) (l20 : K.lookup f_20 = some ⟨oc20, od20, .func (PySem.W.fnOf "_law_sheet" "_law_sheet" (defArgs s_law_sheet) (defBody s_law_sheet) (defScope s_law_sheet) .none kV20 dc20 pm20 an20 cd20 ct20), sl20⟩) (c20 : PySem.W.codeIn K cd20 "_law_sheet" = true) (k20 : PySem.W.keepIn K (.ref f_20) = true)
    {od21 an21 : Option Addr} {sl21 : Array (Option Value)} {oc21 kV21 dc21 pm21 cd21 ct21 : Value}
    (n21 : PySem.W.nsIn K mainGlobals "_law_same" = some (some (.ref f_21))) (l21 : K.lookup f_21 = some ⟨oc21, od21, .func (PySem.W.fnOf "_law_same" "_law_same" (defArgs s_law_same) (defBody s_law_same) (defScope s_law_same) .none kV21 dc21 pm21 an21 cd21 ct21), sl21⟩) (c21 : PySem.W.codeIn K cd21 "_law_same" = true) (k21 : PySem.W.keepIn K (.ref f_21) = true)
    {od22 an22 : Option Addr} {sl22 : Array (Option Value)} {oc22 kV22 dc22 pm22 cd22 ct22 : Value}
    (n22 : PySem.W.nsIn K mainGlobals "_law_size" = some (some (.ref f_22))) (l22 : K.lookup f_22 = some ⟨oc22, od22, .func (PySem.W.fnOf "_law_size" "_law_size" (defArgs s_law_size) (defBody s_law_size) (defScope s_law_size) .none kV22 dc22 pm22 an22 cd22 ct22), sl22⟩) (c22 : PySem.W.codeIn K cd22 "_law_size" = true) (k22 : PySem.W.keepIn K (.ref f_22) = true)
    {od23 an23 : Option Addr} {sl23 : Array (Option Value)} {oc23 kV23 dc23 pm23 cd23 ct23 : Value}
    (n23 : PySem.W.nsIn K mainGlobals "_law_cells" = some (some (.ref f_23))) (l23 : K.lookup f_23 = some ⟨oc23, od23, .func (PySem.W.fnOf "_law_cells" "_law_cells" (defArgs s_law_cells) (defBody s_law_cells) (defScope s_law_cells) .none kV23 dc23 pm23 an23 cd23 ct23), sl23⟩) (c23 : PySem.W.codeIn K cd23 "_law_cells" = true) (k23 : PySem.W.keepIn K (.ref f_23) = true)
    {od24 an24 : Option Addr} {sl24 : Array (Option Value)} {oc24 kV24 dc24 pm24 cd24 ct24 : Value}
    (n24 : PySem.W.nsIn K mainGlobals "_law_near" = some (some (.ref f_24))) (l24 : K.lookup f_24 = some ⟨oc24, od24, .func (PySem.W.fnOf "_law_near" "_law_near" (defArgs s_law_near) (defBody s_law_near) (defScope s_law_near) .none kV24 dc24 pm24 an24 cd24 ct24), sl24⟩) (c24 : PySem.W.codeIn K cd24 "_law_near" = true) (k24 : PySem.W.keepIn K (.ref f_24) = true)
    {od25 an25 : Option Addr} {sl25 : Array (Option Value)} {oc25 kV25 dc25 pm25 cd25 ct25 : Value}
    (n25 : PySem.W.nsIn K mainGlobals "_law_come_to" = some (some (.ref f_25))) (l25 : K.lookup f_25 = some ⟨oc25, od25, .func (PySem.W.fnOf "_law_come_to" "_law_come_to" (defArgs s_law_come_to) (defBody s_law_come_to) (defScope s_law_come_to) .none kV25 dc25 pm25 an25 cd25 ct25), sl25⟩) (c25 : PySem.W.codeIn K cd25 "_law_come_to" = true) (k25 : PySem.W.keepIn K (.ref f_25) = true)
    {od26 an26 : Option Addr} {sl26 : Array (Option Value)} {oc26 kV26 dc26 pm26 cd26 ct26 : Value}
    (n26 : PySem.W.nsIn K mainGlobals "_law_all_in" = some (some (.ref f_26))) (l26 : K.lookup f_26 = some ⟨oc26, od26, .func (PySem.W.fnOf "_law_all_in" "_law_all_in" (defArgs s_law_all_in) (defBody s_law_all_in) (defScope s_law_all_in) .none kV26 dc26 pm26 an26 cd26 ct26), sl26⟩) (c26 : PySem.W.codeIn K cd26 "_law_all_in" = true) (k26 : PySem.W.keepIn K (.ref f_26) = true)
    {od27 an27 : Option Addr} {sl27 : Array (Option Value)} {oc27 kV27 dc27 pm27 cd27 ct27 : Value}
    (n27 : PySem.W.nsIn K mainGlobals "_law_two_done" = some (some (.ref f_27))) (l27 : K.lookup f_27 = some ⟨oc27, od27, .func (PySem.W.fnOf "_law_two_done" "_law_two_done" (defArgs s_law_two_done) (defBody s_law_two_done) (defScope s_law_two_done) .none kV27 dc27 pm27 an27 cd27 ct27), sl27⟩) (c27 : PySem.W.codeIn K cd27 "_law_two_done" = true) (k27 : PySem.W.keepIn K (.ref f_27) = true)
    {od28 an28 : Option Addr} {sl28 : Array (Option Value)} {oc28 kV28 dc28 pm28 cd28 ct28 : Value}
    (n28 : PySem.W.nsIn K mainGlobals "_law_done" = some (some (.ref f_28))) (l28 : K.lookup f_28 = some ⟨oc28, od28, .func (PySem.W.fnOf "_law_done" "_law_done" (defArgs s_law_done) (defBody s_law_done) (defScope s_law_done) .none kV28 dc28 pm28 an28 cd28 ct28), sl28⟩) (c28 : PySem.W.codeIn K cd28 "_law_done" = true) (k28 : PySem.W.keepIn K (.ref f_28) = true)
    {od29 an29 : Option Addr} {sl29 : Array (Option Value)} {oc29 kV29 dc29 pm29 cd29 ct29 : Value}
    (n29 : PySem.W.nsIn K mainGlobals "_law_back" = some (some (.ref f_29))) (l29 : K.lookup f_29 = some ⟨oc29, od29, .func (PySem.W.fnOf "_law_back" "_law_back" (defArgs s_law_back) (defBody s_law_back) (defScope s_law_back) .none kV29 dc29 pm29 an29 cd29 ct29), sl29⟩) (c29 : PySem.W.codeIn K cd29 "_law_back" = true) (k29 : PySem.W.keepIn K (.ref f_29) = true)
    {od30 an30 : Option Addr} {sl30 : Array (Option Value)} {oc30 kV30 dc30 pm30 cd30 ct30 : Value}
    (n30 : PySem.W.nsIn K mainGlobals "law" = some (some (.ref f_30))) (l30 : K.lookup f_30 = some ⟨oc30, od30, .func (PySem.W.fnOf "law" "law" (defArgs s_law) (defBody s_law) (defScope s_law) .none kV30 dc30 pm30 an30 cd30 ct30), sl30⟩) (c30 : PySem.W.codeIn K cd30 "law" = true) (k30 : PySem.W.keepIn K (.ref f_30) = true)
    {c_NoSpot : Addr} (gx_NoSpot : PySem.W.nsIn K mainGlobals "NoSpot" = some (some (.ref c_NoSpot)))
    (xx_NoSpot : PySem.W.excIn K c_NoSpot [.type "ValueError", .type "Exception", .type "BaseException", .type "object"] "ValueError.__new__" = true)
    (xk_NoSpot : PySem.W.keepIn K (.ref c_NoSpot) = true)
    (xb_NoSpot : PySem.W.subIn K (.ref c_NoSpot) (.type "BaseException") = some true)
    (xt_NoSpot : PySem.W.typeIn K (.ref c_NoSpot) = some (.type "type"))
    (z_abs : PySem.W.nsIn K mainGlobals "abs" = some none)
    (z_bool : PySem.W.nsIn K mainGlobals "bool" = some none)
    (z_dict : PySem.W.nsIn K mainGlobals "dict" = some none)
    (z_enumerate : PySem.W.nsIn K mainGlobals "enumerate" = some none)
    (z_int : PySem.W.nsIn K mainGlobals "int" = some none)
    (z_isinstance : PySem.W.nsIn K mainGlobals "isinstance" = some none)
    (z_len : PySem.W.nsIn K mainGlobals "len" = some none)
    (z_list : PySem.W.nsIn K mainGlobals "list" = some none)
    (z_range : PySem.W.nsIn K mainGlobals "range" = some none)
    (z_sorted : PySem.W.nsIn K mainGlobals "sorted" = some none)
    (z_sum : PySem.W.nsIn K mainGlobals "sum" = some none)
    (z_tuple : PySem.W.nsIn K mainGlobals "tuple" = some none)
    (z_zip : PySem.W.nsIn K mainGlobals "zip" = some none)
    : ∃ T : Top K mg, T.a_law = fa ∧ ∀ (s : Shared) (v : Value), BindsTo s T.fd_law ⟨[v], []⟩ [("_law_script", v)] := by
  have e := hfa.symm.trans (PySem.W.mg_of X G n30)
  cases e
  exact ⟨{ a_is_number := f_0, fd_is_number := _, F_is_number := fun_mk (st := s_is_number) l0 c0 k0, m_is_number := PySem.W.mg_of X G n0, b_is_number := ((fun_mk (st := s_is_number) l0 c0 k0).binds (ps := ["thing", "least", "most"]) fun _ _ _ _ _ _ us hl => match us, hl with | [_, _, _], _ => rfl), a_nothing := f_1, fd_nothing := _, F_nothing := fun_mk (st := s_nothing) l1 c1 k1, m_nothing := PySem.W.mg_of X G n1, b_nothing := ((fun_mk (st := s_nothing) l1 c1 k1).binds (ps := ["size"]) fun _ _ _ _ _ _ us hl => match us, hl with | [_], _ => rfl), a_is_place := f_2, fd_is_place := _, F_is_place := fun_mk (st := s_is_place) l2 c2 k2, m_is_place := PySem.W.mg_of X G n2, b_is_place := ((fun_mk (st := s_is_place) l2 c2 k2).binds (ps := ["size", "thing"]) fun _ _ _ _ _ _ us hl => match us, hl with | [_, _], _ => rfl), a_sheet_of := f_3, fd_sheet_of := _, F_sheet_of := fun_mk (st := s_sheet_of) l3 c3 k3, m_sheet_of := PySem.W.mg_of X G n3, b_sheet_of := ((fun_mk (st := s_sheet_of) l3 c3 k3).binds (ps := ["size", "some"]) fun _ _ _ _ _ _ us hl => match us, hl with | [_, _], _ => rfl), a_has := f_4, fd_has := _, F_has := fun_mk (st := s_has) l4 c4 k4, m_has := PySem.W.mg_of X G n4, b_has := ((fun_mk (st := s_has) l4 c4 k4).binds (ps := ["sheet", "x", "y"]) fun _ _ _ _ _ _ us hl => match us, hl with | [_, _, _], _ => rfl), a_places := f_5, fd_places := _, F_places := fun_mk (st := s_places) l5 c5 k5, m_places := PySem.W.mg_of X G n5, b_places := ((fun_mk (st := s_places) l5 c5 k5).binds (ps := ["sheet"]) fun _ _ _ _ _ _ us hl => match us, hl with | [_], _ => rfl), a_count := f_6, fd_count := _, F_count := fun_mk (st := s_count) l6 c6 k6, m_count := PySem.W.mg_of X G n6, b_count := ((fun_mk (st := s_count) l6 c6 k6).binds (ps := ["sheet"]) fun _ _ _ _ _ _ us hl => match us, hl with | [_], _ => rfl), a_joined := f_7, fd_joined := _, F_joined := fun_mk (st := s_joined) l7 c7 k7, m_joined := PySem.W.mg_of X G n7, b_joined := ((fun_mk (st := s_joined) l7 c7 k7).binds (ps := ["one", "other"]) fun _ _ _ _ _ _ us hl => match us, hl with | [_, _], _ => rfl), a_common := f_8, fd_common := _, F_common := fun_mk (st := s_common) l8 c8 k8, m_common := PySem.W.mg_of X G n8, b_common := ((fun_mk (st := s_common) l8 c8 k8).binds (ps := ["one", "other"]) fun _ _ _ _ _ _ us hl => match us, hl with | [_, _], _ => rfl), a_without := f_9, fd_without := _, F_without := fun_mk (st := s_without) l9 c9 k9, m_without := PySem.W.mg_of X G n9, b_without := ((fun_mk (st := s_without) l9 c9 k9).binds (ps := ["one", "other"]) fun _ _ _ _ _ _ us hl => match us, hl with | [_, _], _ => rfl), a_moved := f_10, fd_moved := _, F_moved := fun_mk (st := s_moved) l10 c10 k10, m_moved := PySem.W.mg_of X G n10, b_moved := ((fun_mk (st := s_moved) l10 c10 k10).binds (ps := ["size", "sheet", "dx", "dy"]) fun _ _ _ _ _ _ us hl => match us, hl with | [_, _, _, _], _ => rfl), a_grown := f_11, fd_grown := _, F_grown := fun_mk (st := s_grown) l11 c11 k11, m_grown := PySem.W.mg_of X G n11, b_grown := ((fun_mk (st := s_grown) l11 c11 k11).binds (ps := ["size", "sheet", "gap"]) fun _ _ _ _ _ _ us hl => match us, hl with | [_, _, _], _ => rfl), a_spread := f_12, fd_spread := _, F_spread := fun_mk (st := s_spread) l12 c12 k12, m_spread := PySem.W.mg_of X G n12, b_spread := ((fun_mk (st := s_spread) l12 c12 k12).binds (ps := ["size", "sheet"]) fun _ _ _ _ _ _ us hl => match us, hl with | [_, _], _ => rfl), a_flood := f_13, fd_flood := _, F_flood := fun_mk (st := s_flood) l13 c13 k13, m_flood := PySem.W.mg_of X G n13, b_flood := ((fun_mk (st := s_flood) l13 c13 k13).binds (ps := ["size", "sheet", "x", "y"]) fun _ _ _ _ _ _ us hl => match us, hl with | [_, _, _, _], _ => rfl), a_turned_sheet := f_14, fd_turned_sheet := _, F_turned_sheet := fun_mk (st := s_turned_sheet) l14 c14 k14, m_turned_sheet := PySem.W.mg_of X G n14, b_turned_sheet := ((fun_mk (st := s_turned_sheet) l14 c14 k14).binds (ps := ["size", "sheet"]) fun _ _ _ _ _ _ us hl => match us, hl with | [_, _], _ => rfl), a_mirrored := f_15, fd_mirrored := _, F_mirrored := fun_mk (st := s_mirrored) l15 c15 k15, m_mirrored := PySem.W.mg_of X G n15, b_mirrored := ((fun_mk (st := s_mirrored) l15 c15 k15).binds (ps := ["size", "sheet"]) fun _ _ _ _ _ _ us hl => match us, hl with | [_, _], _ => rfl), a_law_cell_at := f_16, fd_law_cell_at := _, F_law_cell_at := fun_mk (st := s_law_cell_at) l16 c16 k16, m_law_cell_at := PySem.W.mg_of X G n16, b_law_cell_at := ((fun_mk (st := s_law_cell_at) l16 c16 k16).binds (ps := ["_law_script", "_law_k"]) fun _ _ _ _ _ _ us hl => match us, hl with | [_, _], _ => rfl), a_law_state := f_17, fd_law_state := _, F_law_state := fun_mk (st := s_law_state) l17 c17 k17, m_law_state := PySem.W.mg_of X G n17, b_law_state := ((fun_mk (st := s_law_state) l17 c17 k17).binds (ps := ["_law_cell", "_law_k"]) fun _ _ _ _ _ _ us hl => match us, hl with | [_, _], _ => rfl), a_law_next := f_18, fd_law_next := _, F_law_next := fun_mk (st := s_law_next) l18 c18 k18, m_law_next := PySem.W.mg_of X G n18, b_law_next := ((fun_mk (st := s_law_next) l18 c18 k18).binds (ps := ["_law_state_here", "_law_size_here"]) fun _ _ _ _ _ _ us hl => match us, hl with | [_, _], _ => rfl), a_law_floor := f_19, fd_law_floor := _, F_law_floor := fun_mk (st := s_law_floor) l19 c19 k19, m_law_floor := PySem.W.mg_of X G n19, b_law_floor := ((fun_mk (st := s_law_floor) l19 c19 k19).binds (ps := ["_law_size_here"]) fun _ _ _ _ _ _ us hl => match us, hl with | [_], _ => rfl), a_law_sheet := f_20, fd_law_sheet := _, F_law_sheet := fun_mk (st := s_law_sheet) l20 c20 k20, m_law_sheet := PySem.W.mg_of X G n20, b_law_sheet := ((fun_mk (st := s_law_sheet) l20 c20 k20).binds (ps := ["_law_size_here", "_law_cells_here"]) fun _ _ _ _ _ _ us hl => match us, hl with | [_, _], _ => rfl), a_law_same := f_21, fd_law_same := _, F_law_same := fun_mk (st := s_law_same) l21 c21 k21, m_law_same := PySem.W.mg_of X G n21, b_law_same := ((fun_mk (st := s_law_same) l21 c21 k21).binds (ps := ["_law_found", "_law_due"]) fun _ _ _ _ _ _ us hl => match us, hl with | [_, _], _ => rfl), a_law_size := f_22, fd_law_size := _, F_law_size := fun_mk (st := s_law_size) l22 c22 k22, m_law_size := PySem.W.mg_of X G n22, b_law_size := ((fun_mk (st := s_law_size) l22 c22 k22).binds (ps := ["_law_state_here"]) fun _ _ _ _ _ _ us hl => match us, hl with | [_], _ => rfl), a_law_cells := f_23, fd_law_cells := _, F_law_cells := fun_mk (st := s_law_cells) l23 c23 k23, m_law_cells := PySem.W.mg_of X G n23, b_law_cells := ((fun_mk (st := s_law_cells) l23 c23 k23).binds (ps := ["_law_state_here", "_law_size_here"]) fun _ _ _ _ _ _ us hl => match us, hl with | [_, _], _ => rfl), a_law_near := f_24, fd_law_near := _, F_law_near := fun_mk (st := s_law_near) l24 c24 k24, m_law_near := PySem.W.mg_of X G n24, b_law_near := ((fun_mk (st := s_law_near) l24 c24 k24).binds (ps := ["_law_cells_here", "_law_size_here", "_law_gap"]) fun _ _ _ _ _ _ us hl => match us, hl with | [_, _, _], _ => rfl), a_law_come_to := f_25, fd_law_come_to := _, F_law_come_to := fun_mk (st := s_law_come_to) l25 c25 k25, m_law_come_to := PySem.W.mg_of X G n25, b_law_come_to := ((fun_mk (st := s_law_come_to) l25 c25 k25).binds (ps := ["_law_cells_here", "_law_first"]) fun _ _ _ _ _ _ us hl => match us, hl with | [_, _], _ => rfl), a_law_all_in := f_26, fd_law_all_in := _, F_law_all_in := fun_mk (st := s_law_all_in) l26 c26 k26, m_law_all_in := PySem.W.mg_of X G n26, b_law_all_in := ((fun_mk (st := s_law_all_in) l26 c26 k26).binds (ps := ["_law_size_here", "_law_some"]) fun _ _ _ _ _ _ us hl => match us, hl with | [_, _], _ => rfl), a_law_two_done := f_27, fd_law_two_done := _, F_law_two_done := fun_mk (st := s_law_two_done) l27 c27 k27, m_law_two_done := PySem.W.mg_of X G n27, b_law_two_done := ((fun_mk (st := s_law_two_done) l27 c27 k27).binds (ps := ["_law_way", "_law_size_here", "_law_sheet_here", "_law_cells_here", "_law_state_here"]) fun _ _ _ _ _ _ us hl => match us, hl with | [_, _, _, _, _], _ => rfl), a_law_done := f_28, fd_law_done := _, F_law_done := fun_mk (st := s_law_done) l28 c28 k28, m_law_done := PySem.W.mg_of X G n28, b_law_done := ((fun_mk (st := s_law_done) l28 c28 k28).binds (ps := ["_law_size_here", "_law_sheet_here", "_law_cells_here", "_law_state_here"]) fun _ _ _ _ _ _ us hl => match us, hl with | [_, _, _, _], _ => rfl), a_law_back := f_29, fd_law_back := _, F_law_back := fun_mk (st := s_law_back) l29 c29 k29, m_law_back := PySem.W.mg_of X G n29, b_law_back := ((fun_mk (st := s_law_back) l29 c29 k29).binds (ps := ["_law_size_here", "_law_sheet_here"]) fun _ _ _ _ _ _ us hl => match us, hl with | [_, _], _ => rfl), a_law := fa, fd_law := _, F_law := fun_mk (st := s_law) l30 c30 k30, m_law := PySem.W.mg_of X G n30, b_law := ((fun_mk (st := s_law) l30 c30 k30).binds (ps := ["_law_script"]) fun _ _ _ _ _ _ us hl => match us, hl with | [_], _ => rfl), c_NoSpot := c_NoSpot, gx_NoSpot := PySem.W.mg_of X G gx_NoSpot, xx_NoSpot := xx_NoSpot, xk_NoSpot := xk_NoSpot, xb_NoSpot := xb_NoSpot, xt_NoSpot := xt_NoSpot, n_abs := PySem.W.mg_none_of X G z_abs, n_bool := PySem.W.mg_none_of X G z_bool, n_dict := PySem.W.mg_none_of X G z_dict, n_enumerate := PySem.W.mg_none_of X G z_enumerate, n_int := PySem.W.mg_none_of X G z_int, n_isinstance := PySem.W.mg_none_of X G z_isinstance, n_len := PySem.W.mg_none_of X G z_len, n_list := PySem.W.mg_none_of X G z_list, n_range := PySem.W.mg_none_of X G z_range, n_sorted := PySem.W.mg_none_of X G z_sorted, n_sum := PySem.W.mg_none_of X G z_sum, n_tuple := PySem.W.mg_none_of X G z_tuple, n_zip := PySem.W.mg_none_of X G z_zip }, rfl, fun s v => .of_eq rfl⟩
theorem walk {l : PySem.W.OpenLaw} {q : Program} {loose : List Str} {XP : (Str → Option Value) → Heap → Prop} {YP : World → Heap → Prop} {d : DefRec} {K : Params → PySem.W.Frag} (hn : l.most = some 63) (hdf : d.params.defaults = [])
    (hY : ∀ (w : World) (h : Heap), YP w h → (K w.params).In h)
    (F : ∀ (w : World) (mg : Str → Option Value) (fa : Addr) (h : Heap), (K w.params).In h → h.Ns mainGlobals mg → mg d.name = some (.ref fa) →
      ∃ T : Top (K w.params) mg, T.a_law = fa ∧ ∀ (s : Shared) (u : Value), BindsTo s T.fd_law ⟨[u], []⟩ [("_law_script", u)]) :
    PySem.W.WalkO q loose XP YP l.row.toRowW d [] (fun f vs => PySem.call f vs) :=
  L2.walk_of (n := 63) (k := 6) (x := "_law_script") (CX := fun w => L2.CX l.prog w) (sp := fun w => spLaw (K w.params)) hn (by decide) hdf ⟨rfl, by decide, by decide⟩ hY
    (fun w mg fa h X G hm => by
      obtain ⟨T, rfl, hb⟩ := F w mg fa h X G hm
      exact ⟨T.fd_law, hb, fun base _ _ => (ok_law T).imp fun vs H Q E h => law_sp h⟩)
    (fun _ _ a ns hl _ hS => ⟨a, ns, rfl, hS, hl, fun _ => rfl⟩) fun _ _ _ _ _ z => cx_no z
end
end B
set_option maxRecDepth 100000 in
set_option maxHeartbeats 0 in
theorem PySem.Challenge.cw_boardlay_k14_whole_sheets_go_on_holds : PySem.Challenge.rw_boardlay_k14_whole_sheets_go_on.Holds := by
  w_on; o_law; k_head; (case hw => w_witness2)
  k_fill
  refine B.walk (l := PySem.Challenge.rw_boardlay_k14_whole_sheets_go_on) rfl rfl (fun w h Y => PySem.W.kIn_of Y) ?F
  case F =>
    intro w mg fa h KX G hmg
    refine' B.all_mk KX G hmg ?n0 ?l0 ?c0 ?k0 ?n1 ?l1 ?c1 ?k1 ?n2 ?l2 ?c2 ?k2 ?n3 ?l3 ?c3 ?k3 ?n4 ?l4 ?c4 ?k4 ?n5 ?l5 ?c5 ?k5 ?n6 ?l6 ?c6 ?k6 ?n7 ?l7 ?c7 ?k7 ?n8 ?l8 ?c8 ?k8 ?n9 ?l9 ?c9 ?k9 ?n10 ?l10 ?c10 ?k10 ?n11 ?l11 ?c11 ?k11 ?n12 ?l12 ?c12 ?k12 ?n13 ?l13 ?c13 ?k13 ?n14 ?l14 ?c14 ?k14 ?n15 ?l15 ?c15 ?k15 ?n16 ?l16 ?c16 ?k16 ?n17 ?l17 ?c17 ?k17 ?n18 ?l18 ?c18 ?k18 ?n19 ?l19 ?c19 ?k19 ?n20 ?l20 ?c20 ?k20 ?n21 ?l21 ?c21 ?k21 ?n22 ?l22 ?c22 ?k22 ?n23 ?l23 ?c23 ?k23 ?n24 ?l24 ?c24 ?k24 ?n25 ?l25 ?c25 ?k25 ?n26 ?l26 ?c26 ?k26 ?n27 ?l27 ?c27 ?k27 ?n28 ?l28 ?c28 ?k28 ?n29 ?l29 ?c29 ?k29 ?n30 ?l30 ?c30 ?k30 ?gx_NoSpot ?xx_NoSpot ?xk_NoSpot ?xb_NoSpot ?xt_NoSpot ?z_abs ?z_bool ?z_dict ?z_enumerate ?z_int ?z_isinstance ?z_len ?z_list ?z_range ?z_sorted ?z_sum ?z_tuple ?z_zip
    (case n0 => k_is); (case l0 => k_is); (case c0 => k_is); (case k0 => k_is); (case n1 => k_is); (case l1 => k_is)
    (case c1 => k_is); (case k1 => k_is); (case n2 => k_is); (case l2 => k_is); (case c2 => k_is); (case k2 => k_is)
    (case n3 => k_is); (case l3 => k_is); (case c3 => k_is); (case k3 => k_is); (case n4 => k_is); (case l4 => k_is)
    (case c4 => k_is); (case k4 => k_is); (case n5 => k_is); (case l5 => k_is); (case c5 => k_is); (case k5 => k_is)
    (case n6 => k_is); (case l6 => k_is); (case c6 => k_is); (case k6 => k_is); (case n7 => k_is); (case l7 => k_is)
    (case c7 => k_is); (case k7 => k_is); (case n8 => k_is); (case l8 => k_is); (case c8 => k_is); (case k8 => k_is)
    (case n9 => k_is); (case l9 => k_is); (case c9 => k_is); (case k9 => k_is); (case n10 => k_is); (case l10 => k_is)
    (case c10 => k_is); (case k10 => k_is); (case n11 => k_is); (case l11 => k_is); (case c11 => k_is); (case k11 => k_is)
    (case n12 => k_is); (case l12 => k_is); (case c12 => k_is); (case k12 => k_is); (case n13 => k_is); (case l13 => k_is)
    (case c13 => k_is); (case k13 => k_is); (case n14 => k_is); (case l14 => k_is); (case c14 => k_is); (case k14 => k_is)
    (case n15 => k_is); (case l15 => k_is); (case c15 => k_is); (case k15 => k_is); (case n16 => k_is); (case l16 => k_is)
    (case c16 => k_is); (case k16 => k_is); (case n17 => k_is); (case l17 => k_is); (case c17 => k_is); (case k17 => k_is)
    (case n18 => k_is); (case l18 => k_is); (case c18 => k_is); (case k18 => k_is); (case n19 => k_is); (case l19 => k_is)
    (case c19 => k_is); (case k19 => k_is); (case n20 => k_is); (case l20 => k_is); (case c20 => k_is); (case k20 => k_is)
    (case n21 => k_is); (case l21 => k_is); (case c21 => k_is); (case k21 => k_is); (case n22 => k_is); (case l22 => k_is)
    (case c22 => k_is); (case k22 => k_is); (case n23 => k_is); (case l23 => k_is); (case c23 => k_is); (case k23 => k_is)
    (case n24 => k_is); (case l24 => k_is); (case c24 => k_is); (case k24 => k_is); (case n25 => k_is); (case l25 => k_is)
    (case c25 => k_is); (case k25 => k_is); (case n26 => k_is); (case l26 => k_is); (case c26 => k_is); (case k26 => k_is)
    (case n27 => k_is); (case l27 => k_is); (case c27 => k_is); (case k27 => k_is); (case n28 => k_is); (case l28 => k_is)
    (case c28 => k_is); (case k28 => k_is); (case n29 => k_is); (case l29 => k_is); (case c29 => k_is); (case k29 => k_is)
    (case n30 => k_is); (case l30 => k_is); (case c30 => k_is); (case k30 => k_is); (case gx_NoSpot => k_is); (case xx_NoSpot => k_exc)
    (case xk_NoSpot => k_is); (case xb_NoSpot => k_is); (case xt_NoSpot => k_is); (case z_abs => k_is); (case z_bool => k_is); (case z_dict => k_is)
    (case z_enumerate => k_is); (case z_int => k_is); (case z_isinstance => k_is); (case z_len => k_is); (case z_list => k_is); (case z_range => k_is)
    (case z_sorted => k_is); (case z_sum => k_is); (case z_tuple => k_is); (case z_zip => k_is)
