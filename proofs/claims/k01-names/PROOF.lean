import PyProof.Rows.All
import Wide.All
import OpenK.AllK
import Wide.FinOn
import HandS.ForMost
import HandS.ForExc
import HandS.Walk
import HandS.ExcOwn
import HandS.CallSlots
import HandS.TupAny
import HandS.TupMul
import HandS.IsInst
import HandS.Deep
import HandS.WordsDict
import HandS.Text
import PySem.Challenge.RW_boardlay_k01_names_and_numbers
set_option Elab.async false
set_option linter.all false
set_option maxRecDepth 100000
set_option maxHeartbeats 4000000
/-! The data layer: contracts over plain data instead of heaps. -/
namespace DL
open PySem L2

/-- an exception: its class, its fields (of a class with an own __init__) -/
structure Exn where
  c : Addr
  fs : Option (List (Str × PyData))

/-- a value as the contracts see it: data, a cell of the store, a list that nobody else has, any other -/
inductive EV where
  | dat (d : PyData)
  | loc (n : Nat)
  | new (xs : List PyData)
  | raw (v : V)
  | exc (x : Exn)
  | ro (xs : List PyData)

/-- a cell: a list that may change, one that may not any more, a dict -/
inductive Cell where
  | lst (xs : List PyData)
  | frz (xs : List PyData)
  | dct (kvs : List (PyData × PyData))
  | dead

abbrev Mu := List Cell
abbrev DEnv := List (Option EV)

mutual
/-- a value that is data, in the still part F of the heap -/
inductive DR (K : PySem.W.Frag) (F : Hp) : V → PyData → Prop
  | non : DR K F .non .none
  | bl (b : Bool) : DR K F (.bl b) (.bool b)
  | int (i : Int) : DR K F (.int i) (.int i)
  | str (x : Str) : PyData.strOk x = true → DR K F (.str x) (.str x)
  | lst {a : Addr} {vs : List V} {ds : List PyData} : F a = some (.lst vs) → DRs K F vs ds → DR K F (.ref a) (.list ds)
  | tup {a : Addr} {vs : List V} {ds : List PyData} : SqT K F a vs → DRs K F vs ds → DR K F (.ref a) (.tuple ds)
inductive DRs (K : PySem.W.Frag) (F : Hp) : List V → List PyData → Prop
  | nil : DRs K F [] []
  | cons {v : V} {vs : List V} {d : PyData} {ds : List PyData} : DR K F v d → DRs K F vs ds → DRs K F (v :: vs) (d :: ds)
end

theorem sqT_mono {K : PySem.W.Frag} {F F' : Hp} {a : Addr} {xs : List V} (e : Same F F') (h : SqT K F a xs) : SqT K F' a xs := by
  rcases h with (h | ⟨o, h⟩) | h
  · exact .inl (.inl (e _ _ h))
  · exact .inl (.inr ⟨o, e _ _ h⟩)
  · exact .inr h

mutual
theorem DR.mono {K : PySem.W.Frag} {F F' : Hp} (e : Same F F') : ∀ {v : V} {d : PyData}, DR K F v d → DR K F' v d
  | _, _, .non => .non
  | _, _, .bl b => .bl b
  | _, _, .int i => .int i
  | _, _, .str x h => .str x h
  | _, _, .lst h hs => .lst (e _ _ h) (DRs.mono e hs)
  | _, _, .tup h hs => .tup (sqT_mono e h) (DRs.mono e hs)
theorem DRs.mono {K : PySem.W.Frag} {F F' : Hp} (e : Same F F') : ∀ {vs : List V} {ds : List PyData}, DRs K F vs ds → DRs K F' vs ds
  | _, _, .nil => .nil
  | _, _, .cons h hs => .cons (DR.mono e h) (DRs.mono e hs)
end
mutual
theorem DR.dp {K : PySem.W.Frag} {F : Hp} : ∀ {v : V} {d : PyData}, DR K F v d → Dp K F v d
  | _, _, .non => .non
  | _, _, .bl b => .bl b
  | _, _, .int i => .int i
  | _, _, .str x _ => .str x
  | _, _, .lst h hs => .lst (SqL.of h) (DRs.dp hs)
  | _, _, .tup h hs => .tup h (DRs.dp hs)
theorem DRs.dp {K : PySem.W.Frag} {F : Hp} : ∀ {vs : List V} {ds : List PyData}, DRs K F vs ds → DpAll K F vs ds
  | _, _, .nil => .nil
  | _, _, .cons h hs => .cons (DR.dp h) (DRs.dp hs)
end
mutual
theorem DR.lay {K : PySem.W.Frag} {F : Hp} : ∀ {v : V} {d : PyData}, DR K F v d → d.canLay0 = true
  | _, _, .non => by simp [PyData.canLay0]
  | _, _, .bl b => by simp [PyData.canLay0]
  | _, _, .int i => by simp [PyData.canLay0]
  | _, _, .str x h => by simpa [PyData.canLay0] using h
  | _, _, .lst h hs => by simpa [PyData.canLay0] using DRs.lay hs
  | _, _, .tup h hs => by simpa [PyData.canLay0] using DRs.lay hs
theorem DRs.lay {K : PySem.W.Frag} {F : Hp} : ∀ {vs : List V} {ds : List PyData}, DRs K F vs ds → PyData.canLayAll0 ds = true
  | _, _, .nil => by simp [PyData.canLayAll0]
  | _, _, .cons h hs => by simp [PyData.canLayAll0, DR.lay h, DRs.lay hs]
end
theorem DRs.length {K : PySem.W.Frag} {F : Hp} : ∀ {vs : List V} {ds : List PyData}, DRs K F vs ds → vs.length = ds.length
  | _, _, .nil => rfl
  | _, _, .cons _ hs => by rw [List.length_cons, List.length_cons, DRs.length hs]
theorem DRs.append {K : PySem.W.Frag} {F : Hp} : ∀ {vs ws : List V} {ds es : List PyData}, DRs K F vs ds → DRs K F ws es → DRs K F (vs ++ ws) (ds ++ es)
  | _, _, _, _, .nil, s => s
  | _, _, _, _, .cons h hs, s => .cons h (DRs.append hs s)
theorem DRs.get {K : PySem.W.Frag} {F : Hp} : ∀ {vs : List V} {ds : List PyData} {i : Nat} {d : PyData}, DRs K F vs ds → ds[i]? = some d → ∃ v, vs[i]? = some v ∧ DR K F v d
  | _, _, _, _, .nil, e => by simp at e
  | _, _, 0, _, .cons h _, e => by simp at e; subst e; exact ⟨_, rfl, h⟩
  | _, _, i + 1, d, .cons _ hs, e => by
    obtain ⟨v, h1, h2⟩ := DRs.get (i := i) (d := d) hs (by simpa using e)
    exact ⟨v, by simpa using h1, h2⟩
theorem DRs.getV {K : PySem.W.Frag} {F : Hp} : ∀ {vs : List V} {ds : List PyData} {i : Nat} {v : V}, DRs K F vs ds → vs[i]? = some v → ∃ d, ds[i]? = some d ∧ DR K F v d
  | _, _, _, _, .nil, e => by simp at e
  | _, _, 0, _, .cons h _, e => by simp at e; subst e; exact ⟨_, rfl, h⟩
  | _, _, i + 1, v, .cons _ hs, e => by
    obtain ⟨d, h1, h2⟩ := DRs.getV (i := i) (v := v) hs (by simpa using e)
    exact ⟨d, by simpa using h1, h2⟩
theorem DRs.set {K : PySem.W.Frag} {F : Hp} {v : V} {d : PyData} (r : DR K F v d) : ∀ {vs : List V} {ds : List PyData} (i : Nat), DRs K F vs ds → DRs K F (vs.set i v) (ds.set i d)
  | _, _, _, .nil => .nil
  | _, _, 0, .cons _ hs => .cons r hs
  | _, _, i + 1, .cons h hs => .cons h (DRs.set r i hs)
theorem DRs.take {K : PySem.W.Frag} {F : Hp} : ∀ {vs : List V} {ds : List PyData} (i : Nat), DRs K F vs ds → DRs K F (vs.take i) (ds.take i)
  | _, _, 0, _ => .nil
  | _, _, _ + 1, .nil => .nil
  | _, _, i + 1, .cons h hs => .cons h (DRs.take i hs)
theorem DRs.drop {K : PySem.W.Frag} {F : Hp} : ∀ {vs : List V} {ds : List PyData} (i : Nat), DRs K F vs ds → DRs K F (vs.drop i) (ds.drop i)
  | _, _, 0, h => h
  | _, _, _ + 1, .nil => .nil
  | _, _, i + 1, .cons _ hs => DRs.drop i hs

/-- a world: the tracked heap, its still part, where the cells lie -/
structure Wd where
  H : Hp
  F : Hp
  L : Nat → Addr

/-- dicts' keys: ints and texts, or tuples of such -/
def keyD : Key → PyData
  | .inl i => .int i
  | .inr x => .str x
def CellAt (K : PySem.W.Frag) (s : Wd) (a : Addr) : Cell → Prop
  | .lst xs => s.F a = none ∧ ∃ vs, s.H a = some (.lst vs) ∧ DRs K s.F vs xs
  | .frz xs => ∃ vs, s.F a = some (.lst vs) ∧ DRs K s.F vs xs
  | .dct kvs => s.F a = none ∧ ((∃ ks : List (Key × V), s.H a = some (.dK ks) ∧ kvs.map (·.1) = ks.map (fun p => keyD p.1) ∧ DRs K s.F (ks.map (·.2)) (kvs.map (·.2))) ∨
      (∃ ks : List (List Key × V), s.H a = some (.dT ks) ∧ kvs.map (·.1) = ks.map (fun p => PyData.tuple (p.1.map keyD)) ∧ DRs K s.F (ks.map (·.2)) (kvs.map (·.2))))
  | .dead => s.H a ≠ none

structure Rep (K : PySem.W.Frag) (s : Wd) (μ : Mu) : Prop where
  sub : Same s.F s.H
  cell : ∀ n c, μ[n]? = some c → CellAt K s (s.L n) c
  inj : ∀ m n, m < μ.length → n < μ.length → s.L m = s.L n → m = n

theorem CellAt.here {K : PySem.W.Frag} {s : Wd} {a : Addr} {c : Cell} (h : CellAt K s a c) (sub : Same s.F s.H) : s.H a ≠ none := by
  cases c with
  | lst xs => obtain ⟨_, vs, e, _⟩ := h; rw [e]; simp
  | frz xs => obtain ⟨vs, e, _⟩ := h; rw [sub _ _ e]; simp
  | dct kvs =>
    obtain ⟨_, ⟨ks, e, _⟩ | ⟨ks, e, _⟩⟩ := h
    · rw [e]; simp
    · rw [e]; simp
  | dead => exact h
theorem Rep.here {K : PySem.W.Frag} {s : Wd} {μ : Mu} (R : Rep K s μ) {n : Nat} (h : n < μ.length) : s.H (s.L n) ≠ none := (R.cell n μ[n] (by simp [h])).here R.sub

/-- from s with N cells to s' with N' -/
structure Ext (s : Wd) (N : Nat) (s' : Wd) (N' : Nat) : Prop where
  f : Same s.F s'.F
  l : ∀ n, n < N → s'.L n = s.L n
  le : N ≤ N'
  keep : ∀ a o, s.H a = some o → (∀ n, n < N → s.L n ≠ a) → s'.H a = some o
  fnew : ∀ a, s.F a = none → (∀ n, n < N → s.L n ≠ a) → s.H a ≠ none → s'.F a = none
  lnew : ∀ n, N ≤ n → n < N' → s.H (s'.L n) = none
theorem Ext.refl (s : Wd) (N : Nat) : Ext s N s N := ⟨fun _ _ h => h, fun _ _ => rfl, Nat.le_refl _, fun _ _ h _ => h, fun _ h _ _ => h, fun n h1 h2 => absurd h1 (Nat.not_le_of_lt h2)⟩
theorem Ext.trans {s s1 s2 : Wd} {N N1 N2 : Nat} (a : Ext s N s1 N1) (b : Ext s1 N1 s2 N2) (h1 : ∀ n, n < N1 → s1.H (s1.L n) ≠ none) : Ext s N s2 N2 := by
  have out : ∀ c, s.H c ≠ none → (∀ n, n < N → s.L n ≠ c) → ∀ n, n < N1 → s1.L n ≠ c := fun c hc hn n hn1 e => by
    by_cases h : n < N
    · exact hn n h ((a.l n h).symm.trans e)
    · have := a.lnew n (Nat.le_of_not_lt h) hn1
      rw [e] at this
      exact hc this
  refine ⟨fun x o h => b.f x o (a.f x o h), fun n h => (b.l n (Nat.lt_of_lt_of_le h a.le)).trans (a.l n h), Nat.le_trans a.le b.le, fun x o h hn => b.keep x o (a.keep x o h hn) (out x (by rw [h]; simp) hn), fun x hf hn hx => ?_, fun n hn hn2 => ?_⟩
  · refine b.fnew x (a.fnew x hf hn hx) (out x hx hn) ?_
    cases q : s.H x with
    | none => exact absurd q hx
    | some o => rw [a.keep x o q hn]; simp
  · by_cases h : n < N1
    · rw [b.l n h]
      exact a.lnew n hn h
    · have q := b.lnew n (Nat.le_of_not_lt h) hn2
      cases e : s.H (s2.L n) with
      | none => rfl
      | some o =>
        by_cases hm : ∃ m, m < N ∧ s.L m = s2.L n
        · obtain ⟨m, hm1, hm2⟩ := hm
          have := h1 m (Nat.lt_of_lt_of_le hm1 a.le)
          rw [a.l m hm1, hm2] at this
          exact absurd q this
        · have := a.keep _ o e (fun m hm1 hm2 => hm ⟨m, hm1, hm2⟩)
          rw [this] at q
          cases q

def excAt (K : PySem.W.Frag) (s : Wd) (v : V) (x : Exn) : Prop := ∃ a, v = .ref a ∧ s.F a = some (.ext fun h => ∃ (oe : Obj) (vs : Array Value) (d : Option Addr), h.get? a = some oe ∧ Zc (.ref x.c) d oe ∧ oe.data = .fields vs) ∧ True
/-- a value as it is seen in a world with N cells -/
def VR (K : PySem.W.Frag) (s : Wd) (N : Nat) (v : V) : EV → Prop
  | .dat d => DR K s.F v d
  | .loc n => n < N ∧ v = .ref (s.L n)
  | .new xs => ∃ p vs, v = .ref p ∧ s.H p = some (.lst vs) ∧ s.F p = none ∧ (∀ m, m < N → s.L m ≠ p) ∧ DRs K s.F vs xs
  | .raw u => v = u
  | .exc x => excAt K s v x
  | .ro xs => ∃ a vs, v = .ref a ∧ SqL K s.F a vs ∧ DRs K s.F vs xs
theorem VR.ext {K : PySem.W.Frag} {s s' : Wd} {N N' : Nat} {v : V} {e : EV} (h : VR K s N v e) (x : Ext s N s' N') : VR K s' N' v e := by
  cases e with
  | dat d => exact DR.mono x.f h
  | loc n => exact ⟨Nat.lt_of_lt_of_le h.1 x.le, by rw [x.l n h.1]; exact h.2⟩
  | new xs =>
    obtain ⟨p, vs, e1, e2, e3, e4, e5⟩ := h
    refine ⟨p, vs, e1, x.keep p _ e2 e4, x.fnew p e3 e4 (by rw [e2]; simp), fun m hm e => ?_, e5.mono x.f⟩
    by_cases q : m < N
    · exact e4 m q ((x.l m q).symm.trans e)
    · have := x.lnew m (Nat.le_of_not_lt q) hm
      rw [e, e2] at this
      cases this
  | raw u => exact h
  | exc y =>
    obtain ⟨a, e1, e2, e3⟩ := h
    exact ⟨a, e1, x.f _ _ e2, e3⟩
  | ro xs =>
    obtain ⟨a, vs, e1, e2, e3⟩ := h
    exact ⟨a, vs, e1, x.f.seq e2, e3.mono x.f⟩
/-- a list that nobody else has was not there ahead -/
def Frsh (H : Hp) (v : V) : EV → Prop
  | .new _ => ∀ p, v = .ref p → H p = none
  | _ => True
theorem Frsh.back {s s1 : Wd} {N N1 : Nat} {v : V} {e : EV} {K : PySem.W.Frag} (x : Ext s N s1 N1) (h : Frsh s1.H v e) (r : ∀ n, n < N1 → s1.H (s1.L n) ≠ none) : Frsh s.H v e := by
  cases e with
  | new xs =>
    intro p hp
    have q := h p hp
    cases e : s.H p with
    | none => rfl
    | some o =>
      by_cases hm : ∃ m, m < N ∧ s.L m = p
      · obtain ⟨m, hm1, hm2⟩ := hm
        have := r m (Nat.lt_of_lt_of_le hm1 x.le)
        rw [x.l m hm1, hm2] at this
        exact absurd q this
      · have := x.keep p o e (fun m hm1 hm2 => hm ⟨m, hm1, hm2⟩)
        rw [this] at q
        cases q
  | _ => trivial

/-- the slots -/
structure ER (K : PySem.W.Frag) (s : Wd) (N : Nat) (σ : L2.St) (η : DEnv) : Prop where
  len : σ.length = η.length
  get : ∀ (i : Nat) (e : EV), η[i]? = some (some e) → ∃ v, σ[i]? = some (some v) ∧ VR K s N v e
theorem ER.ext {K : PySem.W.Frag} {s s' : Wd} {N N' : Nat} {σ : L2.St} {η : DEnv} (h : ER K s N σ η) (x : Ext s N s' N') : ER K s' N' σ η :=
  ⟨h.len, fun i e q => let ⟨v, h1, h2⟩ := h.get i e q; ⟨v, h1, h2.ext x⟩⟩
theorem ER.set {K : PySem.W.Frag} {s : Wd} {N : Nat} {σ : L2.St} {η : DEnv} (h : ER K s N σ η) (i : Nat) {v : V} {e : EV} (r : VR K s N v e) : ER K s N (σ.set i (some v)) (η.set i (some e)) := by
  refine ⟨by simp [h.len], fun j e' q => ?_⟩
  by_cases hj : i = j
  · subst hj
    by_cases hl : i < η.length
    · rw [List.getElem?_set_self hl] at q
      cases q
      exact ⟨v, List.getElem?_set_self (by rw [h.len]; exact hl), r⟩
    · rw [List.getElem?_eq_none (by simpa using hl)] at q
      cases q
  · rw [List.getElem?_set_ne hj] at q
    obtain ⟨w, h1, h2⟩ := h.get j e' q
    exact ⟨w, by rw [List.getElem?_set_ne hj]; exact h1, h2⟩
theorem ER.wipe1 {K : PySem.W.Frag} {s : Wd} {N : Nat} {σ : L2.St} {η : DEnv} (h : ER K s N σ η) (i : Nat) : ER K s N (σ.set i none) (η.set i none) := by
  refine ⟨by simp [h.len], fun j e' q => ?_⟩
  by_cases hj : i = j
  · subst hj
    by_cases hl : i < η.length
    · rw [List.getElem?_set_self hl] at q
      cases q
    · rw [List.getElem?_eq_none (by simpa using hl)] at q
      cases q
  · rw [List.getElem?_set_ne hj] at q
    obtain ⟨w, h1, h2⟩ := h.get j e' q
    exact ⟨w, by rw [List.getElem?_set_ne hj]; exact h1, h2⟩
def wipeD (η : DEnv) : List Nat → DEnv
  | [] => η
  | v :: vs => (wipeD η vs).set v none
theorem ER.wipe {K : PySem.W.Frag} {s : Wd} {N : Nat} {σ : L2.St} {η : DEnv} (h : ER K s N σ η) : ∀ vs : List Nat, ER K s N (L2.wipe σ vs) (wipeD η vs)
  | [] => h
  | v :: vs => by
    unfold L2.wipe wipeD
    exact (ER.wipe h vs).wipe1 v
/-- fewer slots are known -/
theorem ER.sub {K : PySem.W.Frag} {s : Wd} {N : Nat} {σ : L2.St} {η η' : DEnv} (h : ER K s N σ η) (hl : η'.length = η.length) (hs : ∀ (i : Nat) (e : EV), η'[i]? = some (some e) → η[i]? = some (some e)) : ER K s N σ η' :=
  ⟨by rw [h.len, hl], fun i e q => h.get i e (hs i e q)⟩

/-! ### making cells, making still -/
section
variable {K : PySem.W.Frag} {s0 s : Wd} {N0 : Nat} {μ : Mu}
theorem cell_still {s : Wd} {a b : Addr} {vs : List V} {c : Cell} (h : CellAt K s b c) (ne : b ≠ a) (hn : s.F a = none) : CellAt K { s with F := upd s.F a (.lst vs) } b c := by
  have e : Same s.F (upd s.F a (.lst vs)) := fun x o q => by rw [upd_ne (ne_of_none q hn)]; exact q
  cases c with
  | lst xs => obtain ⟨h1, ws, h2, h3⟩ := h; exact ⟨(upd_ne ne).trans h1, ws, h2, h3.mono e⟩
  | frz xs => obtain ⟨ws, h2, h3⟩ := h; exact ⟨ws, e _ _ h2, h3.mono e⟩
  | dct kvs =>
    obtain ⟨h1, ⟨ks, h2, h3, h4⟩ | ⟨ks, h2, h3, h4⟩⟩ := h
    · exact ⟨(upd_ne ne).trans h1, .inl ⟨ks, h2, h3, h4.mono e⟩⟩
    · exact ⟨(upd_ne ne).trans h1, .inr ⟨ks, h2, h3, h4.mono e⟩⟩
  | dead => exact h
/-- a list that nobody else has becomes still -/
theorem still_new {p : Addr} {vs : List V} {xs : List PyData} (R : Rep K s μ) (x : Ext s0 N0 s μ.length) (hp : s.H p = some (.lst vs)) (hf : s.F p = none) (hl : ∀ m, m < μ.length → s.L m ≠ p) (hd : DRs K s.F vs xs) (h0 : s0.H p = none) :
    Rep K { s with F := upd s.F p (.lst vs) } μ ∧ Ext s0 N0 { s with F := upd s.F p (.lst vs) } μ.length ∧ DR K (upd s.F p (.lst vs)) (.ref p) (.list xs) := by
  have e : Same s.F (upd s.F p (.lst vs)) := fun y o q => by rw [upd_ne (ne_of_none q hf)]; exact q
  refine ⟨⟨fun a o q => ?_, fun n c q => cell_still (R.cell n c q) (hl n (List.getElem?_eq_some_iff.mp q).1) hf, R.inj⟩, ⟨fun a o q => e a o (x.f a o q), x.l, x.le, x.keep, fun a h1 h2 h3 => ?_, x.lnew⟩, .lst upd_same (hd.mono e)⟩
  · have q' : upd s.F p (.lst vs) a = some o := q
    by_cases ha : a = p
    · subst ha
      rw [upd_same] at q'
      cases q'
      exact hp
    · rw [upd_ne ha] at q'
      exact R.sub a o q'
  · have ha : a ≠ p := fun z => h3 (z ▸ h0)
    show upd s.F p (.lst vs) a = none
    rw [upd_ne ha]
    exact x.fnew a h1 h2 h3
/-- .. becomes a cell -/
theorem cell_new {p : Addr} {vs : List V} {xs : List PyData} (R : Rep K s μ) (x : Ext s0 N0 s μ.length) (hp : s.H p = some (.lst vs)) (hf : s.F p = none) (hl : ∀ m, m < μ.length → s.L m ≠ p) (hd : DRs K s.F vs xs) (h0 : s0.H p = none) :
    Rep K { s with L := fun n => if n = μ.length then p else s.L n } (μ ++ [.lst xs]) ∧ Ext s0 N0 { s with L := fun n => if n = μ.length then p else s.L n } (μ ++ [Cell.lst xs]).length := by
  refine ⟨⟨R.sub, fun n c q => ?_, fun m n hm hn e => ?_⟩, ⟨x.f, fun n hn => ?_, by simp; exact Nat.le_trans x.le (Nat.le_succ _), x.keep, x.fnew, fun n h1 h2 => ?_⟩⟩
  · by_cases hn : n = μ.length
    · subst hn
      simp at q
      subst q
      show CellAt K _ (if μ.length = μ.length then p else _) _
      rw [if_pos rfl]
      exact ⟨hf, vs, hp, hd⟩
    · have hlt : n < μ.length := by
        have := (List.getElem?_eq_some_iff.mp q).1
        simp at this
        omega
      rw [List.getElem?_append_left hlt] at q
      show CellAt K _ (if n = μ.length then p else s.L n) c
      rw [if_neg hn]
      have := R.cell n c q
      cases c <;> exact this
  · simp at hm hn
    have e' : (if m = μ.length then p else s.L m) = (if n = μ.length then p else s.L n) := e
    by_cases h1 : m = μ.length
    · by_cases h2 : n = μ.length
      · omega
      · rw [if_pos h1, if_neg h2] at e'
        exact absurd e'.symm (hl n (by omega))
    · by_cases h2 : n = μ.length
      · rw [if_neg h1, if_pos h2] at e'
        exact absurd e' (hl m (by omega))
      · rw [if_neg h1, if_neg h2] at e'
        exact R.inj m n (by omega) (by omega) e'
  · show (if n = μ.length then p else s.L n) = _
    rw [if_neg (by have := x.le; omega)]
    exact x.l n hn
  · show s0.H (if n = μ.length then p else s.L n) = none
    by_cases hn : n = μ.length
    · rw [if_pos hn]; exact h0
    · rw [if_neg hn]
      simp at h2
      exact x.lnew n h1 (by omega)
/-- a cell becomes still -/
theorem still_cell {n : Nat} {xs : List PyData} (R : Rep K s μ) (x : Ext s0 N0 s μ.length) (hn : μ[n]? = some (.lst xs)) :
    ∃ F', Rep K { s with F := F' } (μ.set n (.frz xs)) ∧ Ext s0 N0 { s with F := F' } (μ.set n (.frz xs)).length ∧ DR K F' (.ref (s.L n)) (.list xs) := by
  obtain ⟨hf, vs, hp, hd⟩ := R.cell n _ hn
  have hlt := (List.getElem?_eq_some_iff.mp hn).1
  have e : Same s.F (upd s.F (s.L n) (.lst vs)) := fun y o q => by rw [upd_ne (ne_of_none q hf)]; exact q
  refine ⟨upd s.F (s.L n) (.lst vs), ⟨fun a o q => ?_, fun m c q => ?_, fun i j hi hj => R.inj i j (by simpa using hi) (by simpa using hj)⟩, ⟨fun a o q => e a o (x.f a o q), x.l, by rw [List.length_set]; exact x.le, x.keep, fun a h1 h2 h3 => ?_, fun i h1 h2 => x.lnew i h1 (by simpa using h2)⟩, .lst upd_same (hd.mono e)⟩
  · by_cases ha : a = s.L n
    · subst ha
      have q' : upd s.F (s.L n) (.lst vs) (s.L n) = some o := q
      rw [upd_same] at q'
      cases q'
      exact hp
    · have q' : upd s.F (s.L n) (.lst vs) a = some o := q
      rw [upd_ne ha] at q'
      exact R.sub a o q'
  · by_cases hm : n = m
    · subst hm
      rw [List.getElem?_set_self hlt] at q
      cases q
      exact ⟨vs, upd_same, hd.mono e⟩
    · rw [List.getElem?_set_ne hm] at q
      exact cell_still (R.cell m c q) (fun z => hm (R.inj m n (List.getElem?_eq_some_iff.mp q).1 hlt z).symm) hf
  · by_cases ha : a = s.L n
    · exfalso
      have hN : ¬ n < N0 := fun z => h2 n z ((x.l n z).symm.trans ha.symm)
      have := x.lnew n (Nat.le_of_not_lt hN) hlt
      rw [← ha] at this
      exact h3 this
    · show upd s.F (s.L n) (.lst vs) a = none
      rw [upd_ne ha]
      exact x.fnew a h1 h2 h3
/-- only the first N cells are kept -/
theorem Rep.take (R : Rep K s μ) (N : Nat) : Rep K s (μ.take N) :=
  ⟨R.sub, fun n c q => R.cell n c (by
    rw [List.getElem?_take] at q
    split at q
    · exact q
    · cases q), fun m n hm hn => R.inj m n (by rw [List.length_take] at hm; omega) (by rw [List.length_take] at hn; omega)⟩
theorem Ext.take {N N' : Nat} (x : Ext s0 N0 s N) (h1 : N0 ≤ N') (h2 : N' ≤ N) : Ext s0 N0 s N' := ⟨x.f, x.l, h1, x.keep, x.fnew, fun n a b => x.lnew n a (by omega)⟩
end
end DL

set_option Elab.async false
set_option linter.all false
set_option maxRecDepth 100000
set_option maxHeartbeats 4000000
namespace DL
open PySem L2

abbrev PQ := EV → Mu → Prop
abbrev XQ := Exn → Mu → Prop
/-- what must hold of the slots and the store so that an expression gives what is wanted -/
abbrev TDE := DEnv → Mu → PQ → XQ → Prop
abbrev TDT := DEnv → Mu → (Bool → Mu → Prop) → XQ → Prop
abbrev TDA := DEnv → Mu → (List EV → Mu → Prop) → XQ → Prop
structure DEnds where
  nx : DEnv → Mu → Prop
  rt : EV → Mu → Prop
  bk : DEnv → Mu → Prop := fun _ _ => False
  ct : DEnv → Mu → Prop := fun _ _ => False
abbrev TDS := DEnds → XQ → DEnv → Mu → Prop

def XR (K : PySem.W.Frag) (s : Wd) (cls : Value) (d : Option Addr) (x : Exn) : Prop := cls = .ref x.c ∧ match x.fs, d with
  | none, none => True
  | some fs, some a => ∃ vs : List (Str × V), s.H a = some (.xd vs) ∧ vs.map (·.1) = fs.map (·.1) ∧ DRs K s.F (vs.map (·.2)) (fs.map (·.2))
  | _, _ => False

/-- the state of a body: world, store, slots -/
structure Sit (K : PySem.W.Frag) (s : Wd) (μ : Mu) (σ : L2.St) (η : DEnv) : Prop where
  rep : Rep K s μ
  er : ER K s μ.length σ η

def LE (K : PySem.W.Frag) (s : Wd) (N : Nat) (q : PQ) (Q : VK) : Prop := ∀ (e : EV) (μ' : Mu) (v : V) (s' : Wd), q e μ' → Ext s N s' μ'.length → Rep K s' μ' → VR K s' μ'.length v e → Frsh s.H v e → Q v s'.H
def LB (K : PySem.W.Frag) (s : Wd) (N : Nat) (q : Bool → Mu → Prop) (Q : Bool → Hp → Prop) : Prop := ∀ (b : Bool) (μ' : Mu) (s' : Wd), q b μ' → Ext s N s' μ'.length → Rep K s' μ' → Q b s'.H
inductive VRs (K : PySem.W.Frag) (s : Wd) (N : Nat) (H0 : Hp) : List V → List EV → Prop
  | nil : VRs K s N H0 [] []
  | cons {v : V} {vs : List V} {e : EV} {es : List EV} : VR K s N v e → Frsh H0 v e → VRs K s N H0 vs es → VRs K s N H0 (v :: vs) (e :: es)
def LA (K : PySem.W.Frag) (s : Wd) (N : Nat) (q : List EV → Mu → Prop) (Q : List V → Hp → Prop) : Prop := ∀ (es : List EV) (μ' : Mu) (vs : List V) (s' : Wd), q es μ' → Ext s N s' μ'.length → Rep K s' μ' → VRs K s' μ'.length s.H vs es → Q vs s'.H
def LX (K : PySem.W.Frag) (s : Wd) (N : Nat) (σ : L2.St) (E : XQ) (W : WX) : Prop := ∀ (x : Exn) (μ' : Mu) (cls : Value) (d : Option Addr) (s' : Wd), E x μ' → Ext s N s' μ'.length → Rep K s' μ' → XR K s' cls d x → W cls d σ s'.H

section
variable {K : PySem.W.Frag} {s s1 : Wd} {N N1 : Nat} {μ1 : Mu} {σ : L2.St}
theorem LE.go {q : PQ} {Q : VK} (h : LE K s N q Q) (x : Ext s N s1 μ1.length) (R : Rep K s1 μ1) : LE K s1 μ1.length q Q := fun e μ' v s' hq x' R' r f =>
  h e μ' v s' hq (x.trans x' fun n hn => R.here hn) R' r (f.back (K := K) x fun n hn => R.here hn)
theorem LB.go {q : Bool → Mu → Prop} {Q : Bool → Hp → Prop} (h : LB K s N q Q) (x : Ext s N s1 μ1.length) (R : Rep K s1 μ1) : LB K s1 μ1.length q Q := fun e μ' s' hq x' R' =>
  h e μ' s' hq (x.trans x' fun n hn => R.here hn) R'
theorem LX.go {E : XQ} {W : WX} (h : LX K s N σ E W) (x : Ext s N s1 μ1.length) (R : Rep K s1 μ1) : LX K s1 μ1.length σ E W := fun e μ' cls d s' hq x' R' r =>
  h e μ' cls d s' hq (x.trans x' fun n hn => R.here hn) R' r
theorem LX.none {W : WX} : LX K s N σ (fun _ _ => False) W := fun _ _ _ _ _ h => h.elim
theorem VRs.ext {s' : Wd} {N' : Nat} {H0 : Hp} {vs : List V} {es : List EV} (h : VRs K s N H0 vs es) (x : Ext s N s' N') : VRs K s' N' H0 vs es := by
  induction h with
  | nil => exact .nil
  | cons r f _ ih => exact .cons (r.ext x) f ih
theorem VRs.len {H0 : Hp} {vs : List V} {es : List EV} (h : VRs K s N H0 vs es) : vs.length = es.length := by
  induction h with
  | nil => rfl
  | cons _ _ _ ih => rw [List.length_cons, List.length_cons, ih]
theorem VRs.back {s0 : Wd} {N0 : Nat} {s' : Wd} {N' : Nat} {vs : List V} {es : List EV} (h : VRs K s' N' s1.H vs es) (x : Ext s0 N0 s1 N1) (r : ∀ n, n < N1 → s1.H (s1.L n) ≠ Option.none) : VRs K s' N' s0.H vs es := by
  induction h with
  | nil => exact .nil
  | cons a f _ ih => exact .cons a (f.back (K := K) x r) ih
end

/-- an expression by its data reading -/
structure DE (X : Cx) (W : WX) (e : Expr) (td : TDE) : Prop where
  ex : ∃ t : TE, PE X e t ∧ ∀ (s : Wd) (σ : L2.St) (η : DEnv) (μ : Mu) (Q : VK) (q : PQ) (E : XQ), Sit X.K s μ σ η → td η μ q E → LE X.K s μ.length q Q → LX X.K s μ.length σ E W → t σ s.H Q
structure DT (X : Cx) (W : WX) (e : Expr) (td : TDT) : Prop where
  ex : ∃ t : TT, PT X e t ∧ ∀ (s : Wd) (σ : L2.St) (η : DEnv) (μ : Mu) (Q : Bool → Hp → Prop) (q : Bool → Mu → Prop) (E : XQ), Sit X.K s μ σ η → td η μ q E → LB X.K s μ.length q Q → LX X.K s μ.length σ E W → t σ s.H Q
structure DW (X : Cx) (W : WX) (e : Expr) (td : TDT) : Prop where
  ex : ∃ t : TT, PW X e t ∧ ∀ (s : Wd) (σ : L2.St) (η : DEnv) (μ : Mu) (Q : Bool → Hp → Prop) (q : Bool → Mu → Prop) (E : XQ), Sit X.K s μ σ η → td η μ q E → LB X.K s μ.length q Q → LX X.K s μ.length σ E W → t σ s.H Q
structure DA (X : Cx) (W : WX) (es : List Expr) (td : TDA) : Prop where
  ex : ∃ t : TA, PA X es t ∧ ∀ (s : Wd) (σ : L2.St) (η : DEnv) (μ : Mu) (Q : List V → Hp → Prop) (q : List EV → Mu → Prop) (E : XQ), Sit X.K s μ σ η → td η μ q E → LA X.K s μ.length q Q → LX X.K s μ.length σ E W → t σ s.H Q

/-- what is wanted behind a statement, lifted -/
structure LS (K : PySem.W.Frag) (s : Wd) (N : Nat) (d : DEnds) (E : XQ) (D : Ends) (W : WX) : Prop where
  nx : ∀ (η' : DEnv) (μ' : Mu) (σ' : L2.St) (s' : Wd), d.nx η' μ' → Ext s N s' μ'.length → Sit K s' μ' σ' η' → D.nx σ' s'.H
  rt : LE K s N d.rt D.rt
  bk : ∀ (η' : DEnv) (μ' : Mu) (σ' : L2.St) (s' : Wd), d.bk η' μ' → Ext s N s' μ'.length → Sit K s' μ' σ' η' → D.bk σ' s'.H
  ct : ∀ (η' : DEnv) (μ' : Mu) (σ' : L2.St) (s' : Wd), d.ct η' μ' → Ext s N s' μ'.length → Sit K s' μ' σ' η' → D.ct σ' s'.H
  xq : ∀ (x : Exn) (μ' : Mu) (cls : Value) (dd : Option Addr) (σ' : L2.St) (s' : Wd), E x μ' → Ext s N s' μ'.length → Rep K s' μ' → XR K s' cls dd x → W cls dd σ' s'.H
structure DS (X : Cx) (W : WX) (st : Stmt) (td : TDS) : Prop where
  ex : ∃ t : TS, PS X st t ∧ ∀ (s : Wd) (σ : L2.St) (η : DEnv) (μ : Mu) (D : Ends) (d : DEnds) (E : XQ), Sit X.K s μ σ η → td d E η μ → LS X.K s μ.length d E D W → t D σ s.H
structure DSs (X : Cx) (W : WX) (st : List Stmt) (td : TDS) : Prop where
  ex : ∃ t : TS, PSs X st t ∧ ∀ (s : Wd) (σ : L2.St) (η : DEnv) (μ : Mu) (D : Ends) (d : DEnds) (E : XQ), Sit X.K s μ σ η → td d E η μ → LS X.K s μ.length d E D W → t D σ s.H

theorem LS.go {K : PySem.W.Frag} {s s1 : Wd} {N : Nat} {μ1 : Mu} {d : DEnds} {E : XQ} {D : Ends} {W : WX} (h : LS K s N d E D W) (x : Ext s N s1 μ1.length) (R : Rep K s1 μ1) : LS K s1 μ1.length d E D W :=
  ⟨fun η' μ' σ' s' q x' S => h.nx η' μ' σ' s' q (x.trans x' fun n hn => R.here hn) S, h.rt.go x R, fun η' μ' σ' s' q x' S => h.bk η' μ' σ' s' q (x.trans x' fun n hn => R.here hn) S,
   fun η' μ' σ' s' q x' S => h.ct η' μ' σ' s' q (x.trans x' fun n hn => R.here hn) S, fun y μ' cls dd σ' s' q x' R' r => h.xq y μ' cls dd σ' s' q (x.trans x' fun n hn => R.here hn) R' r⟩
theorem LS.lx {K : PySem.W.Frag} {s : Wd} {N : Nat} {d : DEnds} {E : XQ} {D : Ends} {W : WX} (h : LS K s N d E D W) (σ : L2.St) : LX K s N σ E W := fun x μ' cls dd s' q x' R r => h.xq x μ' cls dd σ s' q x' R r
theorem Sit.go {K : PySem.W.Frag} {s s1 : Wd} {μ μ1 : Mu} {σ : L2.St} {η : DEnv} (h : Sit K s μ σ η) (x : Ext s μ.length s1 μ1.length) (R : Rep K s1 μ1) : Sit K s1 μ1 σ η := ⟨R, h.er.ext x⟩

section
variable {X : Cx} {W : WX} {e a b : Expr} {ta tb te : TDE} {pos : Pos}
/-! ### names, constants -/
def dVar (i : Nat) : TDE := fun η μ q _ => match η[i]? with
  | some (some (.new _)) => False
  | some (some e) => q e μ
  | _ => False
def dC (d : PyData) : TDE := fun _ μ q _ => q (.dat d) μ
def dRaw (v : V) : TDE := fun _ μ q _ => q (.raw v) μ
theorem de_pe {t : TE} (h : PE X e t) (g : ∀ (s : Wd) (σ : L2.St) (η : DEnv) (μ : Mu) (Q : VK) (q : PQ) (E : XQ), Sit X.K s μ σ η → te η μ q E → LE X.K s μ.length q Q → LX X.K s μ.length σ E W → t σ s.H Q) : DE X W e te := ⟨t, h, g⟩
theorem de_var {i : Nat} (h : PE X e (tVar i)) : DE X W e (dVar i) := de_pe h fun s σ η μ Q q E S hq l _ => by
  unfold dVar at hq
  cases hi : η[i]? with
  | none => rw [hi] at hq; exact hq.elim
  | some o =>
    cases o with
    | none => rw [hi] at hq; exact hq.elim
    | some ev =>
      rw [hi] at hq
      obtain ⟨v, h1, h2⟩ := S.er.get i _ hi
      cases ev with
      | new xs => exact hq.elim
      | dat _ => exact ⟨v, h1, l _ μ v s hq (Ext.refl _ _) S.rep h2 trivial⟩
      | loc _ => exact ⟨v, h1, l _ μ v s hq (Ext.refl _ _) S.rep h2 trivial⟩
      | raw _ => exact ⟨v, h1, l _ μ v s hq (Ext.refl _ _) S.rep h2 trivial⟩
      | exc _ => exact ⟨v, h1, l _ μ v s hq (Ext.refl _ _) S.rep h2 trivial⟩
      | ro _ => exact ⟨v, h1, l _ μ v s hq (Ext.refl _ _) S.rep h2 trivial⟩
theorem de_c {v : V} {d : PyData} (h : PE X e (tC v)) (r : ∀ (K : PySem.W.Frag) (F : Hp), DR K F v d) : DE X W e (dC d) := de_pe h fun s σ η μ Q q E S hq l _ => l _ _ _ _ hq (Ext.refl _ _) S.rep (r _ _) trivial
theorem de_int {i j} : DE X W (.Constant (.int i) j pos) (dC (.int i)) := de_c pe_int fun _ _ => .int i
theorem de_bl {b j} : DE X W (.Constant (.bool b) j pos) (dC (.bool b)) := de_c pe_bl fun _ _ => .bl b
theorem de_non {j} : DE X W (.Constant .none j pos) (dC .none) := de_c pe_non fun _ _ => .non
theorem de_str {x j} (h : PyData.strOk x = true := by decide +kernel) : DE X W (.Constant (.str x) j pos) (dC (.str x)) := de_c pe_str fun _ _ => .str x h
theorem de_raw {v : V} (h : PE X e (tC v)) : DE X W e (dRaw v) := de_pe h fun s σ η μ Q q E S hq l _ => l _ _ _ _ hq (Ext.refl _ _) S.rep rfl trivial
/-- a module's constant that is data of the written part -/
theorem de_gd {v : V} {d : PyData} (h : PE X e (tC v)) (r : ∀ F : Hp, DR X.K F v d) : DE X W e (dC d) := de_pe h fun s σ η μ Q q E S hq l _ => l _ _ _ _ hq (Ext.refl _ _) S.rep (r _) trivial

/-! ### made still, made a cell -/
def toDat (μ : Mu) : EV → Option (PyData × Mu)
  | .dat d => some (d, μ)
  | .new xs => some (.list xs, μ)
  | .loc n => match μ[n]? with
    | some (.lst xs) => some (.list xs, μ.set n (.frz xs))
    | some (.frz xs) => some (.list xs, μ)
    | _ => none
  | _ => none
def withDat (μ : Mu) (e : EV) (k : PyData → Mu → Prop) : Prop := match toDat μ e with
  | some (d, μ') => k d μ'
  | none => False
/-- what is still -/
theorem still {K : PySem.W.Frag} {s0 s : Wd} {N0 : Nat} {μ : Mu} {e : EV} {v : V} {k : PyData → Mu → Prop} (R : Rep K s μ) (x : Ext s0 N0 s μ.length) (r : VR K s μ.length v e) (f : Frsh s0.H v e) (h : withDat μ e k) :
    ∃ d μ' F', k d μ' ∧ μ'.length = μ.length ∧ Rep K { s with F := F' } μ' ∧ Ext s0 N0 { s with F := F' } μ'.length ∧ DR K F' v d := by
  unfold withDat toDat at h
  cases e with
  | dat d => exact ⟨d, μ, s.F, h, rfl, R, x, r⟩
  | new xs =>
    obtain ⟨p, vs, rfl, h1, h2, h3, h4⟩ := r
    obtain ⟨a1, a2, a3⟩ := still_new R x h1 h2 h3 h4 (f p rfl)
    exact ⟨_, μ, _, h, rfl, a1, a2, a3⟩
  | loc n =>
    obtain ⟨hn, rfl⟩ := r
    simp only at h
    cases hc : μ[n]? with
    | none => rw [hc] at h; exact h.elim
    | some c =>
      rw [hc] at h
      cases c with
      | lst xs =>
        obtain ⟨F', a1, a2, a3⟩ := still_cell R x hc
        exact ⟨_, _, F', h, by simp, a1, a2, a3⟩
      | frz xs =>
        obtain ⟨vs, h1, h2⟩ := R.cell n _ hc
        exact ⟨_, μ, s.F, h, rfl, R, x, .lst h1 h2⟩
      | dct kvs => exact h.elim
      | dead => exact h.elim
  | raw v => exact h.elim
  | exc y => exact h.elim
  | ro y => exact h.elim
def dFrz (t : TDE) : TDE := fun η μ q E => t η μ (fun e μ1 => withDat μ1 e fun d μ2 => q (.dat d) μ2) E
def SemE (K : PySem.W.Frag) (W : WX) (t : TE) (td : TDE) : Prop := ∀ (s : Wd) (σ : L2.St) (η : DEnv) (μ : Mu) (Q : VK) (q : PQ) (E : XQ), Sit K s μ σ η → td η μ q E → LE K s μ.length q Q → LX K s μ.length σ E W → t σ s.H Q
theorem sem_frz {K : PySem.W.Frag} {t : TE} {td : TDE} (g : SemE K W t td) : SemE K W t (dFrz td) := fun s σ η μ Q q E S hq l lx => g s σ η μ Q _ E S hq (fun e μ' v s' hk x R r f => by
  obtain ⟨d, μ2, F', k, _, R2, x2, r2⟩ := still R x r f hk
  exact l (.dat d) μ2 v { s' with F := F' } k x2 R2 r2 trivial) lx
theorem de_frz (h : DE X W e te) : DE X W e (dFrz te) := by
  obtain ⟨t, hp, g⟩ := h.ex
  exact de_pe hp (sem_frz g)
def cellK (q : PQ) : PQ := fun e μ1 => match e with
  | .new xs => q (.loc μ1.length) (μ1 ++ [.lst xs])
  | e => q e μ1
def dCell (t : TDE) : TDE := fun η μ q E => t η μ (cellK q) E
theorem sem_cell {K : PySem.W.Frag} {t : TE} {td : TDE} (g : SemE K W t td) : SemE K W t (dCell td) := fun s σ η μ Q q E S hq l lx => g s σ η μ Q _ E S hq (fun e μ' v s' hk x R r f => by
  cases e with
  | new xs =>
    obtain ⟨p, vs, rfl, h1, h2, h3, h4⟩ := r
    obtain ⟨a1, a2⟩ := cell_new R x h1 h2 h3 h4 (f p rfl)
    refine l (.loc μ'.length) _ _ { s' with L := fun n => if n = μ'.length then p else s'.L n } hk a2 a1 ⟨by simp, ?_⟩ trivial
    show V.ref p = V.ref (if μ'.length = μ'.length then p else _)
    rw [if_pos rfl]
  | dat d => exact l _ _ _ _ hk x R r f
  | loc d => exact l _ _ _ _ hk x R r f
  | raw d => exact l _ _ _ _ hk x R r f
  | exc d => exact l _ _ _ _ hk x R r f
  | ro d => exact l _ _ _ _ hk x R r f) lx
theorem de_cell (h : DE X W e te) : DE X W e (dCell te) := by
  obtain ⟨t, hp, g⟩ := h.ex
  exact de_pe hp (sem_cell g)

/-! ### rows of expressions -/
def aNil : TDA := fun _ μ q _ => q [] μ
def aCons (t : TDE) (u : TDA) : TDA := fun η μ q E => t η μ (fun e μ1 => u η μ1 (fun es μ2 => q (e :: es) μ2) E) E
theorem da_nil : DA X W [] aNil := ⟨_, pa_nil, fun s σ η μ Q q E S hq l _ => l [] μ [] s hq (Ext.refl _ _) S.rep .nil⟩
theorem da_cons {es : List Expr} {u : TDA} (h : DE X W e te) (hr : DA X W es u) (hs : starEach (e :: es) X.env = (false, eval e X.env) :: starEach es X.env := by rfl) : DA X W (e :: es) (aCons te u) := by
  obtain ⟨t1, p1, g1⟩ := h.ex
  obtain ⟨t2, p2, g2⟩ := hr.ex
  refine ⟨_, pa_cons p1 p2 hs, fun s σ η μ Q q E S hq l lx => ?_⟩
  refine g1 s σ η μ _ _ E S hq (fun ev μ1 v s1 hq1 x1 R1 r1 f1 => ?_) lx
  refine g2 s1 σ η μ1 _ _ E (S.go x1 R1) hq1 (fun es' μ2 vs s2 hq2 x2 R2 r2 => ?_) (lx.go x1 R1)
  have h1 := fun n (hn : n < μ1.length) => R1.here hn
  exact l _ _ _ _ hq2 (x1.trans x2 h1) R2 (.cons (r1.ext x2) f1 (r2.back x1 h1))
/-- the data of a row -/
def datsOf : List EV → Option (List PyData)
  | [] => some []
  | .dat d :: es => (datsOf es).map (d :: ·)
  | _ :: _ => none
theorem datsOf_rs {K : PySem.W.Frag} {s : Wd} {N : Nat} {H0 : Hp} : ∀ {vs : List V} {es : List EV} {ds : List PyData}, VRs K s N H0 vs es → datsOf es = some ds → DRs K s.F vs ds
  | _, _, _, .nil, h => by cases h; exact .nil
  | _, _, _, .cons (e := e) r _ rs, h => by
    cases e with
    | dat d =>
      unfold datsOf at h
      rename_i vs es _
      cases q : datsOf es with
      | none => rw [q] at h; cases h
      | some ds' =>
        rw [q] at h
        cases h
        exact .cons r (datsOf_rs rs q)
    | _ => cases h
def withDats (es : List EV) (k : List PyData → Prop) : Prop := match datsOf es with
  | some ds => k ds
  | none => False
theorem withDats_ex {es : List EV} {k : List PyData → Prop} (h : withDats es k) : ∃ ds, datsOf es = some ds ∧ k ds := by
  unfold withDats at h
  split at h
  · exact ⟨_, by assumption, h⟩
  · exact h.elim
/-- a new object stands beside -/
theorem Rep.put {K : PySem.W.Frag} {s : Wd} {μ : Mu} {p : Addr} {o : HO} (R : Rep K s μ) (hp : s.H p = none) : Rep K { s with H := upd s.H p o } μ := by
  have k : Same s.H (upd s.H p o) := fun a u q => by rw [upd_ne (ne_of_none q hp)]; exact q
  refine ⟨fun a u q => k a u (R.sub a u q), fun n c q => ?_, R.inj⟩
  have := R.cell n c q
  cases c with
  | lst xs => obtain ⟨h1, vs, h2, h3⟩ := this; exact ⟨h1, vs, k _ _ h2, h3⟩
  | frz xs => exact this
  | dct kvs =>
    obtain ⟨h1, ⟨ks, h2, h3, h4⟩ | ⟨ks, h2, h3, h4⟩⟩ := this
    · exact ⟨h1, .inl ⟨ks, k _ _ h2, h3, h4⟩⟩
    · exact ⟨h1, .inr ⟨ks, k _ _ h2, h3, h4⟩⟩
  | dead =>
    intro z
    have z' : upd s.H p o (s.L n) = none := z
    cases e : s.H (s.L n) with
    | none => exact this e
    | some u => rw [k _ _ e] at z'; cases z'
theorem Rep.notF {K : PySem.W.Frag} {s : Wd} {μ : Mu} {p : Addr} (R : Rep K s μ) (hp : s.H p = none) : s.F p = none := by
  cases e : s.F p with
  | none => rfl
  | some o => rw [R.sub p o e] at hp; cases hp
theorem Rep.notL {K : PySem.W.Frag} {s : Wd} {μ : Mu} {p : Addr} (R : Rep K s μ) (hp : s.H p = none) : ∀ m, m < μ.length → s.L m ≠ p := fun m hm e => R.here hm (e ▸ hp)
theorem Ext.put {K : PySem.W.Frag} {s0 s : Wd} {N0 : Nat} {μ : Mu} {p : Addr} {o : HO} (x : Ext s0 N0 s μ.length) (R : Rep K s μ) (hp : s.H p = none) : Ext s0 N0 { s with H := upd s.H p o } μ.length :=
  ⟨x.f, x.l, x.le, fun a u q hn => by
    have q' := x.keep a u q hn
    show upd s.H p o a = some u
    rw [upd_ne (ne_of_none q' hp)]
    exact q', x.fnew, x.lnew⟩
/-- fresh now, fresh ahead -/
theorem Ext.fresh {K : PySem.W.Frag} {s0 s : Wd} {N0 : Nat} {μ : Mu} {p : Addr} (x : Ext s0 N0 s μ.length) (R : Rep K s μ) (hp : s.H p = none) : s0.H p = none := by
  have : Frsh s0.H (.ref p) (.new []) := Frsh.back (K := K) x (s1 := s) (v := .ref p) (e := .new []) (fun q hq => by cases hq; exact hp) fun n hn => R.here hn
  exact this p rfl
/-- [a, b, ..]: a list that nobody else has; the items still -/
def dLst (t : TDA) : TDE := fun η μ q E => t η μ (fun es μ1 => withDats es fun ds => ds.length ≤ 100000 ∧ q (.new ds) μ1) E
def dTup (t : TDA) : TDE := fun η μ q E => t η μ (fun es μ1 => withDats es fun ds => ds.length ≤ 100000 ∧ q (.dat (.tuple ds)) μ1) E
theorem line_of {n : Nat} (h : n ≤ 100000) : n ≤ sizeLine := Nat.le_trans h (by decide)
theorem de_lst {es : List Expr} {t : TDA} (h : DA X W es t) : DE X W (.List es pos) (dLst t) := by
  obtain ⟨t1, p1, g1⟩ := h.ex
  refine de_pe (pe_lst p1) fun s σ η μ Q q E S hq l lx => ?_
  refine g1 s σ η μ _ _ E S hq (fun es' μ1 vs s1 hq1 x1 R1 r1 => ?_) lx
  obtain ⟨ds, e1, hz, hq1⟩ := withDats_ex hq1
  have d := datsOf_rs r1 e1
  refine ⟨line_of (by rw [d.length]; exact hz), fun p hp => ?_⟩
  exact l (.new ds) μ1 (.ref p) { s1 with H := upd s1.H p (.lst vs) } hq1 (x1.put R1 hp) (R1.put hp) ⟨p, vs, rfl, upd_same, R1.notF hp, R1.notL hp, d⟩ (fun y hy => by cases hy; exact x1.fresh R1 hp)
/-- a new still object -/
theorem Rep.putF {K : PySem.W.Frag} {s : Wd} {μ : Mu} {p : Addr} {o : HO} (R : Rep K s μ) (hp : s.H p = none) : Rep K { s with H := upd s.H p o, F := upd s.F p o } μ := by
  have k : Same s.H (upd s.H p o) := fun a u q => by rw [upd_ne (ne_of_none q hp)]; exact q
  have kF : Same s.F (upd s.F p o) := fun a u q => by rw [upd_ne (ne_of_none q (R.notF hp))]; exact q
  refine ⟨fun a u q => ?_, fun n c q => ?_, R.inj⟩
  · have q' : upd s.F p o a = some u := q
    show upd s.H p o a = some u
    by_cases ha : a = p
    · subst ha
      rw [upd_same] at q' ⊢
      exact q'
    · rw [upd_ne ha] at q' ⊢
      exact R.sub a u q'
  · have hn := (List.getElem?_eq_some_iff.mp q).1
    have ne := R.notL hp n hn
    have := R.cell n c q
    cases c with
    | lst xs => obtain ⟨h1, vs, h2, h3⟩ := this; exact ⟨(upd_ne ne).trans h1, vs, k _ _ h2, h3.mono kF⟩
    | frz xs => obtain ⟨vs, h2, h3⟩ := this; exact ⟨vs, kF _ _ h2, h3.mono kF⟩
    | dct kvs =>
      obtain ⟨h1, ⟨ks, h2, h3, h4⟩ | ⟨ks, h2, h3, h4⟩⟩ := this
      · exact ⟨(upd_ne ne).trans h1, .inl ⟨ks, k _ _ h2, h3, h4.mono kF⟩⟩
      · exact ⟨(upd_ne ne).trans h1, .inr ⟨ks, k _ _ h2, h3, h4.mono kF⟩⟩
    | dead =>
      intro z
      have z' : upd s.H p o (s.L n) = none := z
      cases e : s.H (s.L n) with
      | none => exact this e
      | some u => rw [k _ _ e] at z'; cases z'
theorem Ext.putF {K : PySem.W.Frag} {s0 s : Wd} {N0 : Nat} {μ : Mu} {p : Addr} {o : HO} (x : Ext s0 N0 s μ.length) (R : Rep K s μ) (hp : s.H p = none) : Ext s0 N0 { s with H := upd s.H p o, F := upd s.F p o } μ.length := by
  have kF : Same s.F (upd s.F p o) := fun a u q => by rw [upd_ne (ne_of_none q (R.notF hp))]; exact q
  have h0 := x.fresh R hp
  refine ⟨fun a u q => kF a u (x.f a u q), x.l, x.le, fun a u q hn => ?_, fun a h1 h2 h3 => ?_, x.lnew⟩
  · have q' := x.keep a u q hn
    show upd s.H p o a = some u
    rw [upd_ne (ne_of_none q' hp)]
    exact q'
  · show upd s.F p o a = none
    rw [upd_ne (fun z => h3 (by rw [z]; exact h0))]
    exact x.fnew a h1 h2 h3
theorem de_tup {es : List Expr} {x1} {t : TDA} (h : DA X W es t) : DE X W (.Tuple es x1 pos) (dTup t) := by
  obtain ⟨t1, p1, g1⟩ := h.ex
  refine de_pe (pe_tup p1) fun s σ η μ Q q E S hq l lx => ?_
  refine g1 s σ η μ _ _ E S hq (fun es' μ1 vs s1 hq1 x1 R1 r1 => ?_) lx
  obtain ⟨ds, e1, hz, hq1⟩ := withDats_ex hq1
  have d := datsOf_rs r1 e1
  refine ⟨line_of (by rw [d.length]; exact hz), fun p hp => ?_⟩
  have kF : Same s1.F (upd s1.F p (.tup vs)) := fun a u q => by rw [upd_ne (ne_of_none q (R1.notF hp))]; exact q
  exact l (.dat (.tuple ds)) μ1 (.ref p) _ hq1 (x1.putF R1 hp) (R1.putF hp) (.tup (SqT.of upd_same) (d.mono kF)) trivial
end
end DL

set_option Elab.async false
set_option linter.all false
set_option maxRecDepth 100000
set_option maxHeartbeats 4000000
namespace DL
open PySem L2
section
variable {X : Cx} {W : WX} {e a b c : Expr} {ta tb te : TDE} {pos : Pos} {rest : List Expr} {tA tB' : TDT}

/-! ### tests -/
def withB (e : EV) (k : Bool → Prop) : Prop := match e with
  | .dat (.bool b) => k b
  | _ => False
theorem withB_ex {e : EV} {k : Bool → Prop} (h : withB e k) : ∃ b, e = .dat (.bool b) ∧ k b := by
  unfold withB at h
  split at h
  · exact ⟨_, rfl, h⟩
  · exact h.elim
theorem vr_b {K : PySem.W.Frag} {s : Wd} {N : Nat} {v : V} {b : Bool} (r : VR K s N v (.dat (.bool b))) : v = .bl b := by
  have r' : DR K s.F v (.bool b) := r
  cases r'
  rfl
theorem vr_i {K : PySem.W.Frag} {s : Wd} {N : Nat} {v : V} {b : Int} (r : VR K s N v (.dat (.int b))) : v = .int b := by
  have r' : DR K s.F v (.int b) := r
  cases r'
  rfl
theorem vr_s {K : PySem.W.Frag} {s : Wd} {N : Nat} {v : V} {b : Str} (r : VR K s N v (.dat (.str b))) : v = .str b := by
  have r' : DR K s.F v (.str b) := r
  cases r'
  rfl
theorem vr_n {K : PySem.W.Frag} {s : Wd} {N : Nat} {v : V} (r : VR K s N v (.dat .none)) : v = .non := by
  have r' : DR K s.F v .none := r
  cases r'
  rfl
def tVal (t : TDE) : TDT := fun η μ q E => t η μ (fun e μ1 => withB e fun b => q b μ1) E
theorem dt_val (h : DE X W e te) (he : ∀ whole, isTrue e X.env whole = (do let v ← whole; standAt e.pos; holding [v] (truthy v)) := by intro _; rfl) : DT X W e (tVal te) := by
  obtain ⟨t, p, g⟩ := h.ex
  refine ⟨_, pt_val p he, fun s σ η μ Q q E S hq l lx => g s σ η μ _ _ E S hq (fun ev μ' v s' hk x R r f => ?_) lx⟩
  obtain ⟨b, rfl, hk⟩ := withB_ex hk
  exact ⟨b, vr_b r, l b μ' s' hk x R⟩
def tAndD (t u : TDT) : TDT := fun η μ q E => t η μ (fun b μ1 => if b = true then u η μ1 q E else q false μ1) E
def tOrD (t u : TDT) : TDT := fun η μ q E => t η μ (fun b μ1 => if b = true then q true μ1 else u η μ1 q E) E
def tNotD (t : TDT) : TDT := fun η μ q E => t η μ (fun b μ1 => q (!b) μ1) E
theorem dw_and1 (ha : DT X W a tA) : DW X W (.BoolOp .And [a] pos) tA := by
  obtain ⟨t, p, g⟩ := ha.ex
  exact ⟨t, pw_and1 p, g⟩
theorem dw_or1 (ha : DT X W a tA) : DW X W (.BoolOp .Or [a] pos) tA := by
  obtain ⟨t, p, g⟩ := ha.ex
  exact ⟨t, pw_or1 p, g⟩
theorem dw_and (ha : DT X W a tA) (hb : DW X W (.BoolOp .And (b :: rest) pos) tB') : DW X W (.BoolOp .And (a :: b :: rest) pos) (tAndD tA tB') := by
  obtain ⟨t, p, g⟩ := ha.ex
  obtain ⟨u, p2, g2⟩ := hb.ex
  refine ⟨_, pw_and p p2, fun s σ η μ Q q E S hq l lx => g s σ η μ _ _ E S hq (fun k μ' s' hk x R => ?_) lx⟩
  cases k with
  | true => exact g2 s' σ η μ' Q q E (S.go x R) hk (l.go x R) (lx.go x R)
  | false => exact l false μ' s' hk x R
theorem dw_or (ha : DT X W a tA) (hb : DW X W (.BoolOp .Or (b :: rest) pos) tB') : DW X W (.BoolOp .Or (a :: b :: rest) pos) (tOrD tA tB') := by
  obtain ⟨t, p, g⟩ := ha.ex
  obtain ⟨u, p2, g2⟩ := hb.ex
  refine ⟨_, pw_or p p2, fun s σ η μ Q q E S hq l lx => g s σ η μ _ _ E S hq (fun k μ' s' hk x R => ?_) lx⟩
  cases k with
  | true => exact l true μ' s' hk x R
  | false => exact g2 s' σ η μ' Q q E (S.go x R) hk (l.go x R) (lx.go x R)
theorem DW.dt (h : DW X W e tA) : DT X W e tA := by
  obtain ⟨t, p, g⟩ := h.ex
  exact ⟨t, p.pt, g⟩
theorem dt_not (ha : DT X W a tA) : DT X W (.UnaryOp .Not a pos) (tNotD tA) := by
  obtain ⟨t, p, g⟩ := ha.ex
  exact ⟨_, pt_not p, fun s σ η μ Q q E S hq l lx => g s σ η μ _ _ E S hq (fun k μ' s' hk x R => l (!k) μ' s' hk x R) lx⟩
/-! .. as values -/
def dAndV (t u : TDE) : TDE := fun η μ q E => t η μ (fun e μ1 => withB e fun b => if b = true then u η μ1 q E else q (.dat (.bool false)) μ1) E
def dOrV (t u : TDE) : TDE := fun η μ q E => t η μ (fun e μ1 => withB e fun b => if b = true then q (.dat (.bool true)) μ1 else u η μ1 q E) E
def dNotV (t : TDE) : TDE := fun η μ q E => t η μ (fun e μ1 => withB e fun b => q (.dat (.bool (!b))) μ1) E
theorem de_one {op} (h : DE X W a te) : DE X W (.BoolOp op [a] pos) te := by
  obtain ⟨t, p, g⟩ := h.ex
  exact ⟨t, pe_one p, g⟩
theorem de_and (ha : DE X W a ta) (hb : DE X W (.BoolOp .And (b :: rest) pos) tb) : DE X W (.BoolOp .And (a :: b :: rest) pos) (dAndV ta tb) := by
  obtain ⟨t, p, g⟩ := ha.ex
  obtain ⟨u, p2, g2⟩ := hb.ex
  refine de_pe (pe_and p p2) fun s σ η μ Q q E S hq l lx => g s σ η μ _ _ E S hq (fun ev μ' v s' hk x R r f => ?_) lx
  obtain ⟨k, rfl, hk⟩ := withB_ex hk
  refine ⟨k, vr_b r, ?_⟩
  cases k with
  | true => exact g2 s' σ η μ' Q q E (S.go x R) hk (l.go x R) (lx.go x R)
  | false => exact l _ μ' _ s' hk x R (.bl false) trivial
theorem de_or (ha : DE X W a ta) (hb : DE X W (.BoolOp .Or (b :: rest) pos) tb) : DE X W (.BoolOp .Or (a :: b :: rest) pos) (dOrV ta tb) := by
  obtain ⟨t, p, g⟩ := ha.ex
  obtain ⟨u, p2, g2⟩ := hb.ex
  refine de_pe (pe_or p p2) fun s σ η μ Q q E S hq l lx => g s σ η μ _ _ E S hq (fun ev μ' v s' hk x R r f => ?_) lx
  obtain ⟨k, rfl, hk⟩ := withB_ex hk
  refine ⟨k, vr_b r, ?_⟩
  cases k with
  | true => exact l _ μ' _ s' hk x R (.bl true) trivial
  | false => exact g2 s' σ η μ' Q q E (S.go x R) hk (l.go x R) (lx.go x R)
theorem de_not (ha : DE X W a ta) : DE X W (.UnaryOp .Not a pos) (dNotV ta) := by
  obtain ⟨t, p, g⟩ := ha.ex
  refine de_pe (pe_not p) fun s σ η μ Q q E S hq l lx => g s σ η μ _ _ E S hq (fun ev μ' v s' hk x R r f => ?_) lx
  obtain ⟨k, rfl, hk⟩ := withB_ex hk
  exact ⟨k, vr_b r, l _ μ' _ s' hk x R (.bl _) trivial⟩
def dIfE (t : TDT) (ta tb : TDE) : TDE := fun η μ q E => t η μ (fun b μ1 => if b = true then ta η μ1 q E else tb η μ1 q E) E
theorem de_ifExp (hc : DT X W c tA) (ha : DE X W a ta) (hb : DE X W b tb) : DE X W (.IfExp c a b pos) (dIfE tA ta tb) := by
  obtain ⟨t, p, g⟩ := hc.ex
  obtain ⟨t1, p1, g1⟩ := ha.ex
  obtain ⟨t2, p2, g2⟩ := hb.ex
  refine de_pe (pe_ifExp p p1 p2) fun s σ η μ Q q E S hq l lx => g s σ η μ _ _ E S hq (fun k μ' s' hk x R => ?_) lx
  cases k with
  | true => exact g1 s' σ η μ' Q q E (S.go x R) hk (l.go x R) (lx.go x R)
  | false => exact g2 s' σ η μ' Q q E (S.go x R) hk (l.go x R) (lx.go x R)

/-! ### operators, by values -/
abbrev OD := EV → EV → Mu → PQ → Prop
def OpS (K : PySem.W.Frag) (r : R2) (o : OD) : Prop := ∀ (s0 : Wd) (N0 : Nat) (s : Wd) (μ : Mu) (x y : V) (ex ey : EV) (q : PQ) (Q : VK), Rep K s μ → Ext s0 N0 s μ.length → VR K s μ.length x ex → Frsh s0.H x ex → VR K s μ.length y ey → Frsh s0.H y ey →
  o ex ey μ q → LE K s0 N0 q Q → r x y s.H Q
def dOp (o : OD) (ta tb : TDE) : TDE := fun η μ q E => ta η μ (fun x μ1 => tb η μ1 (fun y μ2 => o x y μ2 q) E) E
theorem de_op {op : Operator} {r : R2} {o : OD} (ho : OpR X (binaryOp op) r) (hs : OpS X.K r o) (ha : DE X W a ta) (hb : DE X W b tb) : DE X W (.BinOp a op b pos) (dOp o ta tb) := by
  obtain ⟨t1, p1, g1⟩ := ha.ex
  obtain ⟨t2, p2, g2⟩ := hb.ex
  refine de_pe (pe_op ho p1 p2) fun s σ η μ Q q E S hq l lx => g1 s σ η μ _ _ E S hq (fun ex μ1 x s1 hk1 x1 R1 r1 f1 => ?_) lx
  refine g2 s1 σ η μ1 _ _ E (S.go x1 R1) hk1 (fun ey μ2 y s2 hk2 x2 R2 r2 f2 => ?_) (lx.go x1 R1)
  have h1 := fun n (hn : n < μ1.length) => R1.here hn
  exact hs s _ s2 μ2 x y ex ey q Q R2 (x1.trans x2 h1) (r1.ext x2) f1 r2 (f2.back (K := X.K) x1 h1) hk2 l
theorem de_cmp {op : CmpOp} {r : R2} {o : OD} (ho : OpR X (compareOp op) r) (hs : OpS X.K r o) (ha : DE X W a ta) (hb : DE X W b tb) (hm : behindInMarks op b = false) : DE X W (.Compare a [op] [b] pos) (dOp o ta tb) := by
  obtain ⟨t1, p1, g1⟩ := ha.ex
  obtain ⟨t2, p2, g2⟩ := hb.ex
  refine de_pe (pe_cmpR ho p1 p2 hm) fun s σ η μ Q q E S hq l lx => g1 s σ η μ _ _ E S hq (fun ex μ1 x s1 hk1 x1 R1 r1 f1 => ?_) lx
  refine g2 s1 σ η μ1 _ _ E (S.go x1 R1) hk1 (fun ey μ2 y s2 hk2 x2 R2 r2 f2 => ?_) (lx.go x1 R1)
  have h1 := fun n (hn : n < μ1.length) => R1.here hn
  exact hs s _ s2 μ2 x y ex ey q Q R2 (x1.trans x2 h1) (r1.ext x2) f1 r2 (f2.back (K := X.K) x1 h1) hk2 l
theorem dt_cmp {op : CmpOp} {r : R2} {o : OD} (ho : OpR X (compareOp op) r) (hs : OpS X.K r o) (ha : DE X W a ta) (hb : DE X W b tb) (hm : behindInMarks op b = false) : DT X W (.Compare a [op] [b] pos) (tVal (dOp o ta tb)) := by
  obtain ⟨t1, p1, g1⟩ := ha.ex
  obtain ⟨t2, p2, g2⟩ := hb.ex
  refine ⟨_, pt_cmpR ho p1 p2 hm, fun s σ η μ Q q E S hq l lx => g1 s σ η μ _ _ E S hq (fun ex μ1 x s1 hk1 x1 R1 r1 f1 => ?_) lx⟩
  refine g2 s1 σ η μ1 _ _ E (S.go x1 R1) hk1 (fun ey μ2 y s2 hk2 x2 R2 r2 f2 => ?_) (lx.go x1 R1)
  have h1 := fun n (hn : n < μ1.length) => R1.here hn
  refine hs s _ s2 μ2 x y ex ey _ _ R2 (x1.trans x2 h1) (r1.ext x2) f1 r2 (f2.back (K := X.K) x1 h1) hk2 fun ev μ' v s' hk x' R r f => ?_
  obtain ⟨k, rfl, hk⟩ := withB_ex hk
  exact ⟨k, vr_b r, l k μ' s' hk x' R⟩
def noNew : EV → Bool
  | .new _ => false
  | _ => true
theorem frsh_of {H : Hp} {v : V} {e : EV} (h : noNew e = true) : Frsh H v e := by
  cases e with
  | new _ => cases h
  | _ => trivial
/-- a < b < c -/
def dChain (o o' : OD) (ta tb tc : TDE) : TDE := fun η μ q E => ta η μ (fun x μ1 => tb η μ1 (fun y μ2 => noNew x = true ∧ noNew y = true ∧ o x y μ2 fun z μ3 => withB z fun k => if k = true then tc η μ3 (fun w μ4 => o' y w μ4 q) E else q (.dat (.bool false)) μ3) E) E
theorem chain_ok {r r' : R2} {o o' : OD} {tc : TDE} {t1 t2 t3 : TE} (hs : OpS X.K r o) (hs' : OpS X.K r' o')
    (g1 : ∀ (s : Wd) (σ : L2.St) (η : DEnv) (μ : Mu) (Q : VK) (q : PQ) (E : XQ), Sit X.K s μ σ η → ta η μ q E → LE X.K s μ.length q Q → LX X.K s μ.length σ E W → t1 σ s.H Q)
    (g2 : ∀ (s : Wd) (σ : L2.St) (η : DEnv) (μ : Mu) (Q : VK) (q : PQ) (E : XQ), Sit X.K s μ σ η → tb η μ q E → LE X.K s μ.length q Q → LX X.K s μ.length σ E W → t2 σ s.H Q)
    (g3 : ∀ (s : Wd) (σ : L2.St) (η : DEnv) (μ : Mu) (Q : VK) (q : PQ) (E : XQ), Sit X.K s μ σ η → tc η μ q E → LE X.K s μ.length q Q → LX X.K s μ.length σ E W → t3 σ s.H Q)
    (s : Wd) (σ : L2.St) (η : DEnv) (μ : Mu) (Q : VK) (q : PQ) (E : XQ) (S : Sit X.K s μ σ η) (hq : dChain o o' ta tb tc η μ q E) (l : LE X.K s μ.length q Q) (lx : LX X.K s μ.length σ E W) : tChain r r' t1 t2 t3 σ s.H Q := by
  refine g1 s σ η μ _ _ E S hq (fun ex μ1 x s1 hk1 x1 R1 r1 f1 => ?_) lx
  refine g2 s1 σ η μ1 _ _ E (S.go x1 R1) hk1 (fun ey μ2 y s2 hk2 x2 R2 r2 f2 => ?_) (lx.go x1 R1)
  obtain ⟨nx, ny, hk2⟩ := hk2
  have h1 := fun n (hn : n < μ1.length) => R1.here hn
  have x12 := x1.trans x2 h1
  refine hs s2 _ s2 μ2 x y ex ey _ _ R2 (Ext.refl _ _) (r1.ext x2) (frsh_of nx) r2 (frsh_of ny) hk2 fun ez μ3 z s3 hk3 x3 R3 r3 f3 => ?_
  obtain ⟨k, rfl, hk3⟩ := withB_ex hk3
  refine ⟨k, vr_b r3, ?_⟩
  have h2 := fun n (hn : n < μ2.length) => R2.here hn
  have x13 := x12.trans x3 h2
  cases k with
  | false => exact l _ μ3 _ s3 hk3 x13 R3 (.bl false) trivial
  | true =>
    refine g3 s3 σ η μ3 _ _ E (S.go x13 R3) hk3 (fun ew μ4 w s4 hk4 x4 R4 r4 f4 => ?_) (lx.go x13 R3)
    exact hs' s3 _ s4 μ4 y w ey ew q Q R4 x4 ((r2.ext x3).ext x4) (frsh_of ny) r4 f4 hk4 (l.go x13 R3)
theorem de_chain {op op' : CmpOp} {r r' : R2} {o o' : OD} {tc : TDE} (ho : OpR X (compareOp op) r) (hs : OpS X.K r o) (ho' : OpR X (compareOp op') r') (hs' : OpS X.K r' o') (ha : DE X W a ta) (hb : DE X W b tb) (hc : DE X W c tc)
    (hm : lastMarks [op, op'] [b, c] = false := by with_unfolding_all rfl) : DE X W (.Compare a [op, op'] [b, c] pos) (dChain o o' ta tb tc) := by
  obtain ⟨t1, p1, g1⟩ := ha.ex
  obtain ⟨t2, p2, g2⟩ := hb.ex
  obtain ⟨t3, p3, g3⟩ := hc.ex
  exact de_pe (pe_chain ho ho' p1 p2 p3 hm) (chain_ok hs hs' g1 g2 g3)
theorem dt_chain {op op' : CmpOp} {r r' : R2} {o o' : OD} {tc : TDE} (ho : OpR X (compareOp op) r) (hs : OpS X.K r o) (ho' : OpR X (compareOp op') r') (hs' : OpS X.K r' o') (ha : DE X W a ta) (hb : DE X W b tb) (hc : DE X W c tc)
    (hm : lastMarks [op, op'] [b, c] = false := by with_unfolding_all rfl) : DT X W (.Compare a [op, op'] [b, c] pos) (tVal (dChain o o' ta tb tc)) := by
  obtain ⟨t1, p1, g1⟩ := ha.ex
  obtain ⟨t2, p2, g2⟩ := hb.ex
  obtain ⟨t3, p3, g3⟩ := hc.ex
  refine ⟨_, pt_chain ho ho' p1 p2 p3 hm, fun s σ η μ Q q E S hq l lx => ?_⟩
  refine chain_ok hs hs' g1 g2 g3 s σ η μ _ _ E S hq (fun ev μ' v s' hk x R r f => ?_) lx
  obtain ⟨k, rfl, hk⟩ := withB_ex hk
  exact ⟨k, vr_b r, l k μ' s' hk x R⟩

/-! ### one-place operators, built-in calls by values -/
abbrev UD := EV → Mu → PQ → Prop
def UnS (K : PySem.W.Frag) (r : V → Hp → VK → Prop) (o : UD) : Prop := ∀ (s0 : Wd) (N0 : Nat) (s : Wd) (μ : Mu) (x : V) (ex : EV) (q : PQ) (Q : VK), Rep K s μ → Ext s0 N0 s μ.length → VR K s μ.length x ex → Frsh s0.H x ex → o ex μ q → LE K s0 N0 q Q → r x s.H Q
def dUn (o : UD) (ta : TDE) : TDE := fun η μ q E => ta η μ (fun x μ1 => o x μ1 q) E
theorem de_un {op : UnaryOp} {r : V → Hp → VK → Prop} {o : UD} (ho : UnR X (unaryOp op) r) (hs : UnS X.K r o) (ha : DE X W a ta) : DE X W (.UnaryOp op a pos) (dUn o ta) := by
  obtain ⟨t1, p1, g1⟩ := ha.ex
  exact de_pe (pe_un ho p1) fun s σ η μ Q q E S hq l lx => g1 s σ η μ _ _ E S hq (fun ex μ1 x s1 hk1 x1 R1 r1 f1 => hs s _ s1 μ1 x ex q Q R1 x1 r1 f1 hk1 l) lx
abbrev CD := List EV → Mu → PQ → Prop
def CallS (K : PySem.W.Frag) (r : List V → Hp → VK → Prop) (o : CD) : Prop := ∀ (s0 : Wd) (N0 : Nat) (s : Wd) (μ : Mu) (xs : List V) (es : List EV) (q : PQ) (Q : VK), Rep K s μ → Ext s0 N0 s μ.length → VRs K s μ.length s0.H xs es → o es μ q → LE K s0 N0 q Q → r xs s.H Q
def dCB (o : CD) (t : TDA) : TDE := fun η μ q E => t η μ (fun es μ1 => o es μ1 q) E
theorem de_callB {id : String} {x : Str} {p : Pos} {es : List Expr} {t : TDA} {r : List V → Hp → VK → Prop} {o : CD} (hc : CallR X (.builtin id) r) (hs : CallS X.K r o) (hg : Gl X x) (hm : X.mg x = none) (hv : bootBuiltins x = some (.builtin id)) (ha : DA X W (e :: es) t) (hn : x ≠ "__name__" := by decide) (hdb : (x == ("__debug__" : Str)) = false := by decide)
    (he : starEach (e :: es) X.env = (false, eval e X.env) :: starEach es X.env := by rfl) (hpl : (backTo pos (starEach es X.env)).any (·.1) = false := by rfl) : DE X W (.Call (.Name x p) (e :: es) [] pos) (dCB o t) := by
  obtain ⟨t1, p1, g1⟩ := ha.ex
  exact de_pe (pe_callB hc hg hm hv p1 hn hdb he hpl) fun s σ η μ Q q E S hq l lx => g1 s σ η μ _ _ E S hq (fun ex μ1 x s1 hk1 x1 R1 r1 => hs s _ s1 μ1 x ex q Q R1 x1 r1 hk1 l) lx
theorem de_callTy {T : String} {x : Str} {p : Pos} {es : List Expr} {t : TDA} {r : List V → Hp → VK → Prop} {o : CD} (hc : CallR X (.type T) r) (hs : CallS X.K r o) (hg : Gl X x) (hm : X.mg x = none) (hv : bootBuiltins x = some (.type T)) (ha : DA X W (e :: es) t) (hn : x ≠ "__name__" := by decide) (hdb : (x == ("__debug__" : Str)) = false := by decide)
    (he : starEach (e :: es) X.env = (false, eval e X.env) :: starEach es X.env := by rfl) (hpl : (backTo pos (starEach es X.env)).any (·.1) = false := by rfl) : DE X W (.Call (.Name x p) (e :: es) [] pos) (dCB o t) := by
  obtain ⟨t1, p1, g1⟩ := ha.ex
  exact de_pe (pe_callTy hc hg hm hv p1 hn hdb he hpl) fun s σ η μ Q q E S hq l lx => g1 s σ η μ _ _ E S hq (fun ex μ1 x s1 hk1 x1 R1 r1 => hs s _ s1 μ1 x ex q Q R1 x1 r1 hk1 l) lx

/-! ### subscripts, slices, methods of built-in types -/
theorem de_ix {r : R2} {o : OD} (hr : IxR X r) (hs : OpS X.K r o) (ha : DE X W a ta) (hb : DE X W b tb) (hp : PlainIx b) : DE X W (.Subscript a b pos) (dOp o ta tb) := by
  obtain ⟨t1, p1, g1⟩ := ha.ex
  obtain ⟨t2, p2, g2⟩ := hb.ex
  refine de_pe (pe_ix hr p1 p2 hp) fun s σ η μ Q q E S hq l lx => g1 s σ η μ _ _ E S hq (fun ex μ1 x s1 hk1 x1 R1 r1 f1 => ?_) lx
  refine g2 s1 σ η μ1 _ _ E (S.go x1 R1) hk1 (fun ey μ2 y s2 hk2 x2 R2 r2 f2 => ?_) (lx.go x1 R1)
  have h1 := fun n (hn : n < μ1.length) => R1.here hn
  exact hs s _ s2 μ2 x y ex ey q Q R2 (x1.trans x2 h1) (r1.ext x2) f1 r2 (f2.back (K := X.K) x1 h1) hk2 l
abbrev TDO := DEnv → Mu → (Option Int → Mu → Prop) → XQ → Prop
structure DO (X : Cx) (W : WX) (e : Option Expr) (td : TDO) : Prop where
  ex : ∃ t : TO, PO X e t ∧ ∀ (s : Wd) (σ : L2.St) (η : DEnv) (μ : Mu) (Q : Option Int → Hp → Prop) (q : Option Int → Mu → Prop) (E : XQ), Sit X.K s μ σ η → td η μ q E →
    (∀ (o : Option Int) (μ' : Mu) (s' : Wd), q o μ' → Ext s μ.length s' μ'.length → Rep X.K s' μ' → Q o s'.H) → LX X.K s μ.length σ E W → t σ s.H Q
def oNo : TDO := fun _ μ q _ => q none μ
def oSome (t : TDE) : TDO := fun η μ q E => t η μ (fun e μ1 => match e with | .dat (.int i) => q (some i) μ1 | _ => False) E
theorem do_none : DO X W none oNo := ⟨_, po_none, fun s σ η μ Q q E S hq l lx => l none μ s hq (Ext.refl _ _) S.rep⟩
theorem do_some (h : DE X W e te) : DO X W (some e) (oSome te) := by
  obtain ⟨t1, p1, g1⟩ := h.ex
  refine ⟨_, po_some p1, fun s σ η μ Q q E S hq l lx => g1 s σ η μ _ _ E S hq (fun ex μ1 x s1 hk1 x1 R1 r1 f1 => ?_) lx⟩
  split at hk1
  · exact ⟨_, vr_i r1, l _ _ _ hk1 x1 R1⟩
  · exact hk1.elim
abbrev SD := EV → Option Int → Option Int → Mu → PQ → Prop
def SlS (K : PySem.W.Frag) (r : V → Option Int → Option Int → Hp → VK → Prop) (o : SD) : Prop := ∀ (s0 : Wd) (N0 : Nat) (s : Wd) (μ : Mu) (x : V) (ex : EV) (lo hi : Option Int) (q : PQ) (Q : VK), Rep K s μ → Ext s0 N0 s μ.length → VR K s μ.length x ex → Frsh s0.H x ex → o ex lo hi μ q → LE K s0 N0 q Q → r x lo hi s.H Q
def dSl (o : SD) (te : TDE) (tl th : TDO) : TDE := fun η μ q E => te η μ (fun x μ1 => tl η μ1 (fun l μ2 => th η μ2 (fun h μ3 => o x l h μ3 q) E) E) E
theorem de_slice {r : V → Option Int → Option Int → Hp → VK → Prop} {o : SD} {lo hi : Option Expr} {tl th : TDO} {p2 : Pos} (hr : SlR X r) (hs : SlS X.K r o) (ha : DE X W a ta) (hl : DO X W lo tl) (hh : DO X W hi th) : DE X W (.Subscript a (.Slice lo hi none p2) pos) (dSl o ta tl th) := by
  obtain ⟨t1, p1, g1⟩ := ha.ex
  obtain ⟨t2, p2, g2⟩ := hl.ex
  obtain ⟨t3, p3, g3⟩ := hh.ex
  refine de_pe (pe_slice hr p1 p2 p3) fun s σ η μ Q q E S hq l lx => g1 s σ η μ _ _ E S hq (fun ex μ1 x s1 hk1 x1 R1 r1 f1 => ?_) lx
  have h1 := fun n (hn : n < μ1.length) => R1.here hn
  refine g2 s1 σ η μ1 _ _ E (S.go x1 R1) hk1 (fun olo μ2 s2 hk2 x2 R2 => ?_) (lx.go x1 R1)
  have x12 := x1.trans x2 h1
  have h2 := fun n (hn : n < μ2.length) => R2.here hn
  refine g3 s2 σ η μ2 _ _ E (S.go x12 R2) hk2 (fun ohi μ3 s3 hk3 x3 R3 => ?_) (lx.go x12 R2)
  exact hs s _ s3 μ3 x ex olo ohi q Q R3 (x12.trans x3 h2) ((r1.ext x2).ext x3) f1 hk3 l
end
end DL

set_option Elab.async false
set_option linter.all false
set_option maxRecDepth 100000
set_option maxHeartbeats 4000000
namespace DL
open PySem L2
section
variable {X : Cx} {W : WX} {st : Stmt} {rest : List Stmt} {e eo ei : Expr} {te ti : TDE} {tA : TDT} {t u : TDS} {pos : Pos}

/-! ### blocks and small statements -/
def sNext : TDS := fun d _ η μ => d.nx η μ
def sSeq (t u : TDS) : TDS := fun d E η μ => t { d with nx := u d E } E η μ
theorem dss_nil : DSs X W [] sNext := ⟨_, pss_nil, fun s σ η μ D d E S hq l => l.nx η μ σ s hq (Ext.refl _ _) S⟩
theorem dss_cons (h1 : DS X W st t) (h2 : DSs X W rest u) : DSs X W (st :: rest) (sSeq t u) := by
  obtain ⟨t1, p1, g1⟩ := h1.ex
  obtain ⟨t2, p2, g2⟩ := h2.ex
  refine ⟨_, pss_cons p1 p2, fun s σ η μ D d E S hq l => g1 s σ η μ _ _ E S hq ⟨fun η' μ' σ' s' hk x S' => ?_, l.rt, l.bk, l.ct, l.xq⟩⟩
  exact g2 s' σ' η' μ' D d E S' hk (l.go x S'.rep)
theorem dss_one (h1 : DS X W st t) : DSs X W [st] t := by
  obtain ⟨t1, p1, g1⟩ := h1.ex
  exact ⟨_, pss_one p1, g1⟩
def sBreak : TDS := fun d _ η μ => d.bk η μ
def sCont : TDS := fun d _ η μ => d.ct η μ
theorem ds_pass : DS X W (.Pass pos) sNext := ⟨_, ps_pass, fun s σ η μ D d E S hq l => l.nx η μ σ s hq (Ext.refl _ _) S⟩
theorem ds_break : DS X W (.Break pos) sBreak := ⟨_, ps_break, fun s σ η μ D d E S hq l => l.bk η μ σ s hq (Ext.refl _ _) S⟩
theorem ds_continue : DS X W (.Continue pos) sCont := ⟨_, ps_continue, fun s σ η μ D d E S hq l => l.ct η μ σ s hq (Ext.refl _ _) S⟩
theorem ds_doc {x j pos'} : DS X W (.Expr (.Constant (.str x) j pos) pos') sNext := ⟨_, ps_doc, fun s σ η μ D d E S hq l => l.nx η μ σ s hq (Ext.refl _ _) S⟩
def sDrop (t : TDE) : TDS := fun d E η μ => t η μ (fun _ μ1 => d.nx η μ1) E
theorem ds_expr (h : DE X W e te) (hs : swapsWith e none pos.line X.env = pure false := by rfl) : DS X W (.Expr e pos) (sDrop te) := by
  obtain ⟨t1, p1, g1⟩ := h.ex
  exact ⟨_, ps_expr p1 hs, fun s σ η μ D d E S hq l => g1 s σ η μ _ _ E S hq (fun ev μ1 v s1 hk x R r f => l.nx η μ1 σ s1 hk x (S.go x R)) (l.lx σ)⟩
def sRet (t : TDE) : TDS := fun d E η μ => t η μ d.rt E
theorem ds_ret (h : DE X W e te) : DS X W (.Return (some e) pos) (sRet te) := by
  obtain ⟨t1, p1, g1⟩ := h.ex
  exact ⟨_, ps_ret p1, fun s σ η μ D d E S hq l => g1 s σ η μ _ _ E S hq l.rt (l.lx σ)⟩
def sRetN : TDS := fun d _ _ μ => d.rt (.dat .none) μ
theorem ds_retN : DS X W (.Return none pos) sRetN := ⟨_, ps_retN, fun s σ η μ D d E S hq l => l.rt _ μ .non s hq (Ext.refl _ _) S.rep .non trivial⟩
def sIf (c : TDT) (t u : TDS) : TDS := fun d E η μ => c η μ (fun b μ1 => if b = true then t d E η μ1 else u d E η μ1) E
theorem ds_if {c : Expr} {a b : List Stmt} (hc : DT X W c tA) (ha : DSs X W a t) (hb : DSs X W b u) : DS X W (.If c a b pos) (sIf tA t u) := by
  obtain ⟨tc, p, g⟩ := hc.ex
  obtain ⟨t1, p1, g1⟩ := ha.ex
  obtain ⟨t2, p2, g2⟩ := hb.ex
  refine ⟨_, ps_if p p1 p2, fun s σ η μ D d E S hq l => g s σ η μ _ _ E S hq (fun k μ' s' hk x R => ?_) (l.lx σ)⟩
  cases k with
  | true => exact g1 s' σ η μ' D d E (S.go x R) hk (l.go x R)
  | false => exact g2 s' σ η μ' D d E (S.go x R) hk (l.go x R)
/-- the proof never comes here -/
def sNever : TDS := fun _ _ _ _ => False
theorem ds_never : DS X W st sNever := ⟨_, ps_never, fun _ _ _ _ _ _ _ _ h _ => h.elim⟩

/-! ### targets -/
abbrev TDG := EV → DEnv → Mu → (DEnv → Mu → Prop) → Prop
def LG (K : PySem.W.Frag) (s : Wd) (N : Nat) (q : DEnv → Mu → Prop) (Q : L2.St → Hp → Prop) : Prop := ∀ (η' : DEnv) (μ' : Mu) (σ' : L2.St) (s' : Wd), q η' μ' → Ext s N s' μ'.length → Sit K s' μ' σ' η' → Q σ' s'.H
/-- only the slots is are other ones -/
def Only (is : List Nat) (σ σ' : L2.St) : Prop := σ'.length = σ.length ∧ ∀ j, j ∉ is → σ'[j]? = σ[j]?
def LGo (K : PySem.W.Frag) (s : Wd) (N : Nat) (is : List Nat) (σ : L2.St) (q : DEnv → Mu → Prop) (Q : L2.St → Hp → Prop) : Prop := ∀ (η' : DEnv) (μ' : Mu) (σ' : L2.St) (s' : Wd), q η' μ' → Ext s N s' μ'.length → Sit K s' μ' σ' η' → Only is σ σ' → Q σ' s'.H
theorem LG.o {K : PySem.W.Frag} {s : Wd} {N : Nat} {is : List Nat} {σ : L2.St} {q : DEnv → Mu → Prop} {Q : L2.St → Hp → Prop} (h : LG K s N q Q) : LGo K s N is σ q Q := fun η' μ' σ' s' a b c _ => h η' μ' σ' s' a b c
theorem Only.refl {is : List Nat} (σ : L2.St) : Only is σ σ := ⟨rfl, fun _ _ => rfl⟩
theorem Only.set {is : List Nat} (σ : L2.St) (i : Nat) (o : Option V) (h : i ∈ is) : Only is σ (σ.set i o) := ⟨by simp, fun j hj => List.getElem?_set_ne fun e => hj (by rw [← e]; exact h)⟩
theorem Only.trans {is js : List Nat} {σ σ1 σ2 : L2.St} (a : Only is σ σ1) (b : Only js σ1 σ2) : Only (is ++ js) σ σ2 := ⟨b.1.trans a.1, fun j hj => (b.2 j fun h => hj (List.mem_append_right _ h)).trans (a.2 j fun h => hj (List.mem_append_left _ h))⟩
structure DG (X : Cx) (target : Expr) (is : List Nat) (td : TDG) : Prop where
  ex : ∃ g : TG, PG X target g ∧ ∀ (s : Wd) (σ : L2.St) (η : DEnv) (μ : Mu) (v : V) (e : EV) (Q : L2.St → Hp → Prop) (q : DEnv → Mu → Prop), Sit X.K s μ σ η → VR X.K s μ.length v e → td e η μ q → LGo X.K s μ.length is σ q Q → g v σ s.H Q
def gNm (i : Nat) : TDG := fun e η μ q => noNew e = true ∧ q (η.set i (some e)) μ
theorem dg_name {i : Nat} {x : Str} (hN : X.N.Nodup) (hi : X.N[i]? = some x) (hx : Loc X.env.scope x) (hf : X.fn x = true ∨ X.env.scope.names.lookup x = some .local := by first | exact .inl rfl | exact .inr rfl | assumption) : DG X (.Name x pos) [i] (gNm i) :=
  ⟨_, pg_name hN hi hx hf, fun s σ η μ v e Q q S r hq l => l _ μ _ s hq.2 (Ext.refl _ _) ⟨S.rep, S.er.set i r⟩ (Only.set σ i _ (by simp))⟩
abbrev TDGs := List PyData → DEnv → Mu → (DEnv → Mu → Prop) → Prop
structure DGs (X : Cx) (ts : List Expr) (is : List Nat) (td : TDGs) : Prop where
  ex : ∃ g : TGs, PGs X ts g ∧ ∀ (s : Wd) (σ : L2.St) (η : DEnv) (μ : Mu) (vs : List V) (ds : List PyData) (Q : L2.St → Hp → Prop) (q : DEnv → Mu → Prop), Sit X.K s μ σ η → DRs X.K s.F vs ds → td ds η μ q → LGo X.K s μ.length is σ q Q → g vs σ s.H Q
def gNl : TDGs := fun ds η μ q => ds = [] ∧ q η μ
def gCn (t : TDG) (u : TDGs) : TDGs := fun ds η μ q => match ds with
  | d :: r => t (.dat d) η μ fun η' μ' => u r η' μ' q
  | [] => False
theorem dgs_nil : DGs X [] [] gNl := ⟨_, pgs_nil, fun s σ η μ vs ds Q q S r hq l => by
  obtain ⟨rfl, hq⟩ := hq
  cases r
  exact ⟨rfl, l η μ σ s hq (Ext.refl _ _) S (Only.refl σ)⟩⟩
theorem dgs_cons {e : Expr} {es : List Expr} {is js : List Nat} {t : TDG} {u : TDGs} (h1 : DG X e is t) (h2 : DGs X es js u) (hs : (assignEach (e :: es) X.env).map (·.2) = assign e X.env :: (assignEach es X.env).map (·.2) := by rfl) : DGs X (e :: es) (is ++ js) (gCn t u) := by
  obtain ⟨t1, p1, g1⟩ := h1.ex
  obtain ⟨t2, p2, g2⟩ := h2.ex
  refine ⟨_, pgs_cons p1 p2 hs, fun s σ η μ vs ds Q q S r hq l => ?_⟩
  cases r with
  | nil => exact hq.elim
  | cons r rr =>
    refine ⟨_, _, rfl, g1 s σ η μ _ (.dat _) _ _ S r hq fun η' μ' σ' s' hk x S' o => ?_⟩
    exact g2 s' σ' η' μ' _ _ Q q S' (rr.mono x.f) hk fun η2 μ2 σ2 s2 hk2 x2 S2 o2 => l η2 μ2 σ2 s2 hk2 (x.trans x2 fun n hn => S'.rep.here hn) S2 (o.trans o2)
/-- (a, b, ..) = a tuple that is data -/
def gTp (n : Nat) (t : TDGs) : TDG := fun e η μ q => match e with
  | .dat (.tuple ds) => ds.length = n ∧ t ds η μ q
  | _ => False
theorem dg_tup {es : List Expr} {k : Nat} {is : List Nat} {t : TDGs} {n : Nat} (hc : X.calm = true) (h : DGs X es is t) (hn : (assignEach es X.env).length = n := by rfl) (hst : (assignEach es X.env).findIdx? (·.1) = none := by rfl) : DG X (.Tuple es k pos) is (gTp n t) := by
  obtain ⟨t1, p1, g1⟩ := h.ex
  refine ⟨_, pg_tup hc p1 hn hst, fun s σ η μ v e Q q S r hq l => ?_⟩
  unfold gTp at hq
  split at hq
  · rename_i ds
    have r' : DR X.K s.F v (.tuple ds) := r
    cases r' with
    | tup h hs => exact ⟨_, _, rfl, sqT_mono S.rep.sub h, by rw [hs.length]; exact hq.1, g1 s σ η μ _ _ Q q S hs hq.2 l⟩
  · exact hq.elim
/-- target = value -/
def sAsg (t : TDE) (g : TDG) : TDS := fun d E η μ => t η μ (fun e μ1 => g e η μ1 d.nx) E
theorem ds_asg {tg : Expr} {is : List Nat} {g : TDG} (he : DE X W e te) (hg : DG X tg is g) (hs : swapsWithSole [tg] e pos.line X.env = pure false := by rfl) (hw : swappedStores [tg] e X.env = pure none := by rfl)
    (h1 : (assignEach [tg] X.env).map (·.2) = [assign tg X.env] := by rfl) : DS X W (.Assign [tg] e pos) (sAsg te g) := by
  obtain ⟨t1, p1, g1⟩ := he.ex
  obtain ⟨t2, p2, g2⟩ := hg.ex
  refine ⟨_, ps_asg p1 p2 hs hw h1, fun s σ η μ D d E S hq l => g1 s σ η μ _ _ E S hq (fun ev μ1 v s1 hk x R r f => ?_) (l.lx σ)⟩
  exact g2 s1 σ η μ1 v ev _ _ (S.go x R) r hk fun η' μ' σ' s' hk' x' S' _ => l.nx η' μ' σ' s' hk' (x.trans x' fun n hn => R.here hn) S'
theorem ds_set {i : Nat} {x : Str} {pos' : Pos} (hN : X.N.Nodup) (hi : X.N[i]? = some x) (hx : Loc X.env.scope x) (he : DE X W e te) (hs : swapsWith e (some (.Name x pos')) pos.line X.env = pure false := by rfl) (hf : X.fn x = true ∨ X.env.scope.names.lookup x = some .local := by first | exact .inl rfl | exact .inr rfl | assumption) :
    DS X W (.Assign [.Name x pos'] e pos) (sAsg te (gNm i)) := by
  obtain ⟨t1, p1, g1⟩ := he.ex
  refine ⟨_, ps_set hN hi hx p1 hs hf, fun s σ η μ D d E S hq l => g1 s σ η μ _ _ E S hq (fun ev μ1 v s1 hk x R r f => ?_) (l.lx σ)⟩
  have S1 := S.go x R
  exact l.nx _ μ1 _ s1 hk.2 x ⟨R, S1.er.set i r⟩
/-- a, b = x, y (local names): data -/
def sPar (i j : Nat) (t : TDA) : TDS := fun d E η μ => t η μ (fun es μ1 => match es with
  | [e1, e2] => noNew e1 = true ∧ noNew e2 = true ∧ d.nx ((η.set i (some e1)).set j (some e2)) μ1
  | _ => False) E
theorem ds_par {i j : Nat} {x y : Str} {a b : Expr} {ta : TDA} {px py pt : Pos} {kt k2 pt2} (hc : X.calm = true) (hN : X.N.Nodup) (hi : X.N[i]? = some x) (hj : X.N[j]? = some y) (hij : i ≠ j)
    (hx : X.env.scope.names.lookup x = some .local) (hy : X.env.scope.names.lookup y = some .local) (ha : DA X W [a, b] ta)
    (hw : swappedStores [.Tuple [.Name x px, .Name y py] kt pt] (.Tuple [a, b] k2 pt2) X.env = pure (some [x, y]))
    (hs : swapsWithSole [.Tuple [.Name x px, .Name y py] kt pt] (.Tuple [a, b] k2 pt2) pos.line X.env = pure false := by rfl) :
    DS X W (.Assign [.Tuple [.Name x px, .Name y py] kt pt] (.Tuple [a, b] k2 pt2) pos) (sPar i j ta) := by
  obtain ⟨t1, p1, g1⟩ := ha.ex
  refine ⟨_, ps_par hc hN hi hj hij hx hy p1 hw hs, fun s σ η μ D d E S hq l => g1 s σ η μ _ _ E S hq (fun es μ1 vs s1 hk x R r => ?_) (l.lx σ)⟩
  split at hk
  · cases r with
    | cons r1 f1 rr =>
      cases rr with
      | cons r2 f2 rr =>
        cases rr
        exact ⟨_, _, rfl, l.nx _ μ1 _ s1 hk.2.2 x ⟨R, ((S.go x R).er.set i r1).set j r2⟩⟩
  · exact hk.elim
/-- name op= e -/
def sAug (i : Nat) (te : TDE) (o : OD) : TDS := fun d E η μ => match η[i]? with
  | some (some x) => noNew x = true ∧ te η μ (fun y μ1 => o x y μ1 fun z μ2 => noNew z = true ∧ d.nx (η.set i (some z)) μ2) E
  | _ => False
theorem ds_aug {i : Nat} {x : Str} {op : Operator} {ti : TIp} {o : OD} {pos' : Pos} (hN : X.N.Nodup) (hi : X.N[i]? = some x) (hx : Loc X.env.scope x) (he : DE X W e te) (ho : PIp X op ti) (hs : OpS X.K ti o)
    (hf : X.fn x = true ∨ X.env.scope.names.lookup x = some .local := by first | exact .inl rfl | exact .inr rfl | assumption) : DS X W (.AugAssign (.Name x pos') op e pos) (sAug i te o) := by
  obtain ⟨t1, p1, g1⟩ := he.ex
  refine ⟨_, ps_aug hN hi hx p1 ho hf, fun s σ η μ D d E S hq l => ?_⟩
  unfold sAug at hq
  split at hq
  · rename_i ex hex
    obtain ⟨v, h1, h2⟩ := S.er.get i _ hex
    refine ⟨v, h1, g1 s σ η μ _ _ E S hq.2 (fun ey μ1 y s1 hk x1 R r f => ?_) (l.lx σ)⟩
    refine hs s _ s1 μ1 v y ex ey _ _ R x1 (h2.ext x1) (frsh_of hq.1) r f hk fun ez μ2 z s2 hk2 x2 R2 r2 f2 => ?_
    exact l.nx _ μ2 _ s2 hk2.2 x2 ⟨R2, (S.go x2 R2).er.set i r2⟩
  · exact hq.elim
/-- o[i] = v, by values -/
abbrev SetD := EV → EV → EV → Mu → (Mu → Prop) → Prop
def SetS (K : PySem.W.Frag) (r : TSet) (o : SetD) : Prop := ∀ (s0 : Wd) (N0 : Nat) (s : Wd) (μ : Mu) (x y z : V) (ex ey ez : EV) (q : Mu → Prop) (Q : Hp → Prop), Rep K s μ → Ext s0 N0 s μ.length → VR K s μ.length x ex → VR K s μ.length y ey → VR K s μ.length z ez →
  o ex ey ez μ q → (∀ (μ' : Mu) (s' : Wd), q μ' → Ext s0 N0 s' μ'.length → Rep K s' μ' → Q s'.H) → r x y z s.H Q
def gSb (to ti : TDE) (o : SetD) : TDG := fun e η μ q => to η μ (fun x μ1 => ti η μ1 (fun y μ2 => o x y e μ2 fun μ3 => q η μ3) fun _ _ => False) fun _ _ => False
theorem dg_sub {to : TDE} {r : TSet} {os : SetD} (ho : DE X W eo to) (hi : DE X W ei ti) (hr : PSet X r) (hs : SetS X.K r os)
    (ha : ∀ v, assign (.Subscript eo ei pos) X.env v = (do
      let ov ← holding [v] (eval eo X.env)
      let iv ← holding [v, ov] (eval ei X.env)
      standAt pos
      holding [v, ov, iv] (setItem ov iv v)
      release [v, ov, iv] []) := by intro _; rfl) : DG X (.Subscript eo ei pos) [] (gSb to ti os) := by
  obtain ⟨t1, p1, g1⟩ := ho.ex
  obtain ⟨t2, p2, g2⟩ := hi.ex
  refine ⟨_, pg_sub p1 p2 hr ha, fun s σ η μ v e Q q S r0 hq l => ?_⟩
  refine g1 s σ η μ _ _ _ S hq (fun ex μ1 x s1 hk1 x1 R1 r1 f1 => ?_) LX.none
  refine g2 s1 σ η μ1 _ _ _ (S.go x1 R1) hk1 (fun ey μ2 y s2 hk2 x2 R2 r2 f2 => ?_) LX.none
  have h1 := fun n (hn : n < μ1.length) => R1.here hn
  have x12 := x1.trans x2 h1
  exact hs s _ s2 μ2 x y v ex ey e _ _ R2 x12 (r1.ext x2) r2 (r0.ext x12) hk2 fun μ' s' hk x' R' => l η μ' σ s' hk x' (S.go x' R') (Only.refl σ)

/-! ### what is walked -/
/-- while G holds of the store, J gives the items, one a turn -/
def WalkS (K : PySem.W.Frag) (J : It) (s0 : Wd) (N0 : Nat) (items : List EV) (G : Mu → Prop) : Prop := ∀ (n : Nat) (s : Wd) (μ : Mu), Ext s0 N0 s μ.length → Rep K s μ → G μ →
  (n < items.length → J.go n s.H) ∧ J.stop items.length s.H ∧
  ∀ x H', n < items.length → J.yld n s.H x H' → ∃ (s' : Wd) (e : EV), s'.H = H' ∧ items[n]? = some e ∧ noNew e = true ∧ Ext s μ.length s' μ.length ∧ Rep K s' μ ∧ VR K s' μ.length x e
abbrev TDI := DEnv → Mu → (List EV → (Mu → Prop) → Mu → Prop) → XQ → Prop
structure DI (X : Cx) (W : WX) (tg iter : Expr) (td : TDI) : Prop where
  ex : ∃ wi : TI, PI X tg iter wi ∧ ∀ (s : Wd) (σ : L2.St) (η : DEnv) (μ : Mu) (R : It → Hp → Prop) (r : List EV → (Mu → Prop) → Mu → Prop) (E : XQ), Sit X.K s μ σ η → td η μ r E →
    (∀ (J : It) (items : List EV) (G : Mu → Prop) (μ' : Mu) (s' : Wd), r items G μ' → Ext s μ.length s' μ'.length → Rep X.K s' μ' → WalkS X.K J s' μ'.length items G → R J s'.H) → LX X.K s μ.length σ E W → wi σ s.H R
theorem PI.or {tg iter : Expr} {wi wj : TI} (h : PI X tg iter wi) (h' : PI X tg iter wj) : PI X tg iter (fun σ H R => wi σ H R ∨ wj σ H R) :=
  ⟨fun pins s σ H R I q => q.elim (h.run pins s σ H R I) (h'.run pins s σ H R I)⟩

/-- slots that name cells made since are forgotten -/
def clean (N : Nat) (η : DEnv) : DEnv := η.map fun o => match o with
  | some (.loc n) => if n < N then some (.loc n) else none
  | o => o
theorem er_clean {K : PySem.W.Frag} {s : Wd} {N N' : Nat} {σ : L2.St} {η : DEnv} (h : ER K s N' σ η) (hN : N ≤ N') : ER K s N σ (clean N η) := by
  refine ⟨by simp [clean, h.len], fun i e q => ?_⟩
  unfold clean at q
  rw [List.getElem?_map] at q
  cases hi : η[i]? with
  | none => rw [hi] at q; cases q
  | some o =>
    rw [hi] at q
    cases o with
    | none => cases q
    | some e0 =>
      obtain ⟨v, h1, h2⟩ := h.get i e0 hi
      refine ⟨v, h1, ?_⟩
      cases e0 with
      | loc n =>
        have q1 : (if n < N then some (EV.loc n) else none) = some e := Option.some.inj q
        split at q1
        · cases q1
          exact ⟨by assumption, h2.2⟩
        · cases q1
      | dat d => cases q; exact h2
      | new xs => cases q; obtain ⟨p, vs, a1, a2, a3, a4, a5⟩ := h2; exact ⟨p, vs, a1, a2, a3, fun m hm => a4 m (Nat.lt_of_lt_of_le hm hN), a5⟩
      | raw d => cases q; exact h2
      | exc d => cases q; exact h2
      | ro d => cases q; exact h2
theorem Sit.clean {K : PySem.W.Frag} {s : Wd} {N : Nat} {μ : Mu} {σ : L2.St} {η : DEnv} (h : Sit K s μ σ η) (hN : N ≤ μ.length) : Sit K s (μ.take N) σ (DL.clean N η) := by
  have e : (μ.take N).length = N := by rw [List.length_take]; omega
  exact ⟨h.rep.take N, by rw [e]; exact er_clean h.er hN⟩

/-! ### for, while -/
def sFor (ti : TDI) (g : TDG) (tb : TDS) : TDS := fun d E η μ => ti η μ (fun items G μ1 => ∃ Inv : Nat → DEnv → Mu → Prop, Inv 0 η μ1 ∧ (∀ i η μ, Inv i η μ → G μ) ∧
  (∀ (i : Nat) (e : EV) η μ, items[i]? = some e → Inv i η μ → g e η μ fun η2 μ2 => tb { nx := fun η' μ' => Inv (i + 1) (clean μ1.length η') (μ'.take μ1.length), ct := fun η' μ' => Inv (i + 1) (clean μ1.length η') (μ'.take μ1.length), bk := d.nx, rt := d.rt } E η2 μ2) ∧
  ∀ η μ, Inv items.length η μ → d.nx η μ) E
theorem ds_for {tg iter : Expr} {body : List Stmt} {is : List Nat} {ti : TDI} {g : TDG} {tb : TDS} (hp : PassesOwn (model X.prog X.w) X.A X.env X.xe) (hc : X.calm = true) (hi : DI X W tg iter ti) (hg : DG X tg is g) (hb : DSs X W body tb)
    (hs : ∀ x, foldedSetIterable iter X.env x = pure x := by intro _; rfl) : DS X W (.For tg iter body [] pos) (sFor ti g tb) := by
  obtain ⟨wi, p1, g1⟩ := hi.ex
  obtain ⟨gg, p2, g2⟩ := hg.ex
  obtain ⟨tb', p3, g3⟩ := hb.ex
  refine ⟨_, ps_for hp hc p1 p2 p3 hs, fun s σ η μ D d E S hq l => g1 s σ η μ _ _ E S hq (fun J items G μ1 s1 hk x1 R1 wk => ?_) (l.lx σ)⟩
  obtain ⟨Inv, h0, hG, hs, hd⟩ := hk
  have l1 := l.go x1 R1
  refine ⟨fun i m σ' H' => m = items.length - i ∧ i ≤ items.length ∧ ∃ (s' : Wd) (η' : DEnv) (μ' : Mu), s'.H = H' ∧ Ext s1 μ1.length s' μ'.length ∧ Sit X.K s' μ' σ' η' ∧ Inv i η' μ', ⟨items.length, by simp, Nat.zero_le _, s1, η, μ1, rfl, Ext.refl _ _, S.go x1 R1, h0⟩, ?_⟩
  rintro i m σ' H' ⟨rfl, hi, s', η', μ', rfl, x', S', iv⟩
  have ⟨wgo, wstop, wy⟩ := wk i s' μ' x' S'.rep (hG i η' μ' iv)
  by_cases hlt : i < items.length
  · refine .inr ⟨wgo hlt, fun σ2 H2 => ∃ (s2 : Wd) (η2 : DEnv) (μ2 : Mu), s2.H = H2 ∧ Ext s1 μ1.length s2 μ2.length ∧ Sit X.K s2 μ2 σ2 η2 ∧ Inv (i + 1) η2 μ2, fun σ2 H2 h2 => ⟨items.length - (i + 1), by omega, rfl, hlt, h2⟩, fun x H'' hy => ?_⟩
    obtain ⟨s2, e, rfl, he, hne, x2, R2, r2⟩ := wy x H'' hlt hy
    have x12 := x'.trans x2 fun n hn => S'.rep.here hn
    refine g2 s2 σ' η' μ' x e _ _ (S'.go x2 R2) r2 (hs i e η' μ' he iv) fun η3 μ3 σ3 s3 hk3 x3 S3 _ => ?_
    have x13 := x12.trans x3 fun n hn => R2.here hn
    have l3 := l1.go x13 S3.rep
    have fin : ∀ (η4 : DEnv) (μ4 : Mu) (σ4 : L2.St) (s4 : Wd), Inv (i + 1) (clean μ1.length η4) (μ4.take μ1.length) → Ext s3 μ3.length s4 μ4.length → Sit X.K s4 μ4 σ4 η4 →
        ∃ (s2 : Wd) (η2 : DEnv) (μ2 : Mu), s2.H = s4.H ∧ Ext s1 μ1.length s2 μ2.length ∧ Sit X.K s2 μ2 σ4 η2 ∧ Inv (i + 1) η2 μ2 := fun η4 μ4 σ4 s4 hk4 x4 S4 => by
      have x14 := x13.trans x4 fun n hn => S3.rep.here hn
      have e4 : (μ4.take μ1.length).length = μ1.length := by rw [List.length_take]; have := x14.le; omega
      exact ⟨s4, _, _, rfl, by rw [e4]; exact x14.take (Nat.le_refl _) x14.le, S4.clean x14.le, hk4⟩
    exact g3 s3 σ3 η3 μ3 _ _ E S3 hk3 ⟨fin, l3.rt, l3.nx, fin, l3.xq⟩
  · have e : i = items.length := by omega
    subst e
    exact .inl ⟨wstop, (l1.go x' S'.rep).nx η' μ' σ' s' (hd η' μ' iv) (Ext.refl _ _) S'⟩
def sWhile (c : TDT) (tb : TDS) : TDS := fun d E η μ => ∃ Inv : Nat → DEnv → Mu → Prop, (∃ m, Inv m η μ) ∧ ∀ m η' μ', Inv m η' μ' →
  c η' μ' (fun b μ1 => if b = true then tb { nx := fun η2 μ2 => ∃ m', m' < m ∧ Inv m' (clean μ.length η2) (μ2.take μ.length), ct := fun η2 μ2 => ∃ m', m' < m ∧ Inv m' (clean μ.length η2) (μ2.take μ.length), bk := d.nx, rt := d.rt } E η' μ1 else d.nx η' μ1) E
theorem ds_while {c : Expr} {body : List Stmt} {tb : TDS} (hp : PassesOwn (model X.prog X.w) X.A X.env X.xe) (hc : DT X W c tA) (hb : DSs X W body tb) : DS X W (.While c body [] pos) (sWhile tA tb) := by
  obtain ⟨tc, p1, g1⟩ := hc.ex
  obtain ⟨tb', p3, g3⟩ := hb.ex
  refine ⟨_, ps_while hp p1 p3, fun s σ η μ D d E S hq l => ?_⟩
  obtain ⟨Inv, ⟨m0, h0⟩, turn⟩ := hq
  refine ⟨fun m σ' H' => ∃ (s' : Wd) (η' : DEnv) (μ' : Mu), s'.H = H' ∧ Ext s μ.length s' μ'.length ∧ Sit X.K s' μ' σ' η' ∧ Inv m η' μ', ⟨m0, s, η, μ, rfl, Ext.refl _ _, S, h0⟩, ?_⟩
  rintro m σ' H' ⟨s', η', μ', rfl, x', S', iv⟩
  have l' := l.go x' S'.rep
  refine g1 s' σ' η' μ' _ _ E S' (turn m η' μ' iv) (fun b μ1 s1 hk x1 R1 => ?_) (l'.lx σ')
  have S1 := S'.go x1 R1
  have l1 := l'.go x1 R1
  have xs1 := x'.trans x1 fun n hn => S'.rep.here hn
  cases b with
  | false => exact l1.nx η' μ1 σ' s1 hk (Ext.refl _ _) S1
  | true =>
    refine ⟨fun σ2 H2 => ∃ m', m' < m ∧ ∃ (s' : Wd) (η' : DEnv) (μ' : Mu), s'.H = H2 ∧ Ext s μ.length s' μ'.length ∧ Sit X.K s' μ' σ2 η' ∧ Inv m' η' μ', fun _ _ h => h, ?_⟩
    have fin : ∀ (η4 : DEnv) (μ4 : Mu) (σ4 : L2.St) (s4 : Wd), (∃ m', m' < m ∧ Inv m' (clean μ.length η4) (μ4.take μ.length)) → Ext s1 μ1.length s4 μ4.length → Sit X.K s4 μ4 σ4 η4 →
        ∃ m', m' < m ∧ ∃ (s' : Wd) (η' : DEnv) (μ' : Mu), s'.H = s4.H ∧ Ext s μ.length s' μ'.length ∧ Sit X.K s' μ' σ4 η' ∧ Inv m' η' μ' := fun η4 μ4 σ4 s4 ⟨m', hm, hk4⟩ x4 S4 => by
      have x14 := xs1.trans x4 fun n hn => R1.here hn
      have e4 : (μ4.take μ.length).length = μ.length := by rw [List.length_take]; have := x14.le; omega
      exact ⟨m', hm, s4, _, _, rfl, by rw [e4]; exact x14.take (Nat.le_refl _) x14.le, S4.clean x14.le, hk4⟩
    exact g3 s1 σ' η' μ1 _ _ E S1 hk ⟨fin, l1.rt, l1.nx, fin, l1.xq⟩

/-! ### list comprehensions -/
structure DTs (X : Cx) (W : WX) (ifs : List Expr) (td : TDT) : Prop where
  ex : ∃ t : TT, PTs X ifs t ∧ ∀ (s : Wd) (σ : L2.St) (η : DEnv) (μ : Mu) (Q : Bool → Hp → Prop) (q : Bool → Mu → Prop) (E : XQ), Sit X.K s μ σ η → td η μ q E → LB X.K s μ.length q Q → LX X.K s μ.length σ E W → t σ s.H Q
def tYesD : TDT := fun _ μ q _ => q true μ
theorem dts_nil : DTs X W [] tYesD := ⟨_, pts_nil, fun s σ η μ Q q E S hq l lx => l true μ s hq (Ext.refl _ _) S.rep⟩
theorem dts_one {c : Expr} (h : DT X W c tA) : DTs X W [c] tA := by
  obtain ⟨t, p, g⟩ := h.ex
  exact ⟨_, pts_one p, g⟩
/-- no exception -/
abbrev WF : WX := fun _ _ _ _ => False
abbrev EF : XQ := fun _ _ => False
/-- the readings that data readings stand for -/
def upE (K : PySem.W.Frag) (td : TDE) : TE := fun σ H Q => ∃ (s : Wd) (η : DEnv) (μ : Mu) (q : PQ), s.H = H ∧ Sit K s μ σ η ∧ td η μ q EF ∧ LE K s μ.length q Q
def upT (K : PySem.W.Frag) (td : TDT) : TT := fun σ H Q => ∃ (s : Wd) (η : DEnv) (μ : Mu) (q : Bool → Mu → Prop), s.H = H ∧ Sit K s μ σ η ∧ td η μ q EF ∧ LB K s μ.length q Q
def upG (K : PySem.W.Frag) (is : List Nat) (td : TDG) : TG := fun v σ H Q => ∃ (s : Wd) (η : DEnv) (μ : Mu) (e : EV) (q : DEnv → Mu → Prop), s.H = H ∧ Sit K s μ σ η ∧ VR K s μ.length v e ∧ td e η μ q ∧ LGo K s μ.length is σ q Q
theorem DE.up (h : DE X WF e te) : PE X e (upE X.K te) := by
  obtain ⟨t, p, g⟩ := h.ex
  refine ⟨fun pins sh σ H Q I hq => ?_⟩
  obtain ⟨s, η, μ, q, rfl, S, hq, l⟩ := hq
  exact p.run pins sh σ s.H Q I (g s σ η μ Q q EF S hq l LX.none)
theorem DTs.up {ifs : List Expr} (h : DTs X WF ifs tA) : PTs X ifs (upT X.K tA) := by
  obtain ⟨t, p, g⟩ := h.ex
  refine ⟨fun pins sh σ H Q I hq => ?_⟩
  obtain ⟨s, η, μ, q, rfl, S, hq, l⟩ := hq
  exact p.run pins sh σ s.H Q I (g s σ η μ Q q EF S hq l LX.none)
theorem DG.up {tg : Expr} {is : List Nat} {td : TDG} (h : DG X tg is td) : PG X tg (upG X.K is td) := by
  obtain ⟨t, p, g⟩ := h.ex
  refine ⟨fun pins sh σ H v u Q I r hq => ?_⟩
  obtain ⟨s, η, μ, ev, q, rfl, S, rv, hq, l⟩ := hq
  exact p.run pins sh σ s.H v u Q I r (g s σ η μ v ev Q q S rv hq l)
theorem wipe_get (σ : L2.St) : ∀ (vs : List Nat) (i : Nat), (L2.wipe σ vs)[i]? = if i ∈ vs then (if i < σ.length then some none else none) else σ[i]?
  | [], i => by simp [L2.wipe]
  | v :: vs, i => by
    unfold L2.wipe
    by_cases hv : v = i
    · subst hv
      by_cases hl : v < σ.length
      · rw [List.getElem?_set_self (by rw [wipe_length]; exact hl)]
        simp [hl]
      · rw [List.getElem?_eq_none (by rw [List.length_set, wipe_length]; omega)]
        simp [hl]
    · rw [List.getElem?_set_ne hv, wipe_get σ vs i]
      have : (i ∈ v :: vs) ↔ i ∈ vs := by
        rw [List.mem_cons]
        exact ⟨fun z => z.elim (fun e => absurd e.symm hv) id, .inr⟩
      simp [this]
theorem wipe_only {is vs : List Nat} {σ σ' : L2.St} (h : Only is σ σ') (hs : ∀ i ∈ is, i ∈ vs) : L2.wipe σ' vs = L2.wipe σ vs := by
  refine List.ext_getElem? fun i => ?_
  rw [wipe_get, wipe_get, h.1]
  by_cases hi : i ∈ vs
  · rw [if_pos hi, if_pos hi]
  · rw [if_neg hi, if_neg hi]
    exact h.2 i fun z => hi (hs i z)
theorem wipe_twice (σ : L2.St) (vs : List Nat) : L2.wipe (L2.wipe σ vs) vs = L2.wipe σ vs := by
  refine List.ext_getElem? fun i => ?_
  rw [wipe_get, wipe_get, wipe_length]
  by_cases hi : i ∈ vs
  · rw [if_pos hi, if_pos hi]
  · rw [if_neg hi, if_neg hi]
/-- a list beside is written -/
theorem Rep.poke {K : PySem.W.Frag} {s : Wd} {μ : Mu} {p : Addr} {o : HO} (R : Rep K s μ) (hf : s.F p = none) (hl : ∀ m, m < μ.length → s.L m ≠ p) : Rep K { s with H := upd s.H p o } μ := by
  refine ⟨fun a u q => ?_, fun n c q => ?_, R.inj⟩
  · show upd s.H p o a = some u
    have q' : s.F a = some u := q
    rw [upd_ne (ne_of_none q' hf)]
    exact R.sub a u q
  · have ne := hl n (List.getElem?_eq_some_iff.mp q).1
    have := R.cell n c q
    cases c with
    | lst xs => obtain ⟨h1, vs, h2, h3⟩ := this; exact ⟨h1, vs, (upd_ne ne).trans h2, h3⟩
    | frz xs => exact this
    | dct kvs =>
      obtain ⟨h1, ⟨ks, h2, h3, h4⟩ | ⟨ks, h2, h3, h4⟩⟩ := this
      · exact ⟨h1, .inl ⟨ks, (upd_ne ne).trans h2, h3, h4⟩⟩
      · exact ⟨h1, .inr ⟨ks, (upd_ne ne).trans h2, h3, h4⟩⟩
    | dead =>
      show upd s.H p o (s.L n) ≠ none
      rw [upd_ne ne]
      exact this
theorem Ext.poke {s0 s : Wd} {N0 N : Nat} {p : Addr} {o : HO} (x : Ext s0 N0 s N) (h0 : s0.H p = none) : Ext s0 N0 { s with H := upd s.H p o } N :=
  ⟨x.f, x.l, x.le, fun a u q hn => by
    show upd s.H p o a = some u
    rw [upd_ne (ne_of_none q h0)]
    exact x.keep a u q hn, x.fnew, x.lnew⟩
/-- [e for tg in it if c] -/
def dLc (ti : TDI) (g : TDG) (tt : TDT) (te : TDE) (vs : List Nat) : TDE := fun η μ q E => ti η μ (fun items G μ1 => items.length ≤ 100000 ∧ ∃ Inv : Nat → List PyData → Mu → Prop, Inv 0 [] μ1 ∧ (∀ i acc μ, Inv i acc μ → G μ ∧ acc.length ≤ i) ∧
  (∀ (i : Nat) (e : EV) acc μ, items[i]? = some e → Inv i acc μ → g e (wipeD η vs) μ fun η2 μ2 => tt η2 μ2 (fun b μ3 => if b = true then te η2 μ3 (fun ev μ4 => withDat μ4 ev fun d μ5 => Inv (i + 1) (acc ++ [d]) (μ5.take μ1.length)) EF else Inv (i + 1) acc (μ3.take μ1.length)) EF) ∧
  ∀ acc μ, Inv items.length acc μ → q (.new acc) μ) E
theorem lc_ok {ti : TDI} {g : TDG} {tt : TDT} {te : TDE} {wi : TI} {own : List (Str × Nat)} {is : List Nat} (his : ∀ i ∈ is, i ∈ own.map (·.2))
    (g1 : ∀ (s : Wd) (σ : L2.St) (η : DEnv) (μ : Mu) (R : It → Hp → Prop) (r : List EV → (Mu → Prop) → Mu → Prop) (E : XQ), Sit X.K s μ σ η → ti η μ r E →
      (∀ (J : It) (items : List EV) (G : Mu → Prop) (μ' : Mu) (s' : Wd), r items G μ' → Ext s μ.length s' μ'.length → Rep X.K s' μ' → WalkS X.K J s' μ'.length items G → R J s'.H) → LX X.K s μ.length σ E W → wi σ s.H R)
    (s : Wd) (σ : L2.St) (η : DEnv) (μ : Mu) (Q : VK) (q : PQ) (E : XQ) (S : Sit X.K s μ σ η) (hq : dLc ti g tt te (own.map (·.2)) η μ q E) (l : LE X.K s μ.length q Q) (lx : LX X.K s μ.length σ E W) :
    tLc wi (upG X.K is g) (upT X.K tt) (upE X.K te) (own.map (·.2)) σ s.H Q := by
  refine g1 s σ η μ _ _ E S hq (fun J items G μ1 s1 hk x1 R1 wk => ?_) lx
  obtain ⟨hz, Inv, h0, hG, hs, hd⟩ := hk
  intro D hD
  have hD0 := x1.fresh R1 hD
  refine ⟨fun i m H' => m = items.length - i ∧ i ≤ items.length ∧ ∃ (s' : Wd) (acc : List PyData) (μ' : Mu), s'.H = H' ∧ Ext s1 μ1.length s' μ'.length ∧ Rep X.K s' μ' ∧ VR X.K s' μ'.length (.ref D) (.new acc) ∧ Inv i acc μ', ⟨items.length, by simp, Nat.zero_le _, { s1 with H := upd s1.H D (.lst []) }, [], μ1, rfl, (Ext.refl s1 μ1.length).poke hD, R1.put hD, ⟨D, [], rfl, upd_same, R1.notF hD, R1.notL hD, .nil⟩, h0⟩, ?_⟩
  rintro i m H' ⟨rfl, hi, s', acc, μ', rfl, x', R', rD, iv⟩
  obtain ⟨gG, hacc⟩ := hG i acc μ' iv
  have ⟨wgo, wstop, wy⟩ := wk i s' μ' x' R' gG
  by_cases hlt : i < items.length
  · refine .inr ⟨wgo hlt, fun H2 => ∃ (s2 : Wd) (acc2 : List PyData) (μ2 : Mu), s2.H = H2 ∧ Ext s1 μ1.length s2 μ2.length ∧ Rep X.K s2 μ2 ∧ VR X.K s2 μ2.length (.ref D) (.new acc2) ∧ Inv (i + 1) acc2 μ2, fun H2 h2 => ⟨items.length - (i + 1), by omega, rfl, hlt, h2⟩, fun x H'' hy => ?_⟩
    obtain ⟨s2, e, rfl, he, hne, x2, R2, r2⟩ := wy x H'' hlt hy
    have x12 := x'.trans x2 fun n hn => R'.here hn
    have rD2 := rD.ext x2
    have Sw : Sit X.K s2 μ' (L2.wipe σ (own.map (·.2))) (wipeD η (own.map (·.2))) := ⟨R2, ((S.er.ext x1).ext x12).wipe _⟩
    refine ⟨s2, wipeD η (own.map (·.2)), μ', e, _, rfl, Sw, r2, hs i e acc μ' he iv, fun η3 μ3 σ3 s3 hk3 x3 S3 o3 => ?_⟩
    refine ⟨(wipe_only o3 his).trans (wipe_twice _ _), s3, η3, μ3, _, rfl, S3, hk3, fun b μ4 s4 hk4 x4 R4 => ?_⟩
    have x13 := x12.trans x3 fun n hn => R2.here hn
    have x14 := x13.trans x4 fun n hn => S3.rep.here hn
    have rD4 := (rD2.ext x3).ext x4
    cases b with
    | false =>
      have e4 : (μ4.take μ1.length).length = μ1.length := by rw [List.length_take]; have := x14.le; omega
      refine ⟨s4, acc, μ4.take μ1.length, rfl, by rw [e4]; exact x14.take (Nat.le_refl _) x14.le, R4.take _, ?_, hk4⟩
      obtain ⟨p, vs, a1, a2, a3, a4, a5⟩ := rD4
      exact ⟨p, vs, a1, a2, a3, fun m hm => a4 m (by rw [List.length_take] at hm; omega), a5⟩
    | true =>
      refine ⟨s4, η3, μ4, _, rfl, S3.go x4 R4, hk4, fun ev μ5 v s5 hk5 x5 R5 r5 f5 => ?_⟩
      have x15 := x14.trans x5 fun n hn => R4.here hn
      have rD5 := rD4.ext x5
      obtain ⟨p, ws, e0, a2, a3, a4, a5⟩ := rD5
      cases e0
      -- made still
      have hDd : s5.H D ≠ none := by rw [a2]; simp
      have f5' : Frsh s4.H v ev := f5
      have base : ∃ d μ6 F', Inv (i + 1) (acc ++ [d]) (μ6.take μ1.length) ∧ μ6.length = μ5.length ∧ Rep X.K { s5 with F := F' } μ6 ∧ Ext s4 μ4.length { s5 with F := F' } μ6.length ∧ DR X.K F' v d := still R5 x5 r5 f5' hk5
      obtain ⟨d, μ6, F', k6, len6, R6, x6, r6⟩ := base
      have x16 := x14.trans x6 fun n hn => R4.here hn
      have rD6 := rD4.ext x6
      obtain ⟨p, ws, e0, a2, a3, a4, a5⟩ := rD6
      cases e0
      have e6 : (μ6.take μ1.length).length = μ1.length := by rw [List.length_take]; have := x16.le; omega
      have hDm : ∀ m, m < (μ6.take μ1.length).length → s5.L m ≠ D := fun m hm => a4 m (by rw [List.length_take] at hm; omega)
      refine ⟨ws, a2, Nat.lt_of_lt_of_le (show ws.length < 100001 by have := a5.length; omega) (by decide), { s5 with F := F', H := upd s5.H D (.lst (ws ++ [v])) }, acc ++ [d], μ6.take μ1.length, rfl, ?_, ?_, ?_, k6⟩
      · rw [e6]
        exact (x16.poke hD).take (Nat.le_refl _) x16.le
      · exact (R6.take _).poke a3 hDm
      · exact ⟨D, ws ++ [v], rfl, upd_same, a3, hDm, a5.append (.cons r6 .nil)⟩
  · have e : i = items.length := by omega
    subst e
    refine .inl ⟨wstop, l (.new acc) μ' (.ref D) s' (hd acc μ' iv) (x1.trans x' fun n hn => R1.here hn) R' rD fun p hp => ?_⟩
    cases hp
    exact hD0
theorem de_lc {elt tg iter : Expr} {ifs : List Expr} {scope : Scope} {own : List (Str × Nat)} {is : List Nat} {ti : TDI} {g : TDG} {tt : TDT} (hc : X.calm = true) (hN : X.N.Nodup) (hi : DI X W tg iter ti) (ok : BlkOk X.N X.env.scope scope own) (his : ∀ i ∈ is, i ∈ own.map (·.2))
    (hg : ∀ (s : Shared) (H : Hp) (C : Addr) (cl : List (Str × Addr)) (fp : List Addr), DG (X.blk s H scope (compEnvC scope cl C X.env) fp) tg is g)
    (ht : ∀ (s : Shared) (H : Hp) (C : Addr) (cl : List (Str × Addr)) (fp : List Addr), DTs (X.blk s H scope (compEnvC scope cl C X.env) fp) WF ifs tt)
    (he : ∀ (s : Shared) (H : Hp) (C : Addr) (cl : List (Str × Addr)) (fp : List Addr), DE (X.blk s H scope (compEnvC scope cl C X.env) fp) WF elt te) (hs : ∀ x, foldedSetIterable iter X.env x = pure x := by intro _; rfl) :
    DE X W (.ListComp elt [⟨tg, iter, ifs, 0⟩] scope pos) (dLc ti g tt te (own.map (·.2))) := by
  obtain ⟨wi, p1, g1⟩ := hi.ex
  exact de_pe (pe_lc (g := upG X.K is g) (tt := upT X.K tt) (te := upE X.K te) hc hN p1 ok (fun s H C cl fp => (hg s H C cl fp).up) (fun s H C cl fp => (ht s H C cl fp).up) (fun s H C cl fp => (he s H C cl fp).up) hs) (lc_ok his g1)
/-- name = [..] in one row -/
theorem ds_setLc {i : Nat} {y : Str} {py : Pos} {elt tg iter : Expr} {ifs : List Expr} {scope : Scope} {own : List (Str × Nat)} {spos : Pos} {is : List Nat} {ti : TDI} {g : TDG} {tt : TDT} {k : TDE → TDE} (hc : X.calm = true) (hN : X.N.Nodup) (hy : X.N[i]? = some y) (hyl : X.env.scope.names.lookup y = some .local)
    (hs' : swapsWith (.ListComp elt [⟨tg, iter, ifs, 0⟩] scope pos) (some (.Name y py)) spos.line X.env = pure true)
    (hk : k = dFrz ∨ k = dCell)
    (hi : DI X W tg iter ti) (ok : BlkOk X.N X.env.scope scope own) (his : ∀ i ∈ is, i ∈ own.map (·.2))
    (hg : ∀ (s : Shared) (H : Hp) (C : Addr) (cl : List (Str × Addr)) (fp : List Addr), DG (X.blk s H scope (compEnvC scope cl C X.env) fp) tg is g)
    (ht : ∀ (s : Shared) (H : Hp) (C : Addr) (cl : List (Str × Addr)) (fp : List Addr), DTs (X.blk s H scope (compEnvC scope cl C X.env) fp) WF ifs tt)
    (he : ∀ (s : Shared) (H : Hp) (C : Addr) (cl : List (Str × Addr)) (fp : List Addr), DE (X.blk s H scope (compEnvC scope cl C X.env) fp) WF elt te) (hs : ∀ x, foldedSetIterable iter X.env x = pure x := by intro _; rfl) :
    DS X W (.Assign [.Name y py] (.ListComp elt [⟨tg, iter, ifs, 0⟩] scope pos) spos) (sAsg (k (dLc ti g tt te (own.map (·.2)))) (gNm i)) := by
  obtain ⟨wi, p1, g1⟩ := hi.ex
  have g2 : SemE X.K W (tLc wi (upG X.K is g) (upT X.K tt) (upE X.K te) (own.map (·.2))) (k (dLc ti g tt te (own.map (·.2)))) := by
    rcases hk with rfl | rfl
    · exact sem_frz (lc_ok his g1)
    · exact sem_cell (lc_ok his g1)
  refine ⟨_, ps_setLc (g := upG X.K is g) (tt := upT X.K tt) (te := upE X.K te) hc hN hy hyl hs' p1 ok (fun s H C cl fp => (hg s H C cl fp).up) (fun s H C cl fp => (ht s H C cl fp).up) (fun s H C cl fp => (he s H C cl fp).up) hs, fun s σ η μ D d E S hq l => ?_⟩
  refine g2 s σ η μ _ _ E S hq (fun ev μ1 v s1 hk x R r f => ?_) (l.lx σ)
  exact l.nx _ μ1 _ s1 hk.2 x ⟨R, (S.go x R).er.set i r⟩
end
end DL

set_option Elab.async false
set_option linter.all false
set_option maxRecDepth 100000
set_option maxHeartbeats 4000000
namespace DL
open PySem L2 PyProof.Rows

/-! ### contracts of defs -/
/-- a contract: the arguments, the store, what is wanted of the answer, of an exception -/
abbrev SpD := List EV → Mu → PQ → XQ → Prop
inductive VL (K : PySem.W.Frag) (s : Wd) (N : Nat) : List V → List EV → Prop
  | nil : VL K s N [] []
  | cons {v : V} {vs : List V} {e : EV} {es : List EV} : VR K s N v e → VL K s N vs es → VL K s N (v :: vs) (e :: es)
theorem VL.len {K : PySem.W.Frag} {s : Wd} {N : Nat} {vs : List V} {es : List EV} (h : VL K s N vs es) : vs.length = es.length := by
  induction h with
  | nil => rfl
  | cons _ _ ih => rw [List.length_cons, List.length_cons, ih]
theorem VL.get {K : PySem.W.Frag} {s : Wd} {N : Nat} : ∀ {vs : List V} {es : List EV} {i : Nat} {e : EV}, VL K s N vs es → es[i]? = some e → ∃ v, vs[i]? = some v ∧ VR K s N v e
  | _, _, _, _, .nil, e => by simp at e
  | _, _, 0, _, .cons h _, e => by simp at e; subst e; exact ⟨_, rfl, h⟩
  | _, _, i + 1, d, .cons _ hs, e => by
    obtain ⟨v, h1, h2⟩ := VL.get (i := i) (e := d) hs (by simpa using e)
    exact ⟨v, by simpa using h1, h2⟩
theorem VRs.vl {K : PySem.W.Frag} {s : Wd} {N : Nat} {H0 : Hp} {vs : List V} {es : List EV} (h : VRs K s N H0 vs es) : VL K s N vs es := by
  induction h with
  | nil => exact .nil
  | cons a _ _ ih => exact .cons a ih
theorem VL.append {K : PySem.W.Frag} {s : Wd} {N : Nat} {vs ws : List V} {es fs : List EV} (h : VL K s N vs es) (h' : VL K s N ws fs) : VL K s N (vs ++ ws) (es ++ fs) := by
  induction h with
  | nil => exact h'
  | cons a _ ih => exact .cons a ih
def spOf (K : PySem.W.Frag) (n : Nat) (sp : SpD) : Sp := fun vs H Q E => vs.length = n ∧ ∃ (s : Wd) (μ : Mu) (es : List EV) (q : PQ) (x : XQ), s.H = H ∧ Rep K s μ ∧ VL K s μ.length vs es ∧ sp es μ q x ∧ LE K s μ.length q Q ∧
  ∀ (y : Exn) (μ' : Mu) (cls : Value) (d : Option Addr) (s' : Wd), x y μ' → Ext s μ.length s' μ'.length → Rep K s' μ' → XR K s' cls d y → E cls d s'.H

/-- what goes out of a def: its own cells are forgotten, the answer's one is kept -/
def exitQ (N : Nat) (q : PQ) : PQ := fun e μ => match e with
  | .loc n => if n < N then q (.loc n) (μ.take N) else match μ[n]? with
    | some (.lst xs) => q (.new xs) (μ.take N)
    | some (.frz xs) => q (.dat (.list xs)) (μ.take N)
    | some (.dct kvs) => q (.loc N) (μ.take N ++ [.dct kvs])
    | _ => False
  | e => q e (μ.take N)
theorem exit_ok {K : PySem.W.Frag} {s : Wd} {N : Nat} {q : PQ} {Q : VK} (l : LE K s N q Q) (hN : ∀ n, n < N → s.H (s.L n) ≠ none) : LE K s N (exitQ N q) Q := by
  intro e μ' v s' hq x R r f
  have e1 : (μ'.take N).length = N := by rw [List.length_take]; have := x.le; omega
  have xt : Ext s N s' (μ'.take N).length := by rw [e1]; exact x.take (Nat.le_refl _) x.le
  have Rt := R.take N
  cases e with
  | dat d => exact l _ _ v s' hq xt Rt r trivial
  | raw d => exact l _ _ v s' hq xt Rt r trivial
  | exc d => exact l _ _ v s' hq xt Rt r trivial
  | ro d => exact l _ _ v s' hq xt Rt r trivial
  | new xs =>
    obtain ⟨p, vs, a1, a2, a3, a4, a5⟩ := r
    exact l _ _ v s' hq xt Rt ⟨p, vs, a1, a2, a3, fun m hm => a4 m (by rw [e1] at hm; have := x.le; omega), a5⟩ f
  | loc n =>
    obtain ⟨hn, rfl⟩ := r
    unfold exitQ at hq
    simp only at hq
    by_cases hlt : n < N
    · rw [if_pos hlt] at hq
      exact l _ _ _ s' hq xt Rt ⟨by rw [e1]; exact hlt, rfl⟩ trivial
    · rw [if_neg hlt] at hq
      have h0 : s.H (s'.L n) = none := x.lnew n (Nat.le_of_not_lt hlt) hn
      have ne : ∀ m, m < (μ'.take N).length → s'.L m ≠ s'.L n := fun m hm e => by
        rw [e1] at hm
        have := R.inj m n (by have := x.le; omega) hn e
        omega
      cases hc : μ'[n]? with
      | none => rw [hc] at hq; exact hq.elim
      | some c =>
        rw [hc] at hq
        have C := R.cell n c hc
        cases c with
        | lst xs =>
          obtain ⟨hf, vs, hv, hd⟩ := C
          exact l _ _ _ s' hq xt Rt ⟨s'.L n, vs, rfl, hv, hf, ne, hd⟩ (fun p hp => by cases hp; exact h0)
        | frz xs =>
          obtain ⟨vs, hv, hd⟩ := C
          exact l _ _ _ s' hq xt Rt (.lst hv hd) trivial
        | dct kvs =>
          have hq' : q (.loc N) (μ'.take N ++ [.dct kvs]) := hq
          refine l (.loc N) (μ'.take N ++ [.dct kvs]) (.ref (s'.L n)) { s' with L := fun m => if m = N then s'.L n else s'.L m } hq' ⟨x.f, fun m hm => ?_, by simp [e1], x.keep, x.fnew, fun m h1 h2 => ?_⟩ ⟨R.sub, fun m c q1 => ?_, fun i j hi hj e => ?_⟩ ⟨by simp [e1], ?_⟩ trivial
          · show (if m = N then _ else _) = _
            rw [if_neg (Nat.ne_of_lt hm)]
            exact x.l m hm
          · have : m = N := by simp [e1] at h2; omega
            subst this
            show s.H (if m = m then _ else _) = none
            rw [if_pos rfl]
            exact h0
          · by_cases hm : m = N
            · subst hm
              rw [List.getElem?_append_right (by rw [e1]; exact Nat.le_refl _), e1] at q1
              simp at q1
              subst q1
              show CellAt K _ (if m = m then _ else _) _
              rw [if_pos rfl]
              exact C
            · have hlt2 : m < (μ'.take N).length := by
                have := (List.getElem?_eq_some_iff.mp q1).1
                simp [e1] at this
                rw [e1]; omega
              rw [List.getElem?_append_left hlt2] at q1
              show CellAt K _ (if m = N then s'.L n else s'.L m) c
              rw [if_neg hm]
              have := Rt.cell m c q1
              cases c <;> exact this
          · simp [e1] at hi hj
            have e' : (if i = N then s'.L n else s'.L i) = (if j = N then s'.L n else s'.L j) := e
            by_cases h1 : i = N
            · by_cases h2 : j = N
              · omega
              · rw [if_pos h1, if_neg h2] at e'
                exact absurd e'.symm (ne j (by rw [e1]; omega))
            · by_cases h2 : j = N
              · rw [if_neg h1, if_pos h2] at e'
                exact absurd e' (ne i (by rw [e1]; omega))
              · rw [if_neg h1, if_neg h2] at e'
                exact Rt.inj i j (by rw [e1]; omega) (by rw [e1]; omega) e'
          · show V.ref (s'.L n) = V.ref (if N = N then s'.L n else s'.L N)
            rw [if_pos rfl]
        | dead => exact hq.elim

def startD (N : List Str) (es : List EV) : DEnv := es.map some ++ List.replicate (N.length - es.length) none
theorem er_start {K : PySem.W.Frag} {s : Wd} {M : Nat} {N : List Str} {vs : List V} {es : List EV} (h : VL K s M vs es) : ER K s M (L2.start N vs) (startD N es) := by
  have hl := h.len
  refine ⟨by simp [L2.start, startD, hl], fun i e q => ?_⟩
  unfold startD at q
  by_cases hi : i < es.length
  · rw [List.getElem?_append_left (by simpa using hi), List.getElem?_map] at q
    cases hg : es[i]? with
    | none => rw [hg] at q; cases q
    | some e0 =>
      rw [hg] at q
      cases q
      obtain ⟨v, h1, h2⟩ := h.get hg
      refine ⟨v, ?_, h2⟩
      unfold L2.start
      rw [List.getElem?_append_left (by simp [hl]; exact hi), List.getElem?_map, h1]
      rfl
  · rw [List.getElem?_append_right (by simpa using Nat.le_of_not_lt hi)] at q
    rw [List.getElem?_replicate] at q
    split at q <;> cases q

section
variable {P : Program} {w : World} {K : PySem.W.Frag} {mg : Str → Option Value} {base : Heap}
/-- THE RULE for a def: its body's data reading, and that the contract gives it -/
theorem fd_of {x qual : Str} {st : Stmt} {f : Addr} {fd : FuncData} {N ps : List Str} {k : Nat} {sp : SpD} {td : TDS} (F : Fun K x qual st f fd) (S : FnScope N ps (defScope st))
    (body : ∀ (cdv : Value) (A : Around) (outer : List Env) (s : Shared) (H : Hp) (E : XK), Room k (A.deeper (envOfC qual (defScope st) s.heap.objs.size f cdv)) →
      DSs (cxOf (L2.CX P w) P w K mg base N qual (defScope st) f cdv A outer s H E) (fun cls d _ H => E cls d H) (defBody st) td)
    (h : ∀ (es : List EV) (μ : Mu) (q : PQ) (x : XQ), es.length = ps.length → sp es μ q x → td { nx := fun _ μ' => exitQ μ.length q (.dat .none) μ', rt := exitQ μ.length q } (fun y μ' => x y (μ'.take μ.length)) (startD N es) μ) :
    FnOk P w K mg base (L2.CX P w) (k + 1) f fd ps (spOf K ps.length sp) := by
  refine F.okX S (fun vs H Q E hs => hs.1) fun cdv A outer sh H vs Q E hr hs => ?_
  obtain ⟨hl, s, μ, es, q, x, rfl, R, hv, hsp, l, lx⟩ := hs
  obtain ⟨t, p, g⟩ := (body cdv A outer sh s.H E hr).ex
  have l' := exit_ok l fun n hn => R.here hn
  refine ⟨t, p, g s _ (startD N es) μ _ _ _ ⟨R, er_start hv⟩ (h es μ q x (by rw [← hv.len]; exact hl) hsp) ⟨fun η' μ' σ' s' hq x' S' => ?_, l', fun _ _ _ _ z => z.elim, fun _ _ _ _ z => z.elim, fun y μ' cls dd σ' s' hq x' R' r => ?_⟩⟩
  · exact l' (.dat .none) μ' .non s' hq x' S'.rep .non trivial
  · have e1 : (μ'.take μ.length).length = μ.length := by rw [List.length_take]; have := x'.le; omega
    exact lx y _ cls dd s' hq (by rw [e1]; exact x'.take (Nat.le_refl _) x'.le) (R'.take _) r
end

/-- what stands at a def's name -/
structure DefAt (P : Program) (w : World) (K : PySem.W.Frag) (mg : Str → Option Value) (base : Heap) (x : Str) (k : Nat) (ps : List Str) (dvs : List V) (ds : List Value) (sp : SpD) : Prop where
  ex : ∃ (f : Addr) (fd : FuncData), FnOk P w K mg base (L2.CX P w) k f fd ps (spOf K ps.length sp) ∧ mg x = some (.ref f) ∧ PySem.W.keepIn K (.ref f) = true ∧ Binds K fd ps ds
  dv : Vals dvs ds
section
variable {X : Cx} {W : WX} {x : Str} {p pos : Pos} {k j : Nat} {ps : List Str} {dvs : List V} {ds : List Value} {sp : SpD} {e : Expr} {es : List Expr} {t : TDA}
def allOld : List EV → Bool
  | [] => true
  | e :: es => noNew e && allOld es
/-- f(e, ..), an own def; the defaults des fill up -/
def dCall (n : Nat) (sp : SpD) (des : List EV) (t : TDA) : TDE := fun η μ q E => t η μ (fun es μ1 => allOld es = true ∧ (es ++ des).length = n ∧ sp (es ++ des) μ1 q E) E
theorem de_call {des : List EV} (F : DefAt X.prog X.w X.K X.mg X.base x k ps dvs ds sp) (hr : Room j X.A) (hj : k ≤ j) (hg : Gl X x) (tk : Takes X W) (hn : ∀ (s : Wd) (N : Nat), VL X.K s N dvs des) (ha : DA X W (e :: es) t)
    (hdb : (x == ("__debug__" : Str)) = false := by decide) (he : starEach (e :: es) X.env = (false, eval e X.env) :: starEach es X.env := by rfl) (hpl : (backTo pos (starEach es X.env)).any (·.1) = false := by rfl) :
    DE X W (.Call (.Name x p) (e :: es) [] pos) (dCall ps.length sp des t) := by
  obtain ⟨f, fd, G, hm, hk, hb⟩ := F.ex
  obtain ⟨t1, p1, g1⟩ := ha.ex
  refine de_pe (pe_callSD (E := WE W) G (hr.mono hj) hg hm hk hb F.dv (fun σ => passAt tk σ) p1 hdb he hpl) fun s σ η μ Q q E S hq l lx => g1 s σ η μ _ _ E S hq (fun es' μ1 vs s1 hk1 x1 R1 r1 => ?_) lx
  obtain ⟨ho, hl, hk1⟩ := hk1
  have hv := r1.vl.append (hn s1 μ1.length)
  exact ⟨hv.len.trans hl, s1, μ1, es' ++ des, q, E, rfl, R1, hv, hk1, l.go x1 R1, lx.go x1 R1⟩
/-- f() -/
theorem de_call0 {des : List EV} (F : DefAt X.prog X.w X.K X.mg X.base x k ps dvs ds sp) (hr : Room j X.A) (hj : k ≤ j) (hg : Gl X x) (tk : Takes X W) (hn : ∀ (s : Wd) (N : Nat), VL X.K s N dvs des)
    (hdb : (x == ("__debug__" : Str)) = false := by decide) : DE X W (.Call (.Name x p) [] [] pos) (dCall ps.length sp des aNil) := by
  obtain ⟨f, fd, G, hm, hk, hb⟩ := F.ex
  have P : PE X (.Call (.Name x p) [] [] pos) (tCallSD (spOf X.K ps.length sp) dvs (WE W) tNil) := by
    refine ⟨fun pins s σ H Q I h => ?_⟩
    refine wpAny_Call_Name_kw (ld_glob I hg hm ?_ hdb)
    exact PySem.W.callWith_K0 I.kIn hk (run_fnSD (us := []) G (hr.mono hj) hb F.dv (passAt tk σ) I .nil h)
  refine de_pe P fun s σ η μ Q q E S hq l lx => ?_
  obtain ⟨ho, hl, hk1⟩ := hq
  have hv : VL X.K s μ.length ([] ++ dvs) ([] ++ des) := VL.append .nil (hn s μ.length)
  exact ⟨hv.len.trans hl, s, μ, [] ++ des, q, E, rfl, S.rep, hv, hk1, l, lx⟩
end
end DL

set_option Elab.async false
set_option linter.all false
set_option maxRecDepth 100000
set_option maxHeartbeats 4000000
namespace DL
open PySem L2 PyProof.Rows

/-! ### what is read of a value -/
def lstOf (μ : Mu) : EV → Option (List PyData)
  | .dat (.list xs) => some xs
  | .new xs => some xs
  | .loc n => match μ[n]? with
    | some (.lst xs) => some xs
    | some (.frz xs) => some xs
    | _ => none
  | _ => none
def tupOf : EV → Option (List PyData)
  | .dat (.tuple xs) => some xs
  | _ => none
def roOf : EV → Option (List PyData)
  | .ro xs => some xs
  | _ => none
def seqOf (μ : Mu) (e : EV) : Option (List PyData) := match tupOf e with
  | some xs => some xs
  | none => match roOf e with
    | some xs => some xs
    | none => lstOf μ e
def datOf (μ : Mu) : EV → Option PyData
  | .dat d => some d
  | e => (lstOf μ e).map .list
section
variable {K : PySem.W.Frag} {s s0 : Wd} {N0 : Nat} {μ : Mu} {v : V} {e : EV}
theorem lst_ok {xs : List PyData} (R : Rep K s μ) (r : VR K s μ.length v e) (h : lstOf μ e = some xs) : ∃ a vs, v = .ref a ∧ s.H a = some (.lst vs) ∧ DRs K s.F vs xs := by
  unfold lstOf at h
  split at h
  · cases h
    have r' : DR K s.F v (.list xs) := r
    cases r' with
    | lst h hs => exact ⟨_, _, rfl, R.sub _ _ h, hs⟩
  · cases h
    obtain ⟨p, vs, a1, a2, a3, a4, a5⟩ := r
    exact ⟨p, vs, a1, a2, a5⟩
  · rename_i n
    obtain ⟨hn, rfl⟩ := r
    cases hc : μ[n]? with
    | none => rw [hc] at h; cases h
    | some c =>
      rw [hc] at h
      have C := R.cell n c hc
      cases c with
      | lst ys => cases h; obtain ⟨_, vs, a1, a2⟩ := C; exact ⟨_, vs, rfl, a1, a2⟩
      | frz ys => cases h; obtain ⟨vs, a1, a2⟩ := C; exact ⟨_, vs, rfl, R.sub _ _ a1, a2⟩
      | dct _ => cases h
      | dead => cases h
  · cases h
theorem tup_ok {xs : List PyData} (R : Rep K s μ) (r : VR K s μ.length v e) (h : tupOf e = some xs) : ∃ a vs, v = .ref a ∧ SqT K s.H a vs ∧ DRs K s.F vs xs := by
  unfold tupOf at h
  split at h
  · cases h
    have r' : DR K s.F v (.tuple xs) := r
    cases r' with
    | tup h hs => exact ⟨_, _, rfl, sqT_mono R.sub h, hs⟩
  · cases h
theorem seq_ok {xs : List PyData} (R : Rep K s μ) (r : VR K s μ.length v e) (h : seqOf μ e = some xs) : ∃ a vs, v = .ref a ∧ (SqL K s.H a vs ∨ SqT K s.H a vs) ∧ DRs K s.F vs xs := by
  unfold seqOf at h
  split at h
  · rename_i ys hy
    cases h
    obtain ⟨a, vs, h1, h2, h3⟩ := tup_ok R r hy
    exact ⟨a, vs, h1, .inr h2, h3⟩
  · split at h
    · rename_i ys hy
      cases h
      unfold roOf at hy
      split at hy
      · cases hy
        obtain ⟨a, vs, h1, h2, h3⟩ := r
        exact ⟨a, vs, h1, .inl (R.sub.seq h2), h3⟩
      · cases hy
    · obtain ⟨a, vs, h1, h2, h3⟩ := lst_ok R r h
      exact ⟨a, vs, h1, .inl (SqL.of h2), h3⟩
theorem dat_ok {d : PyData} (R : Rep K s μ) (r : VR K s μ.length v e) (h : datOf μ e = some d) : Dp K s.H v d ∧ d.canLay0 = true := by
  have key : ∀ xs, lstOf μ e = some xs → Dp K s.H v (.list xs) ∧ (PyData.list xs).canLay0 = true := fun xs hx => by
    obtain ⟨a, vs, rfl, h2, h3⟩ := lst_ok R r hx
    exact ⟨.lst (SqL.of h2) (h3.mono R.sub).dp, by simp [PyData.canLay0, h3.lay]⟩
  cases e with
  | dat d' =>
    cases h
    have r' : DR K s.F v d := r
    exact ⟨(r'.mono R.sub).dp, r'.lay⟩
  | new xs =>
    cases h
    exact key _ rfl
  | loc n =>
    have h' : (lstOf μ (.loc n)).map PyData.list = some d := h
    cases q : lstOf μ (.loc n) with
    | none => rw [q] at h'; cases h'
    | some xs =>
      rw [q] at h'
      cases h'
      exact key _ q
  | raw u => cases h
  | exc x => cases h
  | ro x => cases h
/-- a new list is answered -/
theorem ans_new {vs : List V} {ds : List PyData} {q : PQ} {Q : VK} {p : Addr} (R : Rep K s μ) (x : Ext s0 N0 s μ.length) (l : LE K s0 N0 q Q) (hq : q (.new ds) μ) (hd : DRs K s.F vs ds) (hp : s.H p = none) : Q (.ref p) (upd s.H p (.lst vs)) :=
  l (.new ds) μ (.ref p) { s with H := upd s.H p (.lst vs) } hq (x.put R hp) (R.put hp) ⟨p, vs, rfl, upd_same, R.notF hp, R.notL hp, hd⟩ (fun y hy => by cases hy; exact x.fresh R hp)
theorem ans_tup {vs : List V} {ds : List PyData} {q : PQ} {Q : VK} {p : Addr} (R : Rep K s μ) (x : Ext s0 N0 s μ.length) (l : LE K s0 N0 q Q) (hq : q (.dat (.tuple ds)) μ) (hd : DRs K s.F vs ds) (hp : s.H p = none) : Q (.ref p) (upd s.H p (.tup vs)) := by
  have kF : Same s.F (upd s.F p (.tup vs)) := fun a u q => by rw [upd_ne (ne_of_none q (R.notF hp))]; exact q
  exact l (.dat (.tuple ds)) μ (.ref p) { s with H := upd s.H p (.tup vs), F := upd s.F p (.tup vs) } hq (x.putF R hp) (R.putF hp) (.tup (SqT.of upd_same) (hd.mono kF)) trivial
theorem ans {d : PyData} {q : PQ} {Q : VK} (R : Rep K s μ) (x : Ext s0 N0 s μ.length) (l : LE K s0 N0 q Q) (hq : q (.dat d) μ) (hd : DR K s.F v d) : Q v s.H := l (.dat d) μ v s hq x R hd trivial
theorem tupR {a : Addr} {vs : List V} {ds : List PyData} (r : VR K s μ.length (.ref a) (.dat (.tuple ds))) : DR K s.F (.ref a) (.tuple ds) := r
end

section
variable {X : Cx}
/-! ### + -/
def oAdd : OD := fun x y μ q => match x, y with
  | .dat (.int i), .dat (.int j) => q (.dat (.int (i + j))) μ
  | .dat (.str a), .dat (.str b) => a.length + b.length ≤ 100000 ∧ q (.dat (.str (a ++ b))) μ
  | .dat (.tuple a), .dat (.tuple b) => a.length + b.length ≤ 100000 ∧ q (.dat (.tuple (a ++ b))) μ
  | x, y => match lstOf μ x, lstOf μ y with
    | some a, some b => a.length + b.length ≤ 100000 ∧ q (.new (a ++ b)) μ
    | _, _ => False
abbrev rAddA (K : PySem.W.Frag) : R2 := fun x y H Q => rI0 (fun i j => V.int (i + j)) x y H Q ∨ ((∃ i j, x = .str i ∧ y = .str j ∧ i.length + j.length ≤ sizeLine ∧ Q (.str (i ++ j)) H) ∨ (rCatA K x y H Q ∨ rCat x y H Q))
theorem opA_add : OpR X (binaryOp .Add) (rAddA X.K) := op_add.or (op_add_str.or (op_catA.or op_cat))
theorem strOk_app {a b : Str} (h1 : PyData.strOk a = true) (h2 : PyData.strOk b = true) : PyData.strOk (a ++ b) = true := by
  unfold PyData.strOk at *
  show (a.cps ++ b.cps).all _ = true
  rw [Array.all_append, h1, h2]
  rfl
theorem os_add {K : PySem.W.Frag} : OpS K (rAddA K) oAdd := by
  intro s0 N0 s μ x y ex ey q Q R xt rx fx ry fy h l
  unfold oAdd at h
  split at h
  · exact .inl ⟨_, _, vr_i rx, vr_i ry, ans R xt l h (.int _)⟩
  · have r1 : DR K s.F x _ := rx
    have r2 : DR K s.F y _ := ry
    cases r1 with
    | str _ h1 =>
      cases r2 with
      | str _ h2 => exact .inr (.inl ⟨_, _, rfl, rfl, line_of h.1, ans R xt l h.2 (.str _ (strOk_app h1 h2))⟩)
  · rename_i a b
    obtain ⟨p, vs, rfl, hp, hv⟩ := tup_ok R rx (e := .dat (.tuple a)) rfl
    obtain ⟨p2, ws, rfl, hp2, hw⟩ := tup_ok R ry (e := .dat (.tuple b)) rfl
    refine .inr (.inr (.inl ⟨_, _, vs, ws, rfl, rfl, hp, hp2, line_of (by rw [hv.length, hw.length]; exact h.1), fun e => ?_, fun _ e => ?_, fun _ _ p3 hp3 => ?_⟩))
    · subst e
      cases hv
      exact ans R xt l h.2 ry
    · subst e
      cases hw
      rw [List.append_nil] at h
      exact ans R xt l h.2 rx
    · exact ans_tup R xt l h.2 (hv.append hw) hp3
  · split at h
    · rename_i a b ha hb
      obtain ⟨p, vs, rfl, hp, hv⟩ := lst_ok R rx ha
      obtain ⟨p2, ws, rfl, hp2, hw⟩ := lst_ok R ry hb
      exact .inr (.inr (.inr ⟨_, _, vs, ws, rfl, rfl, hp, hp2, line_of (by rw [hv.length, hw.length]; exact h.1), fun p3 hp3 => ans_new R xt l h.2 (hv.append hw) hp3⟩))
    · exact h.elim

/-! ### operators of ints -/
def oI (C : Int → Int → Prop) (g : Int → Int → PyData) : OD := fun x y μ q => match x, y with
  | .dat (.int i), .dat (.int j) => C i j ∧ q (.dat (g i j)) μ
  | _, _ => False
theorem os_I {K : PySem.W.Frag} {C : Int → Int → Prop} {g : Int → Int → V} {g' : Int → Int → PyData} (hg : ∀ F i j, DR K F (g i j) (g' i j)) : OpS K (rI C g) (oI C g') := by
  intro s0 N0 s μ x y ex ey q Q R xt rx fx ry fy h l
  unfold oI at h
  split at h
  · exact ⟨_, _, vr_i rx, vr_i ry, h.1, ans R xt l h.2 (hg _ _ _)⟩
  · exact h.elim
def oI0 (g : Int → Int → PyData) : OD := fun x y μ q => match x, y with
  | .dat (.int i), .dat (.int j) => q (.dat (g i j)) μ
  | _, _ => False
theorem os_I0 {K : PySem.W.Frag} {g : Int → Int → V} {g' : Int → Int → PyData} (hg : ∀ F i j, DR K F (g i j) (g' i j)) : OpS K (rI0 g) (oI0 g') := by
  intro s0 N0 s μ x y ex ey q Q R xt rx fx ry fy h l
  unfold oI0 at h
  split at h
  · exact ⟨_, _, vr_i rx, vr_i ry, ans R xt l h (hg _ _ _)⟩
  · exact h.elim
abbrev oSub : OD := oI0 fun i j => .int (i - j)
theorem os_sub {K : PySem.W.Frag} : OpS K (rI0 fun i j => V.int (i - j)) oSub := os_I0 fun _ _ _ => .int _
abbrev oMod : OD := oI (fun _ j => 0 < j) fun i j => .int (i % j)
theorem os_mod {K : PySem.W.Frag} : OpS K (rI (fun _ j => 0 < j) fun i j => V.int (i % j)) oMod := os_I fun _ _ _ => .int _
abbrev oDiv : OD := oI CDiv fun i j => .int (i / j)
theorem os_div {K : PySem.W.Frag} : OpS K (rI CDiv fun i j => V.int (i / j)) oDiv := os_I fun _ _ _ => .int _
abbrev oPow : OD := oI CPow fun i j => .int (i ^ j.toNat)
theorem os_pow {K : PySem.W.Frag} : OpS K (rI CPow fun i j => V.int (i ^ j.toNat)) oPow := os_I fun _ _ _ => .int _
abbrev oShl : OD := oI CPow fun i j => .int (i * 2 ^ j.toNat)
theorem os_shl {K : PySem.W.Frag} : OpS K (rI CPow fun i j => V.int (i * 2 ^ j.toNat)) oShl := os_I fun _ _ _ => .int _
abbrev oShr : OD := oI (fun _ j => 0 ≤ j) fun i j => .int (i / 2 ^ j.toNat)
theorem os_shr {K : PySem.W.Frag} : OpS K (rI (fun _ j => 0 ≤ j) fun i j => V.int (i / 2 ^ j.toNat)) oShr := os_I fun _ _ _ => .int _
abbrev oAnd : OD := oI0 fun i j => .int (Builtin.bitAnd i j)
theorem os_and {K : PySem.W.Frag} : OpS K (rI0 fun i j => V.int (Builtin.bitAnd i j)) oAnd := os_I0 fun _ _ _ => .int _
abbrev oOr : OD := oI0 fun i j => .int (Builtin.bitOr i j)
theorem os_or {K : PySem.W.Frag} : OpS K (rI0 fun i j => V.int (Builtin.bitOr i j)) oOr := os_I0 fun _ _ _ => .int _
abbrev oXor : OD := oI0 fun i j => .int (Builtin.bitXor i j)
theorem os_xor {K : PySem.W.Frag} : OpS K (rI0 fun i j => V.int (Builtin.bitXor i j)) oXor := os_I0 fun _ _ _ => .int _
abbrev oNeg : UD := fun x μ q => match x with
  | .dat (.int i) => q (.dat (.int (-i))) μ
  | _ => False
theorem us_neg {K : PySem.W.Frag} : UnS K (rU fun i => V.int (-i)) oNeg := by
  intro s0 N0 s μ x ex q Q R xt rx fx h l
  unfold oNeg at h
  split at h
  · exact ⟨_, vr_i rx, ans R xt l h (.int _)⟩
  · exact h.elim
abbrev oInv : UD := fun x μ q => match x with
  | .dat (.int i) => q (.dat (.int (Builtin.bitNot i))) μ
  | _ => False
theorem us_inv {K : PySem.W.Frag} : UnS K (rU fun i => V.int (Builtin.bitNot i)) oInv := by
  intro s0 N0 s μ x ex q Q R xt rx fx h l
  unfold oInv at h
  split at h
  · exact ⟨_, vr_i rx, ans R xt l h (.int _)⟩
  · exact h.elim
/-! ### * -/
def oMul : OD := fun x y μ q => match x, y with
  | .dat (.int i), .dat (.int j) => CMul i j ∧ q (.dat (.int (i * j))) μ
  | .dat (.tuple a), .dat (.int k) => (a ≠ [] ∧ 2 ≤ k ∧ k ≤ 1000 ∧ a.length ≤ 1000) ∧ q (.dat (.tuple (List.replicate k.toNat a).flatten)) μ
  | x, .dat (.int k) => match lstOf μ x with
    | some a => (-1000 ≤ k ∧ k ≤ 1000 ∧ a.length ≤ 1000) ∧ q (.new (List.replicate k.toNat a).flatten) μ
    | none => False
  | _, _ => False
abbrev rMulA (K : PySem.W.Frag) : R2 := fun x y H Q => rI CMul (fun i j => V.int (i * j)) x y H Q ∨ (rRepT K x y H Q ∨ rRep x y H Q)
theorem opA_mul : OpR X (binaryOp .Mult) (rMulA X.K) := op_mul.or (op_repT.or op_rep)
theorem DRs.rep {K : PySem.W.Frag} {F : Hp} {vs : List V} {ds : List PyData} (h : DRs K F vs ds) : ∀ k : Nat, DRs K F (List.replicate k vs).flatten (List.replicate k ds).flatten
  | 0 => .nil
  | k + 1 => by
    rw [List.replicate_succ, List.replicate_succ, List.flatten_cons, List.flatten_cons]
    exact h.append (h.rep k)
theorem os_mul {K : PySem.W.Frag} : OpS K (rMulA K) oMul := by
  intro s0 N0 s μ x y ex ey q Q R xt rx fx ry fy h l
  unfold oMul at h
  split at h
  · exact .inl ⟨_, _, vr_i rx, vr_i ry, h.1, ans R xt l h.2 (.int _)⟩
  · rename_i a k
    obtain ⟨p, vs, rfl, hp, hv⟩ := tup_ok R rx (e := .dat (.tuple a)) rfl
    obtain ⟨⟨h1, h2, h3, h4⟩, h⟩ := h
    exact .inr (.inl ⟨_, _, vs, rfl, vr_i ry, hp, fun e => h1 (by subst e; cases hv; rfl), h2, h3, by rw [hv.length]; exact h4, fun p3 hp3 => ans_tup R xt l h (hv.rep _) hp3⟩)
  · rename_i k _ _
    split at h
    · rename_i a ha
      obtain ⟨p, vs, rfl, hp, hv⟩ := lst_ok R rx ha
      obtain ⟨⟨h1, h2, h4⟩, h⟩ := h
      refine .inr (.inr ⟨_, _, vs, rfl, vr_i ry, hp, by omega, by omega, Nat.le_trans ?_ (show 1000 * 1000 ≤ sizeLine by decide), fun p3 hp3 => ans_new R xt l h (hv.rep _) hp3⟩)
      rw [hv.length]
      have : k.toNat ≤ 1000 := by omega
      exact Nat.mul_le_mul h4 this
    · exact h.elim
  · exact h.elim

/-! ### comparisons -/
def scalD : PyData → PyData → Bool
  | .list _, _ => false
  | .tuple _, _ => false
  | .dict _, _ => false
  | _, .list _ => false
  | _, .tuple _ => false
  | _, .dict _ => false
  | _, _ => true
def oEq : OD := fun x y μ q => match datOf μ x, datOf μ y with
  | some d, some e => min d.depth e.depth ≤ 64 ∧ q (.dat (.bool (PyData.eqv d e))) μ
  | _, _ => False
def oNe : OD := fun x y μ q => match datOf μ x, datOf μ y with
  | some d, some e => min d.depth e.depth ≤ 64 ∧ q (.dat (.bool (!PyData.eqv d e))) μ
  | _, _ => False
abbrev rEqR (K : PySem.W.Frag) : R2 := fun x y H Q => ∃ d e, Dp K H x d ∧ Dp K H y e ∧ d.canLay0 = true ∧ e.canLay0 = true ∧ min d.depth e.depth ≤ 64 ∧ Q (.bl (PyData.eqv d e)) H
abbrev rNeR (K : PySem.W.Frag) : R2 := fun x y H Q => ∃ d e, Dp K H x d ∧ Dp K H y e ∧ d.canLay0 = true ∧ e.canLay0 = true ∧ min d.depth e.depth ≤ 64 ∧ Q (.bl (!PyData.eqv d e)) H
theorem opA_eq (hu : X.A.units + 64 < cLine) : OpR X (compareOp .Eq) (rEqR X.K) := by
  intro pins s σ H x y v u Q I rx ry h
  obtain ⟨d, e, hd, he, sd, se, hm, q⟩ := h
  obtain ⟨as, r1⟩ := Dp.reads I d x v hd rx
  obtain ⟨bs, r2⟩ := Dp.reads I e y u he ry
  exact SeqAt.compareEq_reads r1 r2 sd se (by omega) ⟨.bl _, H, I, rfl, q⟩
theorem opA_ne (hu : X.A.units + 64 < cLine) : OpR X (compareOp .NotEq) (rNeR X.K) := by
  intro pins s σ H x y v u Q I rx ry h
  obtain ⟨d, e, hd, he, sd, se, hm, q⟩ := h
  obtain ⟨as, r1⟩ := Dp.reads I d x v hd rx
  obtain ⟨bs, r2⟩ := Dp.reads I e y u he ry
  exact SeqAt.compareNe_reads r1 r2 sd se (by omega) ⟨.bl _, H, I, rfl, q⟩
theorem os_eq {K : PySem.W.Frag} : OpS K (rEqR K) oEq := by
  intro s0 N0 s μ x y ex ey q Q R xt rx fx ry fy h l
  unfold oEq at h
  split at h
  · rename_i d e hd he
    obtain ⟨a1, a2⟩ := dat_ok R rx hd
    obtain ⟨b1, b2⟩ := dat_ok R ry he
    exact ⟨d, e, a1, b1, a2, b2, h.1, ans R xt l h.2 (.bl _)⟩
  · exact h.elim
theorem os_ne {K : PySem.W.Frag} : OpS K (rNeR K) oNe := by
  intro s0 N0 s μ x y ex ey q Q R xt rx fx ry fy h l
  unfold oNe at h
  split at h
  · rename_i d e hd he
    obtain ⟨a1, a2⟩ := dat_ok R rx hd
    obtain ⟨b1, b2⟩ := dat_ok R ry he
    exact ⟨d, e, a1, b1, a2, b2, h.1, ans R xt l h.2 (.bl _)⟩
  · exact h.elim
abbrev oLt : OD := oI0 fun i j => .bool (decide (i < j))
theorem os_lt {K : PySem.W.Frag} : OpS K (rI0 fun i j => V.bl (decide (i < j))) oLt := os_I0 fun _ _ _ => .bl _
abbrev oLe : OD := oI0 fun i j => .bool (decide (i ≤ j))
theorem os_le {K : PySem.W.Frag} : OpS K (rI0 fun i j => V.bl (decide (i ≤ j))) oLe := os_I0 fun _ _ _ => .bl _
abbrev oGt : OD := oI0 fun i j => .bool (decide (j < i))
theorem os_gt {K : PySem.W.Frag} : OpS K (rI0 fun i j => V.bl (decide (j < i))) oGt := os_I0 fun _ _ _ => .bl _
abbrev oGe : OD := oI0 fun i j => .bool (decide (j ≤ i))
theorem os_ge {K : PySem.W.Frag} : OpS K (rI0 fun i j => V.bl (decide (j ≤ i))) oGe := os_I0 fun _ _ _ => .bl _
/-- is None -/
def isNon : EV → Bool
  | .dat .none => true
  | _ => false
def isRaw : EV → Bool
  | .raw _ => true
  | _ => false
def oIsN : OD := fun x y μ q => isRaw x = false ∧ isNon y = true ∧ q (.dat (.bool (isNon x))) μ
def oNotN : OD := fun x y μ q => isRaw x = false ∧ isNon y = true ∧ q (.dat (.bool (!isNon x))) μ
theorem non_iff {K : PySem.W.Frag} {s : Wd} {μ : Mu} {v : V} {e : EV} (r : VR K s μ.length v e) (h : isRaw e = false) : decide (v = .non) = isNon e := by
  cases e with
  | dat d =>
    have r' : DR K s.F v d := r
    cases r' <;> rfl
  | loc n => obtain ⟨_, rfl⟩ := r; rfl
  | new xs => obtain ⟨p, vs, rfl, _⟩ := r; rfl
  | raw u => cases h
  | exc x => obtain ⟨a, rfl, _⟩ := r; rfl
  | ro x => obtain ⟨a, vs, rfl, _⟩ := r; rfl
theorem isNon_ok {K : PySem.W.Frag} {s : Wd} {μ : Mu} {v : V} {e : EV} (r : VR K s μ.length v e) (h : isNon e = true) : v = .non := by
  unfold isNon at h
  split at h
  · exact vr_n r
  · cases h
theorem os_isN {K : PySem.W.Frag} : OpS K (fun x y H Q => y = .non ∧ Q (.bl (decide (x = .non))) H) oIsN := by
  intro s0 N0 s μ x y ex ey q Q R xt rx fx ry fy h l
  obtain ⟨h1, h2, h3⟩ := h
  refine ⟨isNon_ok ry h2, ?_⟩
  rw [non_iff rx h1]
  exact ans R xt l h3 (.bl _)
theorem os_notN {K : PySem.W.Frag} : OpS K (fun x y H Q => y = .non ∧ Q (.bl (!decide (x = .non))) H) oNotN := by
  intro s0 N0 s μ x y ex ey q Q R xt rx fx ry fy h l
  obtain ⟨h1, h2, h3⟩ := h
  refine ⟨isNon_ok ry h2, ?_⟩
  rw [non_iff rx h1]
  exact ans R xt l h3 (.bl _)
/-- one sign within a text -/
def oInSign (neg : Bool) : OD := fun x y μ q => match x, y with
  | .dat (.str a), .dat (.str z) => ∃ c, a = ⟨#[c]⟩ ∧ q (.dat (.bool (if neg then !decide (c ∈ z.cps.toList) else decide (c ∈ z.cps.toList)))) μ
  | _, _ => False
theorem os_inSign {K : PySem.W.Frag} : OpS K (fun x y H Q => ∃ (c : Nat) (z : Str), x = .str ⟨#[c]⟩ ∧ y = .str z ∧ Q (.bl (decide (c ∈ z.cps.toList))) H) (oInSign false) := by
  intro s0 N0 s μ x y ex ey q Q R xt rx fx ry fy h l
  unfold oInSign at h
  split at h
  · obtain ⟨c, rfl, h⟩ := h
    exact ⟨c, _, vr_s rx, vr_s ry, ans R xt l h (.bl _)⟩
  · exact h.elim
theorem os_notInSign {K : PySem.W.Frag} : OpS K (fun x y H Q => ∃ (c : Nat) (z : Str), x = .str ⟨#[c]⟩ ∧ y = .str z ∧ Q (.bl (!decide (c ∈ z.cps.toList))) H) (oInSign true) := by
  intro s0 N0 s μ x y ex ey q Q R xt rx fx ry fy h l
  unfold oInSign at h
  split at h
  · obtain ⟨c, rfl, h⟩ := h
    exact ⟨c, _, vr_s rx, vr_s ry, ans R xt l h (.bl _)⟩
  · exact h.elim

/-! ### subscripts, slices -/
def oIx : OD := fun x y μ q => match y with
  | .dat (.int i) => match x with
    | .dat (.str z) => z.length ≤ 100000 ∧ ∃ c, atI z.cps.toList i = some c ∧ q (.dat (.str ⟨#[c]⟩)) μ
    | x => match seqOf μ x with
      | some ds => ∃ d, atI ds i = some d ∧ q (.dat d) μ
      | none => False
  | _ => False
theorem atI_len {α β : Type} {xs : List α} {ys : List β} (h : xs.length = ys.length) {i : Int} {y : β} (e : atI ys i = some y) : ∃ j, ixN xs.length i = some j ∧ ys[j]? = some y := by
  unfold atI at e
  rw [h]
  cases q : ixN ys.length i with
  | none => rw [q] at e; cases e
  | some j => rw [q] at e; exact ⟨j, rfl, e⟩
theorem DRs.atI {K : PySem.W.Frag} {F : Hp} {vs : List V} {ds : List PyData} {i : Int} {d : PyData} (h : DRs K F vs ds) (e : L2.atI ds i = some d) : ∃ v, L2.atI vs i = some v ∧ DR K F v d := by
  obtain ⟨j, h1, h2⟩ := atI_len h.length e
  obtain ⟨v, h3, h4⟩ := h.get h2
  refine ⟨v, ?_, h4⟩
  unfold L2.atI
  rw [h1]
  exact h3
theorem strOk_at {z : Str} {c : Nat} (h : PyData.strOk z = true) (hc : c ∈ z.cps.toList) : PyData.strOk ⟨#[c]⟩ = true := by
  unfold PyData.strOk at *
  rw [Array.all_eq_true_iff_forall_mem] at h
  have := h c (by simpa using hc)
  simpa using this
theorem atI_mem {α : Type} {xs : List α} {i : Int} {c : α} (h : L2.atI xs i = some c) : c ∈ xs := by
  unfold L2.atI at h
  cases q : ixN xs.length i with
  | none => rw [q] at h; cases h
  | some j => rw [q] at h; exact List.mem_of_getElem? h
theorem os_ix {K : PySem.W.Frag} : OpS K (rIx K) oIx := by
  intro s0 N0 s μ x y ex ey q Q R xt rx fx ry fy h l
  unfold oIx at h
  split at h
  · split at h
    · obtain ⟨hz, c, hc, h⟩ := h
      have r1 : DR K s.F x _ := rx
      cases r1 with
      | str _ h1 => exact .inr (.inr ⟨_, _, c, rfl, vr_i ry, line_of hz, hc, ans R xt l h (.str _ (strOk_at h1 (atI_mem hc)))⟩)
    · split at h
      · rename_i ds hds
        obtain ⟨d, hd, h⟩ := h
        obtain ⟨a, vs, rfl, hs, hv⟩ := seq_ok R rx hds
        obtain ⟨v, h1, h2⟩ := hv.atI hd
        rcases hs with hs | hs
        · exact .inl ⟨_, vs, _, v, rfl, vr_i ry, hs, h1, ans R xt l h h2⟩
        · exact .inr (.inl ⟨_, vs, _, v, rfl, vr_i ry, hs, h1, ans R xt l h h2⟩)
      · exact h.elim
  · exact h.elim
def cutD (ds : List PyData) (lo hi : Option Int) : List PyData := (ds.drop (HT.sIx ds.length 0 lo)).take (HT.sIx ds.length ds.length hi - HT.sIx ds.length 0 lo)
theorem DRs.cut {K : PySem.W.Frag} {F : Hp} {vs : List V} {ds : List PyData} (h : DRs K F vs ds) (lo hi : Option Int) : DRs K F (cutV vs lo hi) (cutD ds lo hi) := by
  unfold cutV cutD
  rw [h.length]
  exact (h.drop _).take _
abbrev rSlAny (K : PySem.W.Frag) : V → Option Int → Option Int → Hp → VK → Prop := fun x lo hi H Q => rSlL K x lo hi H Q ∨ (rSlA K x lo hi H Q ∨ rSlS x lo hi H Q)
theorem slA : SlR X (rSlAny X.K) := sl_list.or (sl_tupA.or sl_str)
def oSl : SD := fun x lo hi μ q => match x with
  | .dat (.str z) => z.length ≤ 100000 ∧ q (.dat (.str (cutS z lo hi))) μ
  | .dat (.tuple ds) => q (.dat (.tuple (cutD ds lo hi))) μ
  | .ro ds => q (.new (cutD ds lo hi)) μ
  | x => match lstOf μ x with
    | some ds => q (.new (cutD ds lo hi)) μ
    | none => False
theorem cutD_whole {ds : List PyData} {lo hi : Option Int} (h1 : HT.sIx ds.length 0 lo = 0) (h2 : HT.sIx ds.length ds.length hi = ds.length) : cutD ds lo hi = ds := by
  unfold cutD
  rw [h1, h2]
  simp
theorem strOk_cut {z : Str} {lo hi : Option Int} (h : PyData.strOk z = true) : PyData.strOk (cutS z lo hi) = true := by
  unfold PyData.strOk cutS at *
  rw [Array.all_eq_true_iff_forall_mem] at *
  intro c hc
  refine h c ?_
  have h1 : c ∈ (z.cps.toList.drop (HT.sIx z.length 0 lo)).take (HT.sIx z.length z.length hi - HT.sIx z.length 0 lo) := by simpa using hc
  exact Array.mem_toList_iff.mp (List.mem_of_mem_drop (List.mem_of_mem_take h1))
theorem os_sl {K : PySem.W.Frag} : SlS K (rSlAny K) oSl := by
  intro s0 N0 s μ x ex lo hi q Q R xt rx fx h l
  unfold oSl at h
  split at h
  · have r1 : DR K s.F x _ := rx
    cases r1 with
    | str _ h1 => exact .inr (.inr ⟨_, rfl, line_of h.1, ans R xt l h.2 (.str _ (strOk_cut h1))⟩)
  · rename_i ds
    obtain ⟨p, vs, rfl, hp, hv⟩ := tup_ok R rx (e := .dat (.tuple ds)) rfl
    refine .inr (.inl ⟨p, vs, rfl, hp, fun e => ?_, fun _ p3 hp3 => ans_tup R xt l h (hv.cut lo hi) hp3⟩)
    rw [hv.length] at e
    rw [cutD_whole e.1 e.2] at h
    exact ans R xt l h rx
  · obtain ⟨p, vs, rfl, hp, hv⟩ := rx
    exact .inl ⟨p, vs, rfl, R.sub.seq hp, fun p3 hp3 => ans_new R xt l h (hv.cut lo hi) hp3⟩
  · split at h
    · rename_i ds hds
      obtain ⟨p, vs, rfl, hp, hv⟩ := lst_ok R rx hds
      exact .inl ⟨p, vs, rfl, SqL.of hp, fun p3 hp3 => ans_new R xt l h (hv.cut lo hi) hp3⟩
    · exact h.elim

/-! ### built-ins -/
/-- len -/
def oLen : CD := fun es μ q => match es with
  | [.dat (.str z)] => z.length ≤ 100000 ∧ q (.dat (.int z.length)) μ
  | [e] => match seqOf μ e with
    | some ds => q (.dat (.int ds.length)) μ
    | none => False
  | _ => False
theorem cs_len {K : PySem.W.Frag} : CallS K (fun xs H Q => ∃ x n, xs = [x] ∧ LenV K x H n ∧ Q (.int n) H) oLen := by
  intro s0 N0 s μ xs es q Q R xt r h l
  unfold oLen at h
  split at h
  · cases r with
    | cons rx fx rr =>
      cases rr
      exact ⟨_, _, rfl, by rw [vr_s rx]; exact ⟨line_of h.1, rfl⟩, ans R xt l h.2 (.int _)⟩
  · cases r with
    | cons rx fx rr =>
      cases rr
      split at h
      · rename_i ds hds
        obtain ⟨a, vs, rfl, hs, hv⟩ := seq_ok R rx hds
        refine ⟨_, ds.length, rfl, ?_, ans R xt l h (.int _)⟩
        rcases hs with hs | hs
        · exact .inl ⟨vs, hs, hv.length.symm⟩
        · exact .inr ⟨vs, hs, hv.length.symm⟩
      · exact h.elim
  · exact h.elim
/-- list(x), tuple(x) of a list or a tuple -/
def oList : CD := fun es μ q => match es with
  | [e] => match seqOf μ e with
    | some ds => q (.new ds) μ
    | none => False
  | _ => False
theorem cs_list {K : PySem.W.Frag} : CallS K (fun xs H Q => ∃ p ys, xs = [.ref p] ∧ (SqL K H p ys ∨ SqT K H p ys) ∧ ∀ l, H l = none → Q (.ref l) (upd H l (.lst ys))) oList := by
  intro s0 N0 s μ xs es q Q R xt r h l
  unfold oList at h
  split at h
  · cases r with
    | cons rx fx rr =>
      cases rr
      split at h
      · rename_i ds hds
        obtain ⟨a, vs, rfl, hs, hv⟩ := seq_ok R rx hds
        exact ⟨a, vs, rfl, hs, fun p hp => ans_new R xt l h hv hp⟩
      · exact h.elim
  · exact h.elim
def oTuple : CD := fun es μ q => match es with
  | [e] => match seqOf μ e with
    | some ds => q (.dat (.tuple ds)) μ
    | none => False
  | _ => False
theorem cs_tuple {K : PySem.W.Frag} : CallS K (fun xs H Q => ∃ p ys, xs = [.ref p] ∧ ((SqL K H p ys ∧ ∀ l, H l = none → Q (.ref l) (upd H l (.tup ys))) ∨ (SqT K H p ys ∧ Q (.ref p) H))) oTuple := by
  intro s0 N0 s μ xs es q Q R xt r h l
  unfold oTuple at h
  split at h
  · rename_i e
    cases r with
    | cons rx fx rr =>
      cases rr
      unfold seqOf at h
      cases ht : tupOf e with
      | some ds =>
        rw [ht] at h
        obtain ⟨a, vs, rfl, hs, hv⟩ := tup_ok R rx ht
        have : e = .dat (.tuple ds) := by
          unfold tupOf at ht
          split at ht
          · cases ht; rfl
          · cases ht
        subst this
        exact ⟨a, vs, rfl, .inr ⟨hs, ans R xt l h rx⟩⟩
      | none =>
        rw [ht] at h
        cases hr : roOf e with
        | some ds =>
          rw [hr] at h
          cases e with
          | ro ys =>
            cases hr
            obtain ⟨a, vs, rfl, hs, hv⟩ := rx
            exact ⟨a, vs, rfl, .inl ⟨R.sub.seq hs, fun p hp => ans_tup R xt l h hv hp⟩⟩
          | _ => cases hr
        | none =>
        rw [hr] at h
        cases hl : lstOf μ e with
        | none => rw [hl] at h; exact h.elim
        | some ds =>
          rw [hl] at h
          obtain ⟨a, vs, rfl, hs, hv⟩ := lst_ok R rx hl
          exact ⟨a, vs, rfl, .inl ⟨SqL.of hs, fun p hp => ans_tup R xt l h hv hp⟩⟩
  · exact h.elim
/-- max, min of two -/
def oMax2 : CD := fun es μ q => match es with
  | [.dat (.int i), .dat (.int j)] => q (.dat (.int (if j > i then j else i))) μ
  | _ => False
def oMin2 : CD := fun es μ q => match es with
  | [.dat (.int i), .dat (.int j)] => q (.dat (.int (if j < i then j else i))) μ
  | _ => False
theorem cs_max2 {K : PySem.W.Frag} : CallS K (fun xs H Q => ∃ i j, xs = [.int i, .int j] ∧ Q (.int (if j > i then j else i)) H) oMax2 := by
  intro s0 N0 s μ xs es q Q R xt r h l
  unfold oMax2 at h
  split at h
  · cases r with
    | cons rx fx rr =>
      cases rr with
      | cons ry fy rr =>
        cases rr
        exact ⟨_, _, by rw [vr_i rx, vr_i ry], ans R xt l h (.int _)⟩
  · exact h.elim
theorem cs_min2 {K : PySem.W.Frag} : CallS K (fun xs H Q => ∃ i j, xs = [.int i, .int j] ∧ Q (.int (if j < i then j else i)) H) oMin2 := by
  intro s0 N0 s μ xs es q Q R xt r h l
  unfold oMin2 at h
  split at h
  · cases r with
    | cons rx fx rr =>
      cases rr with
      | cons ry fy rr =>
        cases rr
        exact ⟨_, _, by rw [vr_i rx, vr_i ry], ans R xt l h (.int _)⟩
  · exact h.elim
/-- all, any of a list of truths -/
def boolsOf : List PyData → Option (List Bool)
  | [] => some []
  | .bool b :: r => (boolsOf r).map (b :: ·)
  | _ :: _ => none
theorem bools_map (bs : List Bool) : boolsOf (bs.map .bool) = some bs := by
  induction bs with
  | nil => rfl
  | cons b r ih => show (boolsOf (r.map .bool)).map _ = _; rw [ih]; rfl
theorem bools_ok {K : PySem.W.Frag} {F : Hp} : ∀ {vs : List V} {ds : List PyData} {bs : List Bool}, DRs K F vs ds → boolsOf ds = some bs → vs = bs.map V.bl
  | _, _, _, .nil, h => by cases h; rfl
  | _, _, _, .cons (ds := ds) r rs, h => by
    cases r with
    | bl b =>
      unfold boolsOf at h
      cases q : boolsOf ds with
      | none => rw [q] at h; cases h
      | some cs =>
        rw [q] at h
        cases h
        rw [bools_ok rs q]
        rfl
    | _ => cases h
def oAll (f : List Bool → Bool) : CD := fun es μ q => match es with
  | [e] => match lstOf μ e with
    | some ds => match boolsOf ds with
      | some bs => q (.dat (.bool (f bs))) μ
      | none => False
    | none => False
  | _ => False
theorem cs_all {K : PySem.W.Frag} : CallS K (rAll K) (oAll fun bs => bs.all id) := by
  intro s0 N0 s μ xs es q Q R xt r h l
  unfold oAll at h
  split at h
  · cases r with
    | cons rx fx rr =>
      cases rr
      split at h
      · rename_i ds hds
        split at h
        · rename_i bs hbs
          obtain ⟨a, vs, rfl, hs, hv⟩ := lst_ok R rx hds
          obtain rfl := bools_ok hv hbs
          exact ⟨a, bs, rfl, SqL.of hs, ans R xt l h (.bl _)⟩
        · exact h.elim
      · exact h.elim
  · exact h.elim
theorem cs_any {K : PySem.W.Frag} : CallS K (rAny K) (oAll fun bs => bs.any id) := by
  intro s0 N0 s μ xs es q Q R xt r h l
  unfold oAll at h
  split at h
  · cases r with
    | cons rx fx rr =>
      cases rr
      split at h
      · rename_i ds hds
        split at h
        · rename_i bs hbs
          obtain ⟨a, vs, rfl, hs, hv⟩ := lst_ok R rx hds
          obtain rfl := bools_ok hv hbs
          exact ⟨a, bs, rfl, SqL.of hs, ans R xt l h (.bl _)⟩
        · exact h.elim
      · exact h.elim
  · exact h.elim
/-- sum of ints -/
def intsOf : List PyData → Option (List Int)
  | [] => some []
  | .int b :: r => (intsOf r).map (b :: ·)
  | _ :: _ => none
theorem ints_map (bs : List Int) : intsOf (bs.map .int) = some bs := by
  induction bs with
  | nil => rfl
  | cons b r ih => show (intsOf (r.map .int)).map _ = _; rw [ih]; rfl
theorem ints_ok {K : PySem.W.Frag} {F : Hp} : ∀ {vs : List V} {ds : List PyData} {bs : List Int}, DRs K F vs ds → intsOf ds = some bs → vs = bs.map V.int
  | _, _, _, .nil, h => by cases h; rfl
  | _, _, _, .cons (ds := ds) r rs, h => by
    cases r with
    | int b =>
      unfold intsOf at h
      cases q : intsOf ds with
      | none => rw [q] at h; cases h
      | some cs =>
        rw [q] at h
        cases h
        rw [ints_ok rs q]
        rfl
    | _ => cases h
def oSum : CD := fun es μ q => match es with
  | [e] => match lstOf μ e with
    | some ds => match intsOf ds with
      | some bs => q (.dat (.int bs.sum)) μ
      | none => False
    | none => False
  | _ => False
theorem cs_sum {K : PySem.W.Frag} : CallS K (rSum K) oSum := by
  intro s0 N0 s μ xs es q Q R xt r h l
  unfold oSum at h
  split at h
  · cases r with
    | cons rx fx rr =>
      cases rr
      split at h
      · rename_i ds hds
        split at h
        · rename_i bs hbs
          obtain ⟨a, vs, rfl, hs, hv⟩ := lst_ok R rx hds
          obtain rfl := ints_ok hv hbs
          exact ⟨a, bs, rfl, SqL.of hs, ans R xt l h (.int _)⟩
        · exact h.elim
      · exact h.elim
  · exact h.elim
/-- isinstance with a built-in class -/
def tyOf : PyData → String
  | .none => "NoneType"
  | .bool _ => "bool"
  | .int _ => "int"
  | .str _ => "str"
  | .list _ => "list"
  | .tuple _ => "tuple"
  | .dict _ => "dict"
def tyE (μ : Mu) : EV → String
  | .dat d => tyOf d
  | .new _ => "list"
  | .loc n => match μ[n]? with
    | some (.lst _) => "list"
    | some (.frz _) => "list"
    | some (.dct _) => "dict"
    | _ => ""
  | _ => ""
def isT (a b : String) : Bool := a == b || (a == "bool" && b == "int")
def oIsi : CD := fun es μ q => match es with
  | [e, .raw (.ty b)] => (tyE μ e ∈ ["NoneType", "bool", "int", "str", "list", "tuple", "dict"] ∧ b ∈ ["bool", "int", "str", "list", "tuple", "dict"]) ∧ q (.dat (.bool (isT (tyE μ e) b))) μ
  | _ => False
theorem ty_ok {K : PySem.W.Frag} {s : Wd} {μ : Mu} {v : V} {e : EV} (R : Rep K s μ) (r : VR K s μ.length v e) (h : tyE μ e ∈ ["NoneType", "bool", "int", "str", "list", "tuple", "dict"]) : TyX K s.H v (.type (tyE μ e)) := by
  cases e with
  | dat d =>
    have r' : DR K s.F v d := r
    cases r' with
    | non => exact .base .non
    | bl b => exact .base (.bl b)
    | int i => exact .base (.int i)
    | str x _ => exact .base (.str x)
    | lst h1 _ => exact .base (.lst (R.sub _ _ h1))
    | tup h1 _ =>
      rcases sqT_mono R.sub h1 with (h2 | ⟨o, h2⟩) | ⟨o, its, n, h2, h3, _⟩
      · exact .base (.tup h2)
      · exact .fTuple h2
      · exact .kTuple h2 h3
  | new xs => obtain ⟨p, vs, rfl, a2, _⟩ := r; exact .base (.lst a2)
  | loc n =>
    obtain ⟨hn, rfl⟩ := r
    unfold tyE at h ⊢
    simp only at h ⊢
    cases hc : μ[n]? with
    | none => rw [hc] at h; simp at h
    | some c =>
      rw [hc] at h
      have C := R.cell n c hc
      cases c with
      | lst xs => obtain ⟨_, vs, a2, _⟩ := C; exact .base (.lst a2)
      | frz xs => obtain ⟨vs, a2, _⟩ := C; exact .base (.lst (R.sub _ _ a2))
      | dct kvs =>
        obtain ⟨_, ⟨ks, a2, _⟩ | ⟨ks, a2, _⟩⟩ := C
        · exact .base (.dK a2)
        · exact .base (.dT a2)
      | dead => simp at h
  | raw u => simp [tyE] at h
  | exc x => simp [tyE] at h
  | ro x => simp [tyE] at h
theorem kit_all : ∀ a ∈ ["NoneType", "bool", "int", "str", "list", "tuple", "dict"], ∀ b ∈ ["bool", "int", "str", "list", "tuple", "dict"], kitB a b = some (isT a b) := by decide +kernel
theorem cs_isi {K : PySem.W.Frag} : CallS K (rIsi K) oIsi := by
  intro s0 N0 s μ xs es q Q R xt r h l
  unfold oIsi at h
  split at h
  · rename_i e b
    cases r with
    | cons rx fx rr =>
      cases rr with
      | cons ry fy rr =>
        cases rr
        have ry' : _ = V.ty b := ry
        subst ry'
        exact ⟨_, _, _, _, _, rfl, .ty b, ty_ok R rx h.1.1, kit_ty (kit_all _ h.1.1 _ h.1.2), ans R xt l h.2 (.bl _)⟩
  · exact h.elim

/-! ### what is walked -/
/-- a list, a tuple, or a text -/
def iSeq (t : TDE) : TDI := fun η μ r E => t η μ (fun e μ1 => match e with
  | .loc n => match μ1[n]? with
    | some (.lst xs) => r (xs.map .dat) (fun μ => μ[n]? = some (.lst xs) ∨ μ[n]? = some (.frz xs)) μ1
    | some (.frz xs) => r (xs.map .dat) (fun _ => True) μ1
    | _ => False
  | .dat (.tuple xs) => r (xs.map .dat) (fun _ => True) μ1
  | .dat (.list xs) => r (xs.map .dat) (fun _ => True) μ1
  | .new xs => r (xs.map .dat) (fun _ => True) μ1
  | .dat (.str z) => r (z.cps.toList.map fun c => .dat (.str ⟨#[c]⟩)) (fun _ => True) μ1
  | .ro xs => r (xs.map .dat) (fun _ => True) μ1
  | _ => False) E
theorem walkL {K : PySem.W.Frag} {s0 : Wd} {N0 : Nat} {a : Addr} {xs : List PyData} {G : Mu → Prop} (hd : ∀ s μ, Ext s0 N0 s μ.length → Rep K s μ → G μ → ∃ vs, SqL K s.H a vs ∧ DRs K s.F vs xs) : WalkS K (Itl K a) s0 N0 (xs.map .dat) G := by
  intro n s μ x R g
  obtain ⟨vs, h1, h2⟩ := hd s μ x R g
  have hl := h2.length
  refine ⟨fun hn => ?_, ⟨vs, h1, by simp [hl]⟩, fun v H' hn hy => ?_⟩
  · have hn' : n < vs.length := by simpa [hl] using hn
    exact ⟨vs, vs[n], h1, by simp [hn']⟩
  · obtain ⟨e1, e2⟩ := hy
    obtain ⟨d, h3, h4⟩ := h2.getV (e2 vs h1)
    exact ⟨s, .dat d, e1.symm, by rw [List.getElem?_map, h3]; rfl, rfl, Ext.refl _ _, R, h4⟩
theorem walkT {K : PySem.W.Frag} {s0 : Wd} {N0 : Nat} {a : Addr} {vs : List V} {xs : List PyData} {G : Mu → Prop} (hd : ∀ s μ, Ext s0 N0 s μ.length → Rep K s μ → G μ → SqT K s.H a vs ∧ DRs K s.F vs xs) : WalkS K (Itt K a) s0 N0 (xs.map .dat) G := by
  intro n s μ x R g
  obtain ⟨h1, h2⟩ := hd s μ x R g
  have hl := h2.length
  refine ⟨fun hn => ?_, ⟨vs, h1, by simp [hl]⟩, fun v H' hn hy => ?_⟩
  · have hn' : n < vs.length := by simpa [hl] using hn
    exact ⟨vs, vs[n], h1, by simp [hn']⟩
  · obtain ⟨e1, e2⟩ := hy
    obtain ⟨d, h3, h4⟩ := h2.getV (e2 vs h1)
    exact ⟨s, .dat d, e1.symm, by rw [List.getElem?_map, h3]; rfl, rfl, Ext.refl _ _, R, h4⟩
theorem walkZ {K : PySem.W.Frag} {s0 : Wd} {N0 : Nat} {z : Str} {F : Hp} {v0 : V} (r0 : DR K F v0 (.str z)) {G : Mu → Prop} : WalkS K (Its z) s0 N0 (z.cps.toList.map fun c => .dat (.str ⟨#[c]⟩)) G := by
  have hz : PyData.strOk z = true := by cases r0; assumption
  intro n s μ x R g
  refine ⟨fun hn => (by simpa using hn : n < z.cps.size), ?_, fun v H' hn hy => ?_⟩
  · show z.cps.size ≤ _
    simp
  · obtain ⟨e1, c, hc, rfl⟩ := hy
    have hc' : z.cps.toList[n]? = some c := by simpa using hc
    refine ⟨s, .dat (.str ⟨#[c]⟩), e1.symm, by rw [List.getElem?_map, hc']; rfl, rfl, Ext.refl _ _, R, .str _ (strOk_at hz (List.mem_of_getElem? hc'))⟩
/-- the reading of what is walked: a list, a tuple, a text, as it comes -/
def iAny (K : PySem.W.Frag) (tl : TE) : TI := fun σ H R => tl σ H fun x H1 => (∃ a xs, x = .ref a ∧ SqL K H1 a xs ∧ R (Itl K a) H1) ∨ (∃ a xs, x = .ref a ∧ SqT K H1 a xs ∧ R (Itt K a) H1) ∨ ∃ z, x = .str z ∧ R (Its z) H1
theorem pi_any {X : Cx} {tg le : Expr} {tl : TE} (hp : PE X le tl) : PI X tg le (iAny X.K tl) := by
  refine ⟨fun pins s0 σ H R I hw => thn (hp.run pins s0 σ H _ I hw) fun v s1 hv => ?_⟩
  obtain ⟨x, H1, I1, r1, ⟨a, xs, rfl, hq, q⟩ | ⟨a, xs, rfl, hq, q⟩ | ⟨z, rfl, q⟩⟩ := hv
  · obtain rfl : v = Value.ref a := r1
    obtain ⟨its, rv, p, hz⟩ := I1.list hq
    exact wpAny_pyIter_list p.isList (pi_one (J := Itl X.K a) (tk := s1.toks) I1 _ (turn_list a _) ⟨_, Heap.get?_push_size _ rfl, rfl, rfl⟩ q)
  · obtain rfl : v = Value.ref a := r1
    obtain ⟨its, rv, p, hz⟩ := I1.tuple hq
    exact wpAny_pyIter_tuple (show s1.heap.IsTuple a its.toArray from p) (pi_one (J := Itt X.K a) (tk := s1.toks) I1 _ (turn_tuple a _) ⟨_, Heap.get?_push_size _ rfl, rfl, rfl⟩ q)
  · obtain ⟨t, rfl⟩ := r1
    cases hall : z.cps.all (· < 128) with
    | false => exact wpAny_pyIter_wide hall (pi_one (J := Its z) (tk := s1.toks) I1 _ (turn_str _ z t "str_iterator" (.inr rfl)) ⟨_, Heap.get?_push_size _ rfl, rfl, rfl⟩ q)
    | true => exact wpAny_pyIter_ascii hall (pi_one (J := Its z) (tk := s1.toks) I1 _ (turn_str _ z t "str_ascii_iterator" (.inl rfl)) ⟨_, Heap.get?_push_size _ rfl, rfl, rfl⟩ q)
theorem di_seq {X : Cx} {W : WX} {tg e : Expr} {te : TDE} (h : DE X W e te) : DI X W tg e (iSeq te) := by
  obtain ⟨t, p, g⟩ := h.ex
  refine ⟨_, pi_any p, fun s σ η μ R r E S hq l lx => g s σ η μ _ _ E S hq (fun ev μ1 v s1 hk x1 R1 rv fv => ?_) lx⟩
  cases ev with
  | dat d =>
    have rd : DR X.K s1.F v d := rv
    cases rd with
    | lst h1 h2 => exact .inl ⟨_, _, rfl, SqL.of (R1.sub _ _ h1), l _ _ _ μ1 s1 hk x1 R1 (walkL fun s2 μ2 x R2 _ => ⟨_, SqL.of (R2.sub _ _ (x.f _ _ h1)), h2.mono x.f⟩)⟩
    | tup h1 h2 => exact .inr (.inl ⟨_, _, rfl, sqT_mono R1.sub h1, l _ _ _ μ1 s1 hk x1 R1 (walkT fun s2 μ2 x R2 _ => ⟨sqT_mono R2.sub (sqT_mono x.f h1), h2.mono x.f⟩)⟩)
    | str z hz => exact .inr (.inr ⟨z, rfl, l _ _ _ μ1 s1 hk x1 R1 (walkZ (F := s1.F) (.str z hz))⟩)
    | _ => exact hk.elim
  | new xs =>
    obtain ⟨p, vs, rfl, a1, a2, a3, a4⟩ := rv
    refine .inl ⟨p, vs, rfl, SqL.of a1, l _ _ (fun _ => True) μ1 s1 hk x1 R1 (walkL fun s2 μ2 x R2 _ => ⟨_, SqL.of (x.keep _ _ a1 a3), a4.mono x.f⟩)⟩
  | loc n =>
    obtain ⟨hn, rfl⟩ := rv
    cases hc : μ1[n]? with
    | none => simp only [hc] at hk
    | some c =>
      simp only [hc] at hk
      have C := R1.cell n c hc
      cases c with
      | lst xs =>
        obtain ⟨_, vs, a1, a2⟩ := C
        refine .inl ⟨_, vs, rfl, SqL.of a1, l _ _ _ μ1 s1 hk x1 R1 (walkL fun s2 μ2 x R2 g => ?_)⟩
        rw [← x.l n hn]
        rcases g with g | g
        · obtain ⟨_, ws, b1, b2⟩ := R2.cell n _ g
          exact ⟨ws, SqL.of b1, b2⟩
        · obtain ⟨ws, b1, b2⟩ := R2.cell n _ g
          exact ⟨ws, SqL.of (R2.sub _ _ b1), b2⟩
      | frz xs =>
        obtain ⟨vs, a1, a2⟩ := C
        exact .inl ⟨_, vs, rfl, SqL.of (R1.sub _ _ a1), l _ _ _ μ1 s1 hk x1 R1 (walkL fun s2 μ2 x R2 _ => ⟨_, SqL.of (R2.sub _ _ (x.f _ _ a1)), a2.mono x.f⟩)⟩
      | dct _ => exact hk.elim
      | dead => exact hk.elim
  | raw u => exact hk.elim
  | exc x => exact hk.elim
  | ro xs =>
    obtain ⟨a, vs, rfl, h1, h2⟩ := rv
    exact .inl ⟨a, vs, rfl, R1.sub.seq h1, l _ _ _ μ1 s1 hk x1 R1 (walkL fun s2 μ2 x R2 _ => ⟨_, R2.sub.seq (x.f.seq h1), h2.mono x.f⟩)⟩
end
end DL

set_option Elab.async false
set_option linter.all false
set_option maxRecDepth 100000
set_option maxHeartbeats 4000000
namespace DL
open PySem L2 PyProof.Rows

/-! ### range -/
def rngItems (lo : Int) (n : Nat) : List EV := (List.range n).map fun k => .dat (.int (lo + (k : Nat)))
theorem walkR {K : PySem.W.Frag} {s0 : Wd} {N0 : Nat} {lo : Int} {n : Nat} {G : Mu → Prop} : WalkS K (Itr lo n) s0 N0 (rngItems lo n) G := by
  intro m s μ x R g
  refine ⟨fun hn => (by simpa [rngItems] using hn : m < n), ?_, fun v H' hn hy => ?_⟩
  · show n ≤ _
    simp [rngItems]
  · obtain ⟨e1, rfl⟩ := hy
    have hn' : m < n := by simpa [rngItems] using hn
    refine ⟨s, .dat (.int (lo + (m : Nat))), e1.symm, by simp [rngItems, hn'], rfl, Ext.refl _ _, R, .int _⟩
def iRange1 (t : TDA) : TDI := fun η μ r E => t η μ (fun es μ1 => match es with
  | [.dat (.int j)] => (-1000000 ≤ j ∧ j ≤ 1000000) ∧ r (rngItems 0 j.toNat) (fun _ => True) μ1
  | _ => False) E
def iRange2 (t : TDA) : TDI := fun η μ r E => t η μ (fun es μ1 => match es with
  | [.dat (.int i), .dat (.int j)] => (-1000000 ≤ i ∧ i ≤ 1000000 ∧ -1000000 ≤ j ∧ j ≤ 1000000) ∧ r (rngItems i (j - i).toNat) (fun _ => True) μ1
  | _ => False) E
section
variable {X : Cx} {W : WX} {tg a b : Expr} {t : TDA} {p pos : Pos}
theorem di_range1 (hg : Gl X "range") (hm : X.mg "range" = none) (ha : DA X W [a] t) (hs : starEach [a] X.env = [(false, eval a X.env)] := by rfl) : DI X W tg (.Call (.Name "range" p) [a] [] pos) (iRange1 t) := by
  obtain ⟨t1, p1, g1⟩ := ha.ex
  refine ⟨_, pi_range1 hg hm p1 hs, fun s σ η μ R r E S hq l lx => g1 s σ η μ _ _ E S hq (fun es μ1 vs s1 hk x1 R1 rv => ?_) lx⟩
  split at hk
  · cases rv with
    | cons rx fx rr =>
      cases rr
      obtain ⟨⟨h1, h2⟩, hk⟩ := hk
      exact ⟨_, by rw [vr_i rx], by omega, by omega, l _ _ _ μ1 s1 hk x1 R1 walkR⟩
  · exact hk.elim
theorem di_range2 (hg : Gl X "range") (hm : X.mg "range" = none) (ha : DA X W [a, b] t) (hs : starEach [a, b] X.env = [(false, eval a X.env), (false, eval b X.env)] := by rfl) (hs2 : starEach [b] X.env = [(false, eval b X.env)] := by rfl) : DI X W tg (.Call (.Name "range" p) [a, b] [] pos) (iRange2 t) := by
  obtain ⟨t1, p1, g1⟩ := ha.ex
  refine ⟨_, pi_range2 hg hm p1 hs hs2, fun s σ η μ R r E S hq l lx => g1 s σ η μ _ _ E S hq (fun es μ1 vs s1 hk x1 R1 rv => ?_) lx⟩
  split at hk
  · cases rv with
    | cons rx fx rr =>
      cases rr with
      | cons ry fy rr =>
        cases rr
        obtain ⟨⟨h1, h2, h3, h4⟩, hk⟩ := hk
        exact ⟨_, _, by rw [vr_i rx, vr_i ry], ⟨by omega, by omega, by omega, by omega⟩, l _ _ _ μ1 s1 hk x1 R1 walkR⟩
  · exact hk.elim
end

/-! ### methods of built-in types -/
abbrev MD := EV → List EV → Mu → PQ → Prop
def MtS (K : PySem.W.Frag) (r : V → List V → Hp → VK → Prop) (o : MD) : Prop := ∀ (s0 : Wd) (N0 : Nat) (s : Wd) (μ : Mu) (x : V) (xs : List V) (ex : EV) (es : List EV) (q : PQ) (Q : VK), Rep K s μ → Ext s0 N0 s μ.length → VR K s μ.length x ex → Frsh s0.H x ex → VRs K s μ.length s0.H xs es →
  o ex es μ q → LE K s0 N0 q Q → r x xs s.H Q
/-- the receiver's type -/
def RcS (K : PySem.W.Frag) (T : String) (ty : EV → Mu → Prop) : Prop := ∀ (s : Wd) (μ : Mu) (x : V) (ex : EV), Rep K s μ → VR K s μ.length x ex → ty ex μ → tyV K T x s.H
def isStrE : EV → Mu → Prop := fun e _ => match e with
  | .dat (.str _) => True
  | _ => False
def isLstE : EV → Mu → Prop := fun e μ => (lstOf μ e).isSome = true
def isDctE : EV → Mu → Prop := fun e μ => match e with
  | .loc n => match μ[n]? with
    | some (.dct _) => True
    | _ => False
  | _ => False
theorem rc_str {K : PySem.W.Frag} : RcS K "str" isStrE := by
  intro s μ x ex R r h
  unfold isStrE at h
  split at h
  · rw [vr_s r]
    exact rfl
  · exact h.elim
theorem rc_lst {K : PySem.W.Frag} : RcS K "list" isLstE := by
  intro s μ x ex R r h
  unfold isLstE at h
  obtain ⟨ds, hds⟩ := Option.isSome_iff_exists.mp h
  obtain ⟨a, vs, rfl, h1, h2⟩ := lst_ok R r hds
  exact .inl ⟨rfl, vs, SqL.of h1⟩
theorem rc_dct {K : PySem.W.Frag} : RcS K "dict" isDctE := by
  intro s μ x ex R r h
  unfold isDctE at h
  split at h
  · rename_i n
    obtain ⟨hn, rfl⟩ := r
    split at h
    · rename_i kvs hc
      obtain ⟨_, ⟨ks, a2, _⟩ | ⟨ks, a2, _⟩⟩ := R.cell n _ hc
      · exact .inr (.inr (.inl ⟨rfl, .inl ⟨_, a2⟩⟩))
      · exact .inr (.inr (.inl ⟨rfl, .inr ⟨_, a2⟩⟩))
    · exact h.elim
  · exact h.elim
def dBM (ty : EV → Mu → Prop) (o : MD) (to : TDE) (t : TDA) : TDE := fun η μ q E => to η μ (fun x μ1 => ty x μ1 ∧ t η μ1 (fun es μ2 => o x es μ2 q) E) E
def dBM0 (ty : EV → Mu → Prop) (o : MD) (to : TDE) : TDE := fun η μ q E => to η μ (fun x μ1 => ty x μ1 ∧ o x [] μ1 q) E
section
variable {X : Cx} {W : WX} {eo e : Expr} {es : List Expr} {to : TDE} {t : TDA} {name : Str} {apos cpos : Pos} {T id : String} {r : V → List V → Hp → VK → Prop} {ty : EV → Mu → Prop} {o : MD}
theorem de_bm (pa : PlainAttrs T) (slot : Slot T name id) (hty : typeOf (.builtin id) = pure (.type "method_descriptor")) (hm : MtR X id r) (rc : RcS X.K T ty) (ms : MtS X.K r o) (ho : DE X W eo to) (ha : DA X W (e :: es) t)
    (hbase : attributeBase eo name X.env (eval eo X.env) = eval eo X.env := by rfl)
    (hfew : ((backTo cpos (starEach (e :: es) X.env)).all (fun x => !x.1) && (backToKw cpos (keywordEach [] X.env)).all (fun x => x.1.isSome)
      && decide ((e :: es).length + ([] : List Keyword).length + (if ([] : List Keyword).isEmpty then 0 else 1) < 30)) = true := by rfl)
    (hline : (apos.endLine == cpos.line) = true := by rfl) (hs : starEach (e :: es) X.env = (false, eval e X.env) :: starEach es X.env := by rfl) (hplain : (backTo cpos (starEach es X.env)).any (·.1) = false := by rfl) :
    DE X W (.Call (.Attribute eo name apos) (e :: es) [] cpos) (dBM ty o to t) := by
  obtain ⟨t1, p1, g1⟩ := ho.ex
  obtain ⟨t2, p2, g2⟩ := ha.ex
  refine de_pe (pe_bm pa slot hty hm p1 p2 hbase hfew hline hs hplain) fun s σ η μ Q q E S hq l lx => g1 s σ η μ _ _ E S hq (fun ex μ1 x s1 hk1 x1 R1 r1 f1 => ?_) lx
  refine ⟨rc s1 μ1 x ex R1 r1 hk1.1, g2 s1 σ η μ1 _ _ E (S.go x1 R1) hk1.2 (fun es' μ2 vs s2 hk2 x2 R2 r2 => ?_) (lx.go x1 R1)⟩
  have h1 := fun n (hn : n < μ1.length) => R1.here hn
  exact ms s _ s2 μ2 x vs ex es' q Q R2 (x1.trans x2 h1) (r1.ext x2) f1 (r2.back x1 h1) hk2 l
theorem de_bm0 (pa : PlainAttrs T) (slot : Slot T name id) (hty : typeOf (.builtin id) = pure (.type "method_descriptor")) (hm : MtR X id r) (rc : RcS X.K T ty) (ms : MtS X.K r o) (ho : DE X W eo to)
    (hbase : attributeBase eo name X.env (eval eo X.env) = eval eo X.env := by rfl) (hline : (apos.endLine == cpos.line) = true := by rfl) : DE X W (.Call (.Attribute eo name apos) [] [] cpos) (dBM0 ty o to) := by
  obtain ⟨t1, p1, g1⟩ := ho.ex
  exact de_pe (pe_bm0 pa slot hty hm p1 hbase hline) fun s σ η μ Q q E S hq l lx => g1 s σ η μ _ _ E S hq (fun ex μ1 x s1 hk1 x1 R1 r1 f1 => ⟨rc s1 μ1 x ex R1 r1 hk1.1, ms s _ s1 μ1 x [] ex [] q Q R1 x1 r1 f1 .nil hk1.2 l⟩) lx
end
/-! join -/
def strsOf : List PyData → Option (List Str)
  | [] => some []
  | .str b :: r => (strsOf r).map (b :: ·)
  | _ :: _ => none
theorem strs_map (bs : List Str) : strsOf (bs.map .str) = some bs := by
  induction bs with
  | nil => rfl
  | cons b r ih => show (strsOf (r.map .str)).map _ = _; rw [ih]; rfl
theorem strs_ok {K : PySem.W.Frag} {F : Hp} : ∀ {vs : List V} {ds : List PyData} {bs : List Str}, DRs K F vs ds → strsOf ds = some bs → vs = bs.map V.str ∧ ∀ b ∈ bs, PyData.strOk b = true
  | _, _, _, .nil, h => by cases h; exact ⟨rfl, fun _ h => nomatch h⟩
  | _, _, _, .cons (ds := ds) r rs, h => by
    cases r with
    | str b hb =>
      unfold strsOf at h
      cases q : strsOf ds with
      | none => rw [q] at h; cases h
      | some cs =>
        rw [q] at h
        cases h
        obtain ⟨e, h2⟩ := strs_ok rs q
        rw [e]
        exact ⟨rfl, fun c hc => (List.mem_cons.mp hc).elim (fun e => by rw [e]; exact hb) (h2 c)⟩
    | _ => cases h
theorem strOk_join {a : Str} (ha : PyData.strOk a = true) : ∀ {ys : List Str}, (∀ b ∈ ys, PyData.strOk b = true) → PyData.strOk (Str.join a ys) = true
  | [], _ => by show PyData.strOk Str.empty = true; decide +kernel
  | [x], h => h x (by simp)
  | x :: y :: r, h => by
    show PyData.strOk (x ++ a ++ Str.join a (y :: r)) = true
    exact strOk_app (strOk_app (h x (by simp)) ha) (strOk_join ha fun b hb => h b (List.mem_cons_of_mem _ hb))
def oJoin : MD := fun x es μ q => match x, es with
  | .dat (.str a), [e] => match seqOf μ e with
    | some ds => match strsOf ds with
      | some ys => (ys.map (·.length)).sum + ys.length * a.length ≤ 100000 ∧ q (.dat (.str (Str.join a ys))) μ
      | none => False
    | none => False
  | _, _ => False
abbrev rJoin (K : PySem.W.Frag) : V → List V → Hp → VK → Prop := fun x xs H Q => ∃ a p, ∃ ys : List Str, x = .str a ∧ xs = [.ref p] ∧ (SqL K H p (ys.map V.str) ∨ SqT K H p (ys.map V.str)) ∧
    (ys.map (·.length)).sum + ys.length * a.length ≤ 16777216 ∧ Q (.str (Txt.join a ys)) H
theorem ms_join {K : PySem.W.Frag} : MtS K (rJoin K) oJoin := by
  intro s0 N0 s μ x xs ex es q Q R xt rx fx r h l
  unfold oJoin at h
  split at h
  · cases r with
    | cons ry fy rr =>
      cases rr
      split at h
      · rename_i ds hds
        split at h
        · rename_i ys hys
          obtain ⟨a, vs, rfl, hs, hv⟩ := seq_ok R ry hds
          obtain ⟨rfl, hok⟩ := strs_ok hv hys
          have rx' : DR K s.F x _ := rx
          cases rx' with
          | str _ hz =>
            refine ⟨_, _, ys, rfl, rfl, hs, by omega, ?_⟩
            rw [TL.join_eq]
            exact ans R xt l h.2 (.str _ (strOk_join hz hok))
        · exact h.elim
      · exact h.elim
  · exact h.elim
/-! ### lists that change -/
theorem mut_ok {K : PySem.W.Frag} {s0 s : Wd} {N0 n : Nat} {μ : Mu} {xs ys : List PyData} {ws : List V} (R : Rep K s μ) (x : Ext s0 N0 s μ.length) (hn : μ[n]? = some (.lst xs)) (hd : DRs K s.F ws ys) :
    Rep K { s with H := upd s.H (s.L n) (.lst ws) } (μ.set n (.lst ys)) ∧ Ext s0 N0 { s with H := upd s.H (s.L n) (.lst ws) } (μ.set n (.lst ys)).length := by
  obtain ⟨hf, vs, hp, hv⟩ := R.cell n _ hn
  have hlt := (List.getElem?_eq_some_iff.mp hn).1
  refine ⟨⟨fun a o q => ?_, fun m c q => ?_, fun i j hi hj => R.inj i j (by simpa using hi) (by simpa using hj)⟩, ⟨x.f, x.l, by rw [List.length_set]; exact x.le, fun a o q hL => ?_, x.fnew, fun i h1 h2 => x.lnew i h1 (by simpa using h2)⟩⟩
  · have q' : s.F a = some o := q
    show upd s.H (s.L n) (.lst ws) a = some o
    rw [upd_ne (ne_of_none q' hf)]
    exact R.sub a o q'
  · by_cases hm : n = m
    · subst hm
      rw [List.getElem?_set_self hlt] at q
      cases q
      exact ⟨hf, ws, upd_same, hd⟩
    · rw [List.getElem?_set_ne hm] at q
      have ne : s.L m ≠ s.L n := fun z => hm (R.inj m n (List.getElem?_eq_some_iff.mp q).1 hlt z).symm
      have C := R.cell m c q
      cases c with
      | lst xs => obtain ⟨h1, vs, h2, h3⟩ := C; exact ⟨h1, vs, (upd_ne ne).trans h2, h3⟩
      | frz xs => exact C
      | dct kvs =>
        obtain ⟨h1, ⟨ks, h2, h3, h4⟩ | ⟨ks, h2, h3, h4⟩⟩ := C
        · exact ⟨h1, .inl ⟨ks, (upd_ne ne).trans h2, h3, h4⟩⟩
        · exact ⟨h1, .inr ⟨ks, (upd_ne ne).trans h2, h3, h4⟩⟩
      | dead =>
        show upd s.H (s.L n) (.lst ws) (s.L m) ≠ none
        rw [upd_ne ne]
        exact C
  · have q' := x.keep a o q hL
    show upd s.H (s.L n) (.lst ws) a = some o
    have ne : a ≠ s.L n := fun z => by
      by_cases h : n < N0
      · exact hL n h ((x.l n h).symm.trans z.symm)
      · have := x.lnew n (Nat.le_of_not_lt h) hlt
        rw [← z, q] at this
        cases this
    rw [upd_ne ne]
    exact q'
def withL (μ : Mu) (e : EV) (k : Nat → List PyData → Prop) : Prop := match e with
  | .loc n => match μ[n]? with
    | some (.lst xs) => k n xs
    | _ => False
  | _ => False
theorem withL_ex {μ : Mu} {e : EV} {k : Nat → List PyData → Prop} (h : withL μ e k) : ∃ n xs, e = .loc n ∧ μ[n]? = some (.lst xs) ∧ k n xs := by
  unfold withL at h
  split at h
  · split at h
    · exact ⟨_, _, rfl, by assumption, h⟩
    · exact h.elim
  · exact h.elim
def oAppend : MD := fun x es μ q => withL μ x fun n xs => match es with
  | [.dat d] => xs.length < 100000 ∧ q (.dat .none) (μ.set n (.lst (xs ++ [d])))
  | _ => False
theorem line_lt {n : Nat} (h : n < 100000) : n < sizeLine := Nat.lt_of_lt_of_le h (by decide)
theorem ms_append {K : PySem.W.Frag} : MtS K rAppend oAppend := by
  intro s0 N0 s μ x xs ex es q Q R xt rx fx r h l
  obtain ⟨n, ys, rfl, hn, h⟩ := withL_ex h
  obtain ⟨hlt, rfl⟩ := rx
  split at h
  · cases r with
    | cons ry fy rr =>
      cases rr
      obtain ⟨hf, vs, hp, hv⟩ := R.cell n _ hn
      obtain ⟨a1, a2⟩ := mut_ok R xt hn (hv.append (.cons ry .nil))
      exact ⟨_, vs, _, rfl, rfl, hp, line_lt (by rw [hv.length]; exact h.1), l (.dat .none) _ .non _ h.2 a2 a1 .non trivial⟩
  · exact h.elim
/-- xs[i] = v -/
def oSetL : SetD := fun x y z μ q => withL μ x fun n xs => match y, z with
  | .dat (.int k), .dat d => ∃ j, ixN xs.length k = some j ∧ q (μ.set n (.lst (xs.set j d)))
  | _, _ => False
theorem ss_list {K : PySem.W.Frag} : SetS K rSetL oSetL := by
  intro s0 N0 s μ x y z ex ey ez q Q R xt rx ry rz h l
  obtain ⟨n, ys, rfl, hn, h⟩ := withL_ex h
  obtain ⟨hlt, rfl⟩ := rx
  split at h
  · obtain ⟨j, hj, h⟩ := h
    obtain ⟨hf, vs, hp, hv⟩ := R.cell n _ hn
    obtain ⟨a1, a2⟩ := mut_ok R xt hn (hv.set rz j)
    exact ⟨_, vs, _, j, rfl, vr_i ry, hp, by rw [hv.length]; exact hj, l _ _ h a2 a1⟩
  · exact h.elim
end DL

set_option Elab.async false
set_option linter.all false
set_option maxRecDepth 100000
set_option maxHeartbeats 4000000
namespace DL
open PySem L2 PyProof.Rows
/-! ### words for whole programs -/
/-- a new list becomes still, all else is as it is -/
def stlK (q : PQ) : PQ := fun e μ1 => match e with
  | .new xs => q (.dat (.list xs)) μ1
  | e => q e μ1
def dStl (t : TDE) : TDE := fun η μ q E => t η μ (stlK q) E
section
variable {X : Cx} {W : WX} {e : Expr} {te : TDE} {pos : Pos}
theorem sem_stl {K : PySem.W.Frag} {t : TE} {td : TDE} (g : SemE K W t td) : SemE K W t (dStl td) := fun s σ η μ Q q E S hq l lx => g s σ η μ Q _ E S hq (fun e μ' v s' hk x R r f => by
  cases e with
  | new xs =>
    obtain ⟨p, vs, rfl, h1, h2, h3, h4⟩ := r
    obtain ⟨a1, a2, a3⟩ := still_new R x h1 h2 h3 h4 (f p rfl)
    exact l _ _ _ { s' with F := upd s'.F p (.lst vs) } hk a2 a1 a3 trivial
  | dat d => exact l _ _ _ _ hk x R r f
  | loc d => exact l _ _ _ _ hk x R r f
  | raw d => exact l _ _ _ _ hk x R r f
  | exc d => exact l _ _ _ _ hk x R r f
  | ro d => exact l _ _ _ _ hk x R r f) lx
theorem de_stl (h : DE X W e te) : DE X W e (dStl te) := by
  obtain ⟨t, hp, g⟩ := h.ex
  exact de_pe hp (sem_stl g)
/-- a slot -/
theorem dv (i : Nat) {x : Str} (hN : X.N[i]? = some x := by rfl) (hv : Vis X.env.scope x := by first | exact Or.inl rfl | exact Or.inr (Or.inl rfl) | exact Or.inr (Or.inr rfl)) (hd : (x == ("__debug__" : Str)) = false := by decide)
    (hcd : (x == ("__classdict__" : Str)) = false := by decide) : DE X W (.Name x pos) (dVar i) := de_var (pv i hN hv hd hcd)
/-- a module's constants -/
theorem de_gint {x : Str} {n : Int} (hm : ∃ t, X.mg x = some (.int n t)) (hg : Gl X x := by rfl) (hd : (x == ("__debug__" : Str)) = false := by decide) : DE X W (.Name x pos) (dC (.int n)) := by
  obtain ⟨t, hm⟩ := hm
  exact de_c (pe_glob (v := .int n) hg hm ⟨t, rfl⟩ hd) fun _ _ => .int n
theorem de_gstr {x z : Str} (hm : ∃ t, X.mg x = some (.str z t)) (hz : PyData.strOk z = true := by decide +kernel) (hg : Gl X x := by rfl) (hd : (x == ("__debug__" : Str)) = false := by decide) : DE X W (.Name x pos) (dC (.str z)) := by
  obtain ⟨t, hm⟩ := hm
  exact de_c (pe_glob (v := .str z) hg hm ⟨t, rfl⟩ hd) fun _ _ => .str z hz
/-- a built-in class as a value -/
theorem de_ty {x : Str} {T : String} (hm : X.mg x = none) (hv : bootBuiltins x = some (.type T)) (hg : Gl X x := by rfl) (hn : x ≠ "__name__" := by decide) (hd : (x == ("__debug__" : Str)) = false := by decide) : DE X W (.Name x pos) (dRaw (.ty T)) :=
  de_raw (pe_bltn hg hm hv rfl hn hd)
end
theorem bt_str : bootBuiltins "str" = some (.type "str") := by decide +kernel
theorem bt_int : bootBuiltins "int" = some (.type "int") := by decide +kernel
theorem bt_bool : bootBuiltins "bool" = some (.type "bool") := by decide +kernel
theorem bt_list : bootBuiltins "list" = some (.type "list") := by decide +kernel
theorem bt_tuple : bootBuiltins "tuple" = some (.type "tuple") := by decide +kernel
theorem bt_dict : bootBuiltins "dict" = some (.type "dict") := by decide +kernel
theorem bt_set : bootBuiltins "set" = some (.type "set") := by decide +kernel
theorem bb_len : bootBuiltins "len" = some (.builtin "len") := by decide +kernel
theorem bb_max : bootBuiltins "max" = some (.builtin "max") := by decide +kernel
theorem bb_min : bootBuiltins "min" = some (.builtin "min") := by decide +kernel
theorem bb_all : bootBuiltins "all" = some (.builtin "all") := by decide +kernel
theorem bb_any : bootBuiltins "any" = some (.builtin "any") := by decide +kernel
theorem bb_sum : bootBuiltins "sum" = some (.builtin "sum") := by decide +kernel
theorem bb_abs : bootBuiltins "abs" = some (.builtin "abs") := by decide +kernel
theorem bb_sorted : bootBuiltins "sorted" = some (.builtin "sorted") := by decide +kernel
theorem bb_isinstance : bootBuiltins "isinstance" = some (.builtin "isinstance") := by decide +kernel
theorem bb_divmod : bootBuiltins "divmod" = some (.builtin "divmod") := by decide +kernel

section
variable {P : Program} {w : World} {K : PySem.W.Frag} {mg : Str → Option Value} {base : Heap}
/-- a def by its body, with its contract -/
theorem def_ok {x qual : Str} {st : Stmt} {f : Addr} {fd : FuncData} {N ps : List Str} {k : Nat} {td : TDS} (sp : SpD) (F : Fun K x qual st f fd) (S : FnScope N ps (defScope st)) (hm : mg x = some (.ref f)) (hb : Binds K fd ps [])
    (body : ∀ (cdv : Value) (A : Around) (outer : List Env) (s : Shared) (H : Hp) (E : XK), Room k (A.deeper (envOfC qual (defScope st) s.heap.objs.size f cdv)) →
      Takes (cxOf (L2.CX P w) P w K mg base N qual (defScope st) f cdv A outer s H E) (fun cls d _ H => E cls d H) →
      PassesOwn (model P w) (A.deeper (envOfC qual (defScope st) s.heap.objs.size f cdv)) (envOfC qual (defScope st) s.heap.objs.size f cdv) (cxOf (L2.CX P w) P w K mg base N qual (defScope st) f cdv A outer s H E).xe →
      DSs (cxOf (L2.CX P w) P w K mg base N qual (defScope st) f cdv A outer s H E) (fun cls d _ H => E cls d H) (defBody st) td)
    (h : ∀ (es : List EV) (μ : Mu) (q : PQ) (x : XQ), es.length = ps.length → sp es μ q x → td { nx := fun _ μ' => exitQ μ.length q (.dat .none) μ', rt := exitQ μ.length q } (fun y μ' => x y (μ'.take μ.length)) (startD N es) μ) :
    DefAt P w K mg base x (k + 1) ps [] [] sp :=
  ⟨⟨f, fd, fd_of F S (fun cdv A outer s H E hr => body cdv A outer s H E hr (takes_of rfl rfl rfl rfl) (passes_of rfl)) h, hm, F.kp, hb⟩, .nil⟩
end
theorem tk0 {X : Cx} : Takes X WF := takes0

/-- the law's own contract: the script is handed in, True comes out -/
def spLawD : SpD := fun es μ q _ => ∃ ns : List Int, es = [.ro (ns.map .int)] ∧ ns.length ≤ 63 ∧ μ = [] ∧ ∀ μ', q (.dat (.bool true)) μ'
def spLaw (K : PySem.W.Frag) : Sp := fun vs H Q _ => ∃ (a : Addr) (ns : List Int), vs = [.ref a] ∧ SqL K H a (ns.map V.int) ∧ ns.length ≤ 63 ∧ ∀ H', Q (.bl true) H'
theorem drs_ints {K : PySem.W.Frag} {F : Hp} : ∀ ns : List Int, DRs K F (ns.map V.int) (ns.map .int)
  | [] => .nil
  | n :: r => .cons (.int n) (drs_ints r)
theorem law_sp {K : PySem.W.Frag} {vs : List V} {H : Hp} {Q : VK} {E : XK} (h : spLaw K vs H Q E) : spOf K 1 spLawD vs H Q E := by
  obtain ⟨a, ns, rfl, hs, hl, k⟩ := h
  refine ⟨rfl, ⟨H, fun b => if b = a then H a else none, fun _ => 0⟩, [], [.ro (ns.map .int)], fun e _ => e = .dat (.bool true), fun _ _ => False, rfl, ⟨fun b o q => ?_, fun n c q => by simp at q, fun m n hm => absurd hm (Nat.not_lt_zero _)⟩, .cons ⟨a, ns.map V.int, rfl, ?_, drs_ints ns⟩ .nil, ⟨ns, rfl, hl, rfl, fun _ => rfl⟩, fun e μ' v s' hq x R r f => ?_, fun _ _ _ _ _ z => z.elim⟩
  · have q' : (if b = a then H a else none) = some o := q
    split at q'
    · rename_i e
      rw [e]
      exact q'
    · cases q'
  · rcases hs with (h | ⟨o, h⟩) | h
    · exact .inl (.inl (show (if a = a then H a else none) = _ by rw [if_pos rfl]; exact h))
    · exact .inl (.inr ⟨o, show (if a = a then H a else none) = _ by rw [if_pos rfl]; exact h⟩)
    · exact .inr h
  · subst hq
    rw [vr_b r]
    exact k s'.H
theorem DefAt.law {P : Program} {w : World} {K : PySem.W.Frag} {mg : Str → Option Value} {base : Heap} {k : Nat} {ps : List Str} (D : DefAt P w K mg base "law" k ps [] [] spLawD) (hps : ps.length = 1) {fa : Addr} (hm : mg "law" = some (.ref fa)) :
    ∃ fd : FuncData, FnOk P w K mg base (L2.CX P w) k fa fd ps (spLaw K) := by
  obtain ⟨f, fd, G, h1, h2, h3⟩ := D.ex
  rw [hm] at h1
  cases h1
  rw [hps] at G
  exact ⟨fd, G.imp fun vs H Q E h => law_sp h⟩
end DL

set_option Elab.async false
set_option linter.all false
set_option maxRecDepth 100000
set_option maxHeartbeats 4000000
namespace DL
open PySem L2 PyProof.Rows
/-! ### words for proofs over data readings -/
section
variable {N : Nat} {q : PQ} {μ : Mu}
theorem exitQ_dat {d : PyData} : DL.exitQ N q (.dat d) μ = q (.dat d) (μ.take N) := Eq.trans rfl rfl
theorem exitQ_new {d : List PyData} : DL.exitQ N q (.new d) μ = q (.new d) (μ.take N) := Eq.trans rfl rfl
theorem exitQ_raw {d : V} : DL.exitQ N q (.raw d) μ = q (.raw d) (μ.take N) := Eq.trans rfl rfl
theorem exitQ_loc {n : Nat} : DL.exitQ N q (.loc n) μ = (if n < N then q (.loc n) (μ.take N) else match μ[n]? with
    | some (.lst xs) => q (.new xs) (μ.take N)
    | some (.frz xs) => q (.dat (.list xs)) (μ.take N)
    | some (.dct kvs) => q (.loc N) (μ.take N ++ [.dct kvs])
    | _ => False) := rfl
end
def isIntD : PyData → Bool
  | .int _ => true
  | .bool _ => true
  | _ => false
def isBoolD : PyData → Bool
  | .bool _ => true
  | _ => false
def isStrD : PyData → Bool
  | .str _ => true
  | _ => false
def isListD : PyData → Bool
  | .list _ => true
  | _ => false
def isTupD : PyData → Bool
  | .tuple _ => true
  | _ => false
def isDictD : PyData → Bool
  | .dict _ => true
  | _ => false
section
variable {d : PyData} {q : PQ} {μ : Mu}
theorem isi_int : oIsi [.dat d, .raw (.ty "int")] μ q = q (.dat (.bool (isIntD d))) μ := by
  cases d <;> simp [oIsi, tyE, tyOf, isT, isIntD]
theorem isi_bool : oIsi [.dat d, .raw (.ty "bool")] μ q = q (.dat (.bool (isBoolD d))) μ := by
  cases d <;> simp [oIsi, tyE, tyOf, isT, isBoolD]
theorem isi_str : oIsi [.dat d, .raw (.ty "str")] μ q = q (.dat (.bool (isStrD d))) μ := by
  cases d <;> simp [oIsi, tyE, tyOf, isT, isStrD]
theorem isi_list : oIsi [.dat d, .raw (.ty "list")] μ q = q (.dat (.bool (isListD d))) μ := by
  cases d <;> simp [oIsi, tyE, tyOf, isT, isListD]
theorem isi_tuple : oIsi [.dat d, .raw (.ty "tuple")] μ q = q (.dat (.bool (isTupD d))) μ := by
  cases d <;> simp [oIsi, tyE, tyOf, isT, isTupD]
theorem isi_dict : oIsi [.dat d, .raw (.ty "dict")] μ q = q (.dat (.bool (isDictD d))) μ := by
  cases d <;> simp [oIsi, tyE, tyOf, isT, isDictD]
end
section
variable {q : PQ} {μ : Mu} {z z' : Str} {xs ys : List PyData} {n : Nat} {i j : Int} {x y : EV}
theorem seq_tup : seqOf μ (.dat (.tuple xs)) = some xs := Eq.trans rfl rfl
theorem seq_lst : seqOf μ (.dat (.list xs)) = some xs := Eq.trans rfl rfl
theorem seq_new : seqOf μ (.new xs) = some xs := Eq.trans rfl rfl
theorem seq_ro : seqOf μ (.ro xs) = some xs := Eq.trans rfl rfl
theorem seq_loc : seqOf μ (.loc n) = lstOf μ (.loc n) := Eq.trans rfl rfl
theorem lst_lst : lstOf μ (.dat (.list xs)) = some xs := Eq.trans rfl rfl
theorem lst_new : lstOf μ (.new xs) = some xs := Eq.trans rfl rfl
theorem lst_loc (h : μ[n]? = some (.lst xs)) : lstOf μ (.loc n) = some xs := by simp [lstOf, h]
theorem dat_dat {d : PyData} : datOf μ (.dat d) = some d := Eq.trans rfl rfl
theorem dat_new : datOf μ (.new xs) = some (.list xs) := Eq.trans rfl rfl
theorem dat_loc : datOf μ (.loc n) = (lstOf μ (.loc n)).map .list := Eq.trans rfl rfl
theorem len_str : oLen [.dat (.str z)] μ q = (z.length ≤ 100000 ∧ q (.dat (.int z.length)) μ) := Eq.trans rfl rfl
theorem len_tup : oLen [.dat (.tuple xs)] μ q = q (.dat (.int xs.length)) μ := Eq.trans rfl rfl
theorem len_lst : oLen [.dat (.list xs)] μ q = q (.dat (.int xs.length)) μ := Eq.trans rfl rfl
theorem len_new : oLen [.new xs] μ q = q (.dat (.int xs.length)) μ := Eq.trans rfl rfl
theorem len_ro : oLen [.ro xs] μ q = q (.dat (.int xs.length)) μ := Eq.trans rfl rfl
theorem len_loc (h : μ[n]? = some (.lst xs)) : oLen [.loc n] μ q = q (.dat (.int xs.length)) μ := by simp [oLen, seqOf, tupOf, roOf, lstOf, h]
theorem ix_s : oIx (.dat (.str z)) (.dat (.int i)) μ q = (z.length ≤ 100000 ∧ ∃ c, atI z.cps.toList i = some c ∧ q (.dat (.str ⟨#[c]⟩)) μ) := Eq.trans rfl rfl
theorem ix_tupD : oIx (.dat (.tuple xs)) (.dat (.int i)) μ q = (∃ d, atI xs i = some d ∧ q (.dat d) μ) := Eq.trans rfl rfl
theorem ix_lstD : oIx (.dat (.list xs)) (.dat (.int i)) μ q = (∃ d, atI xs i = some d ∧ q (.dat d) μ) := Eq.trans rfl rfl
theorem ix_new : oIx (.new xs) (.dat (.int i)) μ q = (∃ d, atI xs i = some d ∧ q (.dat d) μ) := Eq.trans rfl rfl
theorem ix_ro : oIx (.ro xs) (.dat (.int i)) μ q = (∃ d, atI xs i = some d ∧ q (.dat d) μ) := Eq.trans rfl rfl
theorem ix_loc (h : μ[n]? = some (.lst xs)) : oIx (.loc n) (.dat (.int i)) μ q = (∃ d, atI xs i = some d ∧ q (.dat d) μ) := by simp [oIx, seqOf, tupOf, roOf, lstOf, h]
theorem at_nn {α : Type} {as : List α} {k : Int} (h : 0 ≤ k) : atI as k = as[k.toNat]? := by
  unfold atI ixN
  rw [if_pos h]
  split
  · rfl
  · rename_i hk
    rw [List.getElem?_eq_none (by omega)]
    rfl
theorem ixN_nn {m : Nat} {k : Int} (h : 0 ≤ k) (h2 : k < m) : ixN m k = some k.toNat := by
  unfold ixN
  rw [if_pos h, if_pos h2]
theorem setL_loc {k : Int} {d : PyData} {q : Mu → Prop} (h : μ[n]? = some (.lst xs)) : oSetL (.loc n) (.dat (.int k)) (.dat d) μ q = (∃ j, ixN xs.length k = some j ∧ q (μ.set n (.lst (xs.set j d)))) := by simp [oSetL, withL, h]
theorem app_loc {d : PyData} (h : μ[n]? = some (.lst xs)) : oAppend (.loc n) [.dat d] μ q = (xs.length < 100000 ∧ q (.dat .none) (μ.set n (.lst (xs ++ [d])))) := by simp [oAppend, withL, h]
theorem add_int : oAdd (.dat (.int i)) (.dat (.int j)) μ q = q (.dat (.int (i + j))) μ := Eq.trans rfl rfl
theorem add_strD : oAdd (.dat (.str z)) (.dat (.str z')) μ q = (z.length + z'.length ≤ 100000 ∧ q (.dat (.str (z ++ z'))) μ) := Eq.trans rfl rfl
theorem add_tup : oAdd (.dat (.tuple xs)) (.dat (.tuple ys)) μ q = (xs.length + ys.length ≤ 100000 ∧ q (.dat (.tuple (xs ++ ys))) μ) := Eq.trans rfl rfl
theorem add_lst (hx : lstOf μ x = some xs) (hy : lstOf μ y = some ys) : oAdd x y μ q = (xs.length + ys.length ≤ 100000 ∧ q (.new (xs ++ ys)) μ) := by
  unfold oAdd
  split
  · cases hx
  · cases hx
  · cases hx
  · rw [hx, hy]
theorem add_ll : oAdd (.dat (.list xs)) (.dat (.list ys)) μ q = (xs.length + ys.length ≤ 100000 ∧ q (.new (xs ++ ys)) μ) := add_lst rfl rfl
theorem add_ln : oAdd (.dat (.list xs)) (.new ys) μ q = (xs.length + ys.length ≤ 100000 ∧ q (.new (xs ++ ys)) μ) := add_lst rfl rfl
theorem add_nl : oAdd (.new xs) (.dat (.list ys)) μ q = (xs.length + ys.length ≤ 100000 ∧ q (.new (xs ++ ys)) μ) := add_lst rfl rfl
theorem add_nn : oAdd (.new xs) (.new ys) μ q = (xs.length + ys.length ≤ 100000 ∧ q (.new (xs ++ ys)) μ) := add_lst rfl rfl
theorem mul_int : oMul (.dat (.int i)) (.dat (.int j)) μ q = (CMul i j ∧ q (.dat (.int (i * j))) μ) := Eq.trans rfl rfl
theorem sl_s {lo hi : Option Int} : oSl (.dat (.str z)) lo hi μ q = (z.length ≤ 100000 ∧ q (.dat (.str (cutS z lo hi))) μ) := Eq.trans rfl rfl
theorem sl_tupD {lo hi : Option Int} : oSl (.dat (.tuple xs)) lo hi μ q = q (.dat (.tuple (cutD xs lo hi))) μ := Eq.trans rfl rfl
theorem sl_lstD {lo hi : Option Int} : oSl (.dat (.list xs)) lo hi μ q = q (.new (cutD xs lo hi)) μ := Eq.trans rfl rfl
theorem sl_new {lo hi : Option Int} : oSl (.new xs) lo hi μ q = q (.new (cutD xs lo hi)) μ := Eq.trans rfl rfl
theorem sl_ro {lo hi : Option Int} : oSl (.ro xs) lo hi μ q = q (.new (cutD xs lo hi)) μ := Eq.trans rfl rfl
theorem stl_dat {d : PyData} : stlK q (.dat d) μ = q (.dat d) μ := Eq.trans rfl rfl
theorem stl_new : stlK q (.new xs) μ = q (.dat (.list xs)) μ := Eq.trans rfl rfl
theorem stl_loc : stlK q (.loc n) μ = q (.loc n) μ := Eq.trans rfl rfl
theorem stl_raw {v : V} : stlK q (.raw v) μ = q (.raw v) μ := Eq.trans rfl rfl
theorem stl_ro : stlK q (.ro xs) μ = q (.ro xs) μ := Eq.trans rfl rfl
theorem stl_exc {y : Exn} : stlK q (.exc y) μ = q (.exc y) μ := Eq.trans rfl rfl
theorem cel_dat {d : PyData} : cellK q (.dat d) μ = q (.dat d) μ := Eq.trans rfl rfl
theorem cel_new : cellK q (.new xs) μ = q (.loc μ.length) (μ ++ [.lst xs]) := Eq.trans rfl rfl
theorem cel_loc : cellK q (.loc n) μ = q (.loc n) μ := Eq.trans rfl rfl
theorem cel_raw {v : V} : cellK q (.raw v) μ = q (.raw v) μ := Eq.trans rfl rfl
theorem cel_ro : cellK q (.ro xs) μ = q (.ro xs) μ := Eq.trans rfl rfl
theorem nN_dat {d : PyData} : noNew (.dat d) = true := Eq.trans rfl rfl
theorem nN_loc : noNew (.loc n) = true := Eq.trans rfl rfl
theorem nN_raw {v : V} : noNew (.raw v) = true := Eq.trans rfl rfl
theorem nN_ro : noNew (.ro xs) = true := Eq.trans rfl rfl
theorem nN_exc {y : Exn} : noNew (.exc y) = true := Eq.trans rfl rfl
theorem aO_nil : allOld [] = true := Eq.trans rfl rfl
theorem aO_cons {e : EV} {es : List EV} : allOld (e :: es) = (noNew e && allOld es) := Eq.trans rfl rfl
theorem wB_b {b : Bool} {k : Bool → Prop} : withB (.dat (.bool b)) k = k b := Eq.trans rfl rfl
theorem oI_ii {C : Int → Int → Prop} {g : Int → Int → PyData} : oI C g (.dat (.int i)) (.dat (.int j)) μ q = (C i j ∧ q (.dat (g i j)) μ) := Eq.trans rfl rfl
theorem oI0_ii {g : Int → Int → PyData} : oI0 g (.dat (.int i)) (.dat (.int j)) μ q = q (.dat (g i j)) μ := Eq.trans rfl rfl
theorem neg_i : oNeg (.dat (.int i)) μ q = q (.dat (.int (-i))) μ := Eq.trans rfl rfl
theorem inv_i : oInv (.dat (.int i)) μ q = q (.dat (.int (Builtin.bitNot i))) μ := Eq.trans rfl rfl
theorem eq_dd {d e : PyData} : oEq (.dat d) (.dat e) μ q = (min d.depth e.depth ≤ 64 ∧ q (.dat (.bool (PyData.eqv d e))) μ) := Eq.trans rfl rfl
theorem ne_dd {d e : PyData} : oNe (.dat d) (.dat e) μ q = (min d.depth e.depth ≤ 64 ∧ q (.dat (.bool (!PyData.eqv d e))) μ) := Eq.trans rfl rfl
theorem eq_nd {d : PyData} : oEq (.new xs) (.dat d) μ q = (min (PyData.list xs).depth d.depth ≤ 64 ∧ q (.dat (.bool (PyData.eqv (.list xs) d))) μ) := Eq.trans rfl rfl
theorem ne_nd {d : PyData} : oNe (.new xs) (.dat d) μ q = (min (PyData.list xs).depth d.depth ≤ 64 ∧ q (.dat (.bool (!PyData.eqv (.list xs) d))) μ) := Eq.trans rfl rfl
theorem eq_dn {d : PyData} : oEq (.dat d) (.new xs) μ q = (min d.depth (PyData.list xs).depth ≤ 64 ∧ q (.dat (.bool (PyData.eqv d (.list xs)))) μ) := Eq.trans rfl rfl
theorem ne_dn {d : PyData} : oNe (.dat d) (.new xs) μ q = (min d.depth (PyData.list xs).depth ≤ 64 ∧ q (.dat (.bool (!PyData.eqv d (.list xs)))) μ) := Eq.trans rfl rfl
theorem eq_nn : oEq (.new xs) (.new ys) μ q = (min (PyData.list xs).depth (PyData.list ys).depth ≤ 64 ∧ q (.dat (.bool (PyData.eqv (.list xs) (.list ys)))) μ) := Eq.trans rfl rfl
theorem ne_nn : oNe (.new xs) (.new ys) μ q = (min (PyData.list xs).depth (PyData.list ys).depth ≤ 64 ∧ q (.dat (.bool (!PyData.eqv (.list xs) (.list ys)))) μ) := Eq.trans rfl rfl
theorem sign_ss {neg : Bool} : oInSign neg (.dat (.str z)) (.dat (.str z')) μ q = (∃ c, z = ⟨#[c]⟩ ∧ q (.dat (.bool (if neg then !decide (c ∈ z'.cps.toList) else decide (c ∈ z'.cps.toList)))) μ) := Eq.trans rfl rfl
theorem list_e : oList [x] μ q = (match seqOf μ x with
    | some ds => q (.new ds) μ
    | none => False) := rfl
theorem tuple_e : oTuple [x] μ q = (match seqOf μ x with
    | some ds => q (.dat (.tuple ds)) μ
    | none => False) := rfl
theorem max_ii : oMax2 [.dat (.int i), .dat (.int j)] μ q = q (.dat (.int (if j > i then j else i))) μ := Eq.trans rfl rfl
theorem min_ii : oMin2 [.dat (.int i), .dat (.int j)] μ q = q (.dat (.int (if j < i then j else i))) μ := Eq.trans rfl rfl
theorem tD_dat {d : PyData} : toDat μ (.dat d) = some (d, μ) := Eq.trans rfl rfl
theorem tD_new : toDat μ (.new xs) = some (.list xs, μ) := Eq.trans rfl rfl
theorem wD_dat {d : PyData} {k : PyData → Mu → Prop} : withDat μ (.dat d) k = k d μ := Eq.trans rfl rfl
theorem wD_new {k : PyData → Mu → Prop} : withDat μ (.new xs) k = k (.list xs) μ := Eq.trans rfl rfl
end
theorem eqv_int {i j : Int} : PyData.eqv (.int i) (.int j) = decide (i = j) := by
  rw [PyData.eqv]
  exact Bool.beq_eq_decide_eq i j
theorem eqv_bool {i j : Bool} : PyData.eqv (.bool i) (.bool j) = (i == j) := by rw [PyData.eqv]
theorem eqv_str {i j : Str} : PyData.eqv (.str i) (.str j) = decide (i = j) := by
  rw [PyData.eqv]
  exact Bool.beq_eq_decide_eq i j
theorem dep_int {i : Int} : (PyData.int i).depth = 0 := by rw [PyData.depth]
theorem dep_bool {i : Bool} : (PyData.bool i).depth = 0 := by rw [PyData.depth]
theorem dep_str {i : Str} : (PyData.str i).depth = 0 := by rw [PyData.depth]
theorem dep_none : PyData.none.depth = 0 := by rw [PyData.depth]
theorem min0l {n : Nat} : min 0 n ≤ 64 := by omega
theorem min0r {n : Nat} : min n 0 ≤ 64 := by omega

/-! ### statements, one by one -/
section
variable {t u v : TDS} {te : TDE} {ta : TDA} {tc : TDT} {g : TDG} {ti : TDI} {d : DEnds} {E : XQ} {η : DEnv} {μ : Mu} {i j : Nat} {o : OD}
theorem q_next (h : v d E η μ) : sSeq sNext v d E η μ := h
theorem q_asg (h : te η μ (fun e μ1 => g e η μ1 fun η' μ' => v d E η' μ') E) : sSeq (sAsg te g) v d E η μ := h
theorem q_set (h : te η μ (fun e μ1 => noNew e = true ∧ v d E (η.set i (some e)) μ1) E) : sSeq (sAsg te (gNm i)) v d E η μ := h
theorem q_par (h : ta η μ (fun es μ1 => match es with
  | [e1, e2] => noNew e1 = true ∧ noNew e2 = true ∧ v d E ((η.set i (some e1)).set j (some e2)) μ1
  | _ => False) E) : sSeq (sPar i j ta) v d E η μ := h
theorem q_drop (h : te η μ (fun _ μ1 => v d E η μ1) E) : sSeq (sDrop te) v d E η μ := h
theorem q_ret (h : te η μ d.rt E) : sSeq (sRet te) v d E η μ := h
theorem q_retN (h : d.rt (.dat .none) μ) : sSeq sRetN v d E η μ := h
theorem q_if (h : tc η μ (fun b μ1 => if b = true then t { d with nx := v d E } E η μ1 else u { d with nx := v d E } E η μ1) E) : sSeq (sIf tc t u) v d E η μ := h
/-- .. an if without else -/
theorem q_when (h : tc η μ (fun b μ1 => if b = true then t { d with nx := v d E } E η μ1 else v d E η μ1) E) : sSeq (sIf tc t sNext) v d E η μ := h
theorem q_ifB (b : Bool) (h : ∀ K : Bool → Mu → Prop, K b μ → tc η μ K E) (h1 : b = true → t { d with nx := v d E } E η μ) (h2 : b = false → u { d with nx := v d E } E η μ) : sSeq (sIf tc t u) v d E η μ :=
  h _ (by cases b with
    | true => exact h1 rfl
    | false => exact h2 rfl)
theorem s_ifB (b : Bool) (h : ∀ K : Bool → Mu → Prop, K b μ → tc η μ K E) (h1 : b = true → t d E η μ) (h2 : b = false → u d E η μ) : sIf tc t u d E η μ :=
  h _ (by cases b with
    | true => exact h1 rfl
    | false => exact h2 rfl)
theorem s_next (h : d.nx η μ) : sNext d E η μ := h
theorem s_asg (h : te η μ (fun e μ1 => g e η μ1 d.nx) E) : sAsg te g d E η μ := h
theorem s_set (h : te η μ (fun e μ1 => noNew e = true ∧ d.nx (η.set i (some e)) μ1) E) : sAsg te (gNm i) d E η μ := h
theorem s_drop (h : te η μ (fun _ μ1 => d.nx η μ1) E) : sDrop te d E η μ := h
theorem s_ret (h : te η μ d.rt E) : sRet te d E η μ := h
theorem s_retN (h : d.rt (.dat .none) μ) : sRetN d E η μ := h
theorem s_if (h : tc η μ (fun b μ1 => if b = true then t d E η μ1 else u d E η μ1) E) : sIf tc t u d E η μ := h
theorem s_when (h : tc η μ (fun b μ1 => if b = true then t d E η μ1 else d.nx η μ1) E) : sIf tc t sNext d E η μ := h
theorem s_whenB (b : Bool) (h : ∀ K : Bool → Mu → Prop, K b μ → tc η μ K E) (h1 : b = true → t d E η μ) (h2 : b = false → d.nx η μ) : sIf tc t sNext d E η μ := s_ifB b h h1 h2
theorem q_whenB (b : Bool) (h : ∀ K : Bool → Mu → Prop, K b μ → tc η μ K E) (h1 : b = true → t { d with nx := v d E } E η μ) (h2 : b = false → v d E η μ) : sSeq (sIf tc t sNext) v d E η μ := q_ifB b h h1 h2
/-- what a for asks of its items -/
def ForG (g : TDG) (tb : TDS) (d : DEnds) (E : XQ) (η : DEnv) (items : List EV) (G : Mu → Prop) (μ1 : Mu) : Prop := ∃ Inv : Nat → DEnv → Mu → Prop, Inv 0 η μ1 ∧ (∀ i η μ, Inv i η μ → G μ) ∧
  (∀ (i : Nat) (e : EV) η μ, items[i]? = some e → Inv i η μ → g e η μ fun η2 μ2 => tb { nx := fun η' μ' => Inv (i + 1) (clean μ1.length η') (μ'.take μ1.length), ct := fun η' μ' => Inv (i + 1) (clean μ1.length η') (μ'.take μ1.length), bk := d.nx, rt := d.rt } E η2 μ2) ∧
  ∀ η μ, Inv items.length η μ → d.nx η μ
theorem s_for (h : ti η μ (ForG g t d E η) E) : sFor ti g t d E η μ := h
theorem q_for (h : ti η μ (ForG g t { d with nx := v d E } E η) E) : sSeq (sFor ti g t) v d E η μ := h
theorem q_while (Inv : Nat → DEnv → Mu → Prop) (m : Nat) (h0 : Inv m η μ) (hs : ∀ m η' μ', Inv m η' μ' → tc η' μ' (fun b μ1 => if b = true then t { nx := fun η2 μ2 => ∃ m', m' < m ∧ Inv m' (clean μ.length η2) (μ2.take μ.length), ct := fun η2 μ2 => ∃ m', m' < m ∧ Inv m' (clean μ.length η2) (μ2.take μ.length), bk := v d E, rt := d.rt } E η' μ1 else v d E η' μ1) E) :
    sSeq (sWhile tc t) v d E η μ := ⟨Inv, ⟨m, h0⟩, hs⟩
end
/-- what a comprehension asks of its items -/
def LcG (g : TDG) (tt : TDT) (te : TDE) (vs : List Nat) (η : DEnv) (q : PQ) (items : List EV) (G : Mu → Prop) (μ1 : Mu) : Prop := items.length ≤ 100000 ∧ ∃ Inv : Nat → List PyData → Mu → Prop, Inv 0 [] μ1 ∧ (∀ i acc μ, Inv i acc μ → G μ ∧ acc.length ≤ i) ∧
  (∀ (i : Nat) (e : EV) acc μ, items[i]? = some e → Inv i acc μ → g e (wipeD η vs) μ fun η2 μ2 => tt η2 μ2 (fun b μ3 => if b = true then te η2 μ3 (fun ev μ4 => withDat μ4 ev fun d μ5 => Inv (i + 1) (acc ++ [d]) (μ5.take μ1.length)) EF else Inv (i + 1) acc (μ3.take μ1.length)) EF) ∧
  ∀ acc μ, Inv items.length acc μ → q (.new acc) μ
theorem lc_eq {ti : TDI} {g : TDG} {tt : TDT} {te : TDE} {vs : List Nat} {η : DEnv} {μ : Mu} {q : PQ} {E : XQ} : dLc ti g tt te vs η μ q E = ti η μ (LcG g tt te vs η q) E := Eq.trans rfl rfl
/-- over items told by a list, every one kept, the store as it was -/
theorem lc_map {α : Type} {as : List α} {h : α → EV} {G : Mu → Prop} {g : TDG} {te : TDE} {vs : List Nat} {η : DEnv} {q : PQ} {μ1 : Mu} (f : α → PyData) (hz : as.length ≤ 100000) (hG : G μ1)
    (hs : ∀ (a : α) (K : PyData → Mu → Prop), a ∈ as → K (f a) μ1 → g (h a) (wipeD η vs) μ1 fun η2 μ2 => te η2 μ2 (fun ev μ4 => withDat μ4 ev fun d μ5 => K d (μ5.take μ1.length)) EF)
    (hq : q (.new (as.map f)) μ1) : LcG g tYesD te vs η q (as.map h) G μ1 := by
  refine ⟨by rw [List.length_map]; exact hz, fun i acc μ => μ = μ1 ∧ acc = (as.take i).map f, ⟨rfl, rfl⟩, ?_, ?_, ?_⟩
  · rintro i acc μ ⟨rfl, rfl⟩
    refine ⟨hG, ?_⟩
    rw [List.length_map, List.length_take]
    omega
  · rintro i e acc μ hi ⟨rfl, rfl⟩
    obtain ⟨a, ha, rfl⟩ : ∃ a, as[i]? = some a ∧ e = h a := by
      rw [List.getElem?_map] at hi
      cases q : as[i]? with
      | none => rw [q] at hi; cases hi
      | some a => rw [q] at hi; exact ⟨a, rfl, (Option.some.inj hi).symm⟩
    refine hs a (fun d μ' => μ' = μ ∧ (as.take i).map f ++ [d] = (as.take (i + 1)).map f) (List.mem_of_getElem? ha) ⟨rfl, ?_⟩
    rw [List.take_add_one, ha, List.map_append]
    rfl
  · rintro acc μ ⟨rfl, rfl⟩
    rw [List.length_map, List.take_length]
    exact hq
/-- .. with a test -/
theorem lc_filter {α : Type} {as : List α} {h : α → EV} {G : Mu → Prop} {g : TDG} {tt : TDT} {te : TDE} {vs : List Nat} {η : DEnv} {q : PQ} {μ1 : Mu} (p : α → Bool) (f : α → PyData) (hz : as.length ≤ 100000) (hG : G μ1)
    (hs : ∀ (a : α) (K : PyData → Mu → Prop) (K' : Mu → Prop), a ∈ as → (p a = true → K (f a) μ1) → (p a = false → K' μ1) → g (h a) (wipeD η vs) μ1 fun η2 μ2 => tt η2 μ2 (fun b μ3 => if b = true then te η2 μ3 (fun ev μ4 => withDat μ4 ev fun d μ5 => K d (μ5.take μ1.length)) EF else K' (μ3.take μ1.length)) EF)
    (hq : q (.new ((as.filter p).map f)) μ1) : LcG g tt te vs η q (as.map h) G μ1 := by
  refine ⟨by rw [List.length_map]; exact hz, fun i acc μ => μ = μ1 ∧ acc = ((as.take i).filter p).map f, ⟨rfl, rfl⟩, ?_, ?_, ?_⟩
  · rintro i acc μ ⟨rfl, rfl⟩
    refine ⟨hG, ?_⟩
    have := List.length_filter_le p (as.take i)
    rw [List.length_map]
    rw [List.length_take] at this
    omega
  · rintro i e acc μ hi ⟨rfl, rfl⟩
    obtain ⟨a, ha, rfl⟩ : ∃ a, as[i]? = some a ∧ e = h a := by
      rw [List.getElem?_map] at hi
      cases q : as[i]? with
      | none => rw [q] at hi; cases hi
      | some a => rw [q] at hi; exact ⟨a, rfl, (Option.some.inj hi).symm⟩
    refine hs a (fun d μ' => μ' = μ ∧ ((as.take i).filter p).map f ++ [d] = ((as.take (i + 1)).filter p).map f) (fun μ' => μ' = μ ∧ ((as.take i).filter p).map f = ((as.take (i + 1)).filter p).map f) (List.mem_of_getElem? ha) (fun hp => ⟨rfl, ?_⟩) (fun hp => ⟨rfl, ?_⟩)
    · rw [List.take_add_one, ha, List.filter_append, List.map_append]
      simp [hp]
    · rw [List.take_add_one, ha, List.filter_append, List.map_append]
      simp [hp]
  · rintro acc μ ⟨rfl, rfl⟩
    rw [List.length_map, List.take_length]
    exact hq
/-- over items, by an invariant of the store and what was made -/
theorem lc_inv {α : Type} {as : List α} {h : α → EV} {G : Mu → Prop} {g : TDG} {tt : TDT} {te : TDE} {vs : List Nat} {η : DEnv} {q : PQ} {μ1 : Mu} (Inv : Nat → List PyData → Mu → Prop) (hz : as.length ≤ 100000) (h0 : Inv 0 [] μ1) (hG : ∀ i acc μ, Inv i acc μ → G μ ∧ acc.length ≤ i)
    (hs : ∀ (i : Nat) (a : α) acc μ, as[i]? = some a → Inv i acc μ → g (h a) (wipeD η vs) μ fun η2 μ2 => tt η2 μ2 (fun b μ3 => if b = true then te η2 μ3 (fun ev μ4 => withDat μ4 ev fun d μ5 => Inv (i + 1) (acc ++ [d]) (μ5.take μ1.length)) EF else Inv (i + 1) acc (μ3.take μ1.length)) EF)
    (hd : ∀ acc μ, Inv as.length acc μ → q (.new acc) μ) : LcG g tt te vs η q (as.map h) G μ1 := by
  refine ⟨by rw [List.length_map]; exact hz, Inv, h0, hG, fun i e acc μ hi iv => ?_, fun acc μ iv => hd acc μ (by rw [List.length_map] at iv; exact iv)⟩
  obtain ⟨a, ha, rfl⟩ : ∃ a, as[i]? = some a ∧ e = h a := by
    rw [List.getElem?_map] at hi
    cases q : as[i]? with
    | none => rw [q] at hi; cases hi
    | some a => rw [q] at hi; exact ⟨a, rfl, (Option.some.inj hi).symm⟩
  exact hs i a acc μ ha iv
theorem for_inv {α : Type} {as : List α} {h : α → EV} {G : Mu → Prop} {g : TDG} {tb : TDS} {d : DEnds} {E : XQ} {η : DEnv} {μ1 : Mu} (Inv : Nat → DEnv → Mu → Prop) (h0 : Inv 0 η μ1) (hG : ∀ i η μ, Inv i η μ → G μ)
    (hs : ∀ (i : Nat) (a : α) η μ, as[i]? = some a → Inv i η μ → g (h a) η μ fun η2 μ2 => tb { nx := fun η' μ' => Inv (i + 1) (clean μ1.length η') (μ'.take μ1.length), ct := fun η' μ' => Inv (i + 1) (clean μ1.length η') (μ'.take μ1.length), bk := d.nx, rt := d.rt } E η2 μ2)
    (hd : ∀ η μ, Inv as.length η μ → d.nx η μ) : ForG g tb d E η (as.map h) G μ1 := by
  refine ⟨Inv, h0, hG, fun i e η μ hi iv => ?_, fun η μ iv => hd η μ (by rw [List.length_map] at iv; exact iv)⟩
  obtain ⟨a, ha, rfl⟩ : ∃ a, as[i]? = some a ∧ e = h a := by
    rw [List.getElem?_map] at hi
    cases q : as[i]? with
    | none => rw [q] at hi; cases hi
    | some a => rw [q] at hi; exact ⟨a, rfl, (Option.some.inj hi).symm⟩
  exact hs i a η μ ha iv
theorem map_get {α β : Type} {as : List α} {h : α → β} {i : Nat} {e : β} (x : (as.map h)[i]? = some e) : ∃ a, as[i]? = some a ∧ e = h a := by
  rw [List.getElem?_map] at x
  cases q : as[i]? with
  | none => rw [q] at x; cases x
  | some a => rw [q] at x; exact ⟨a, rfl, (Option.some.inj x).symm⟩
theorem take_map {α β : Type} {as : List α} {i : Nat} {a : α} (f : α → β) (x : as[i]? = some a) : (as.take (i + 1)).map f = (as.take i).map f ++ [f a] := by
  rw [List.take_add_one, x, List.map_append]
  rfl
theorem take_fmap {α β : Type} {as : List α} {i : Nat} {a : α} (f : α → Option β) (x : as[i]? = some a) : (as.take (i + 1)).filterMap f = (as.take i).filterMap f ++ (f a).toList := by
  rw [List.take_add_one, x, List.filterMap_append]
  cases hf : f a <;> simp [hf]
theorem take_filter {α : Type} {as : List α} {i : Nat} {a : α} (f : α → Bool) (x : as[i]? = some a) : (as.take (i + 1)).filter f = (as.take i).filter f ++ (if f a then [a] else []) := by
  rw [List.take_add_one, x, List.filter_append]
  cases hf : f a <;> simp [hf]
theorem get_lt {α : Type} {as : List α} {i : Nat} {a : α} (x : as[i]? = some a) : i < as.length := (List.getElem?_eq_some_iff.mp x).1
theorem take_all {α : Type} (as : List α) : as.take as.length = as := List.take_length
theorem flen {α β : Type} (as : List α) (i : Nat) (f : α → Option β) : ((as.take i).filterMap f).length ≤ i := by
  refine Nat.le_trans (List.length_filterMap_le _ _) ?_
  rw [List.length_take]
  omega
theorem mlen {α β : Type} (as : List α) (i : Nat) (f : α → β) : ((as.take i).map f).length ≤ i := by
  rw [List.length_map, List.length_take]
  omega
theorem rng_get {lo : Int} {n i : Nat} {e : EV} (x : (rngItems lo n)[i]? = some e) : i < n ∧ e = .dat (.int (lo + (i : Nat))) := by
  obtain ⟨a, h1, h2⟩ := map_get x
  have := get_lt h1
  rw [List.length_range] at this
  rw [List.getElem?_range this] at h1
  cases h1
  exact ⟨this, h2⟩
theorem rng_len {lo : Int} {n : Nat} : (rngItems lo n).length = n := by simp [rngItems]
/-! ### the law's drawing -/
/-- a drawing state at n -/
def StAt (μ : Mu) (n : Nat) : Prop := ∃ a b : Int, μ[n]? = some (.lst [.int a, .int b]) ∧ 0 ≤ a ∧ a < 2147483648
/-- drawn from -/
def Stp (μ : Mu) (n : Nat) (μ' : Mu) : Prop := ∃ a b : Int, μ' = μ.set n (.lst [.int a, .int b]) ∧ 0 ≤ a ∧ a < 2147483648
theorem StAt.lt {μ : Mu} {n : Nat} (h : StAt μ n) : n < μ.length := let ⟨_, _, e, _⟩ := h; get_lt e
theorem Stp.len {μ μ' : Mu} {n : Nat} (h : Stp μ n μ') : μ'.length = μ.length := by
  obtain ⟨a, b, rfl, _⟩ := h
  exact List.length_set
theorem Stp.at {μ μ' : Mu} {n : Nat} (h : Stp μ n μ') (s : StAt μ n) : StAt μ' n := by
  have hl := s.lt
  obtain ⟨a, b, rfl, h1, h2⟩ := h
  exact ⟨a, b, by rw [List.getElem?_set_self hl], h1, h2⟩
theorem Stp.ne {μ μ' : Mu} {n m : Nat} (h : Stp μ n μ') (ne : n ≠ m) : μ'[m]? = μ[m]? := by
  obtain ⟨a, b, rfl, h1, h2⟩ := h
  exact List.getElem?_set_ne ne
theorem Stp.refl {μ : Mu} {n : Nat} (s : StAt μ n) : Stp μ n μ := by
  obtain ⟨a, b, e, h1, h2⟩ := s
  refine ⟨a, b, ?_, h1, h2⟩
  obtain ⟨h3, h4⟩ := List.getElem?_eq_some_iff.mp e
  rw [← h4, List.set_getElem_self]
theorem Stp.trans {μ μ1 μ2 : Mu} {n : Nat} (h : Stp μ n μ1) (h' : Stp μ1 n μ2) : Stp μ n μ2 := by
  obtain ⟨a, b, rfl, h1, h2⟩ := h
  obtain ⟨a', b', rfl, h3, h4⟩ := h'
  exact ⟨a', b', List.set_set .., h3, h4⟩
theorem Stp.take {μ μ' : Mu} {n : Nat} (h : Stp μ n μ') : μ'.take μ.length = μ' := by
  rw [← h.len]
  exact List.take_length
theorem pick {α : Type} {xs : List α} {r : Int} (h0 : 0 ≤ r) (h1 : r < xs.length) : ∃ d, xs[r.toNat]? = some d ∧ d ∈ xs := by
  have h : r.toNat < xs.length := by omega
  exact ⟨xs[r.toNat], List.getElem?_eq_getElem h, List.getElem_mem h⟩
def sp_cell : SpD := fun es μ q _ => ∃ (ns : List Int) (k : Int), es = [.ro (ns.map .int), .dat (.int k)] ∧ 0 ≤ k ∧ k ≤ 1000 ∧ ns.length ≤ 63 ∧ ∀ r : Int, q (.dat (.int r)) μ
def sp_state : SpD := fun es μ q _ => ∃ c k : Int, es = [.dat (.int c), .dat (.int k)] ∧ 0 ≤ k ∧ k ≤ 1000 ∧ ∀ a b : Int, 0 ≤ a → a < 2147483648 → q (.new [.int a, .int b]) μ
def sp_next : SpD := fun es μ q _ => ∃ (n : Nat) (k : Int), es = [.loc n, .dat (.int k)] ∧ StAt μ n ∧ 0 < k ∧ k < 1073741824 ∧ ∀ (r : Int) (μ' : Mu), 0 ≤ r → r < k → Stp μ n μ' → q (.dat (.int r)) μ'
end DL

set_option Elab.async false
set_option linter.all false
set_option maxRecDepth 100000
set_option maxHeartbeats 4000000
namespace DL
open PySem L2 PyProof.Rows
/-! ### words for proofs over data readings -/
/-- an old reading -/
def oldK (q : PQ) : PQ := fun e μ => match e with
  | .new _ => False
  | e => q e μ
theorem old_dat {q : PQ} {d : PyData} {μ : Mu} : oldK q (.dat d) μ = q (.dat d) μ := Eq.trans rfl rfl
theorem old_loc {q : PQ} {d : Nat} {μ : Mu} : oldK q (.loc d) μ = q (.loc d) μ := Eq.trans rfl rfl
theorem old_raw {q : PQ} {d : V} {μ : Mu} : oldK q (.raw d) μ = q (.raw d) μ := Eq.trans rfl rfl
theorem old_exc {q : PQ} {d : Exn} {μ : Mu} : oldK q (.exc d) μ = q (.exc d) μ := Eq.trans rfl rfl
theorem old_ro {q : PQ} {d : List PyData} {μ : Mu} : oldK q (.ro d) μ = q (.ro d) μ := Eq.trans rfl rfl
theorem dVar_0 {v : EV} {η : DEnv} {μ : Mu} {q : PQ} {E : XQ} : dVar 0 (some v :: η) μ q E = oldK q v μ := by
  cases v <;> rfl
theorem dVar_1 {a0 : Option EV} {v : EV} {η : DEnv} {μ : Mu} {q : PQ} {E : XQ} : dVar 1 (a0 :: some v :: η) μ q E = oldK q v μ := by
  cases v <;> rfl
theorem dVar_2 {a0 a1 : Option EV} {v : EV} {η : DEnv} {μ : Mu} {q : PQ} {E : XQ} : dVar 2 (a0 :: a1 :: some v :: η) μ q E = oldK q v μ := by
  cases v <;> rfl
theorem dVar_3 {a0 a1 a2 : Option EV} {v : EV} {η : DEnv} {μ : Mu} {q : PQ} {E : XQ} : dVar 3 (a0 :: a1 :: a2 :: some v :: η) μ q E = oldK q v μ := by
  cases v <;> rfl
theorem dVar_4 {a0 a1 a2 a3 : Option EV} {v : EV} {η : DEnv} {μ : Mu} {q : PQ} {E : XQ} : dVar 4 (a0 :: a1 :: a2 :: a3 :: some v :: η) μ q E = oldK q v μ := by
  cases v <;> rfl
theorem dVar_5 {a0 a1 a2 a3 a4 : Option EV} {v : EV} {η : DEnv} {μ : Mu} {q : PQ} {E : XQ} : dVar 5 (a0 :: a1 :: a2 :: a3 :: a4 :: some v :: η) μ q E = oldK q v μ := by
  cases v <;> rfl
theorem dVar_6 {a0 a1 a2 a3 a4 a5 : Option EV} {v : EV} {η : DEnv} {μ : Mu} {q : PQ} {E : XQ} : dVar 6 (a0 :: a1 :: a2 :: a3 :: a4 :: a5 :: some v :: η) μ q E = oldK q v μ := by
  cases v <;> rfl
theorem dVar_7 {a0 a1 a2 a3 a4 a5 a6 : Option EV} {v : EV} {η : DEnv} {μ : Mu} {q : PQ} {E : XQ} : dVar 7 (a0 :: a1 :: a2 :: a3 :: a4 :: a5 :: a6 :: some v :: η) μ q E = oldK q v μ := by
  cases v <;> rfl
theorem dVar_8 {a0 a1 a2 a3 a4 a5 a6 a7 : Option EV} {v : EV} {η : DEnv} {μ : Mu} {q : PQ} {E : XQ} : dVar 8 (a0 :: a1 :: a2 :: a3 :: a4 :: a5 :: a6 :: a7 :: some v :: η) μ q E = oldK q v μ := by
  cases v <;> rfl
theorem dVar_9 {a0 a1 a2 a3 a4 a5 a6 a7 a8 : Option EV} {v : EV} {η : DEnv} {μ : Mu} {q : PQ} {E : XQ} : dVar 9 (a0 :: a1 :: a2 :: a3 :: a4 :: a5 :: a6 :: a7 :: a8 :: some v :: η) μ q E = oldK q v μ := by
  cases v <;> rfl
theorem dVar_10 {a0 a1 a2 a3 a4 a5 a6 a7 a8 a9 : Option EV} {v : EV} {η : DEnv} {μ : Mu} {q : PQ} {E : XQ} : dVar 10 (a0 :: a1 :: a2 :: a3 :: a4 :: a5 :: a6 :: a7 :: a8 :: a9 :: some v :: η) μ q E = oldK q v μ := by
  cases v <;> rfl
theorem dVar_11 {a0 a1 a2 a3 a4 a5 a6 a7 a8 a9 a10 : Option EV} {v : EV} {η : DEnv} {μ : Mu} {q : PQ} {E : XQ} : dVar 11 (a0 :: a1 :: a2 :: a3 :: a4 :: a5 :: a6 :: a7 :: a8 :: a9 :: a10 :: some v :: η) μ q E = oldK q v μ := by
  cases v <;> rfl
theorem dVar_12 {a0 a1 a2 a3 a4 a5 a6 a7 a8 a9 a10 a11 : Option EV} {v : EV} {η : DEnv} {μ : Mu} {q : PQ} {E : XQ} : dVar 12 (a0 :: a1 :: a2 :: a3 :: a4 :: a5 :: a6 :: a7 :: a8 :: a9 :: a10 :: a11 :: some v :: η) μ q E = oldK q v μ := by
  cases v <;> rfl
theorem dVar_13 {a0 a1 a2 a3 a4 a5 a6 a7 a8 a9 a10 a11 a12 : Option EV} {v : EV} {η : DEnv} {μ : Mu} {q : PQ} {E : XQ} : dVar 13 (a0 :: a1 :: a2 :: a3 :: a4 :: a5 :: a6 :: a7 :: a8 :: a9 :: a10 :: a11 :: a12 :: some v :: η) μ q E = oldK q v μ := by
  cases v <;> rfl
theorem dVar_14 {a0 a1 a2 a3 a4 a5 a6 a7 a8 a9 a10 a11 a12 a13 : Option EV} {v : EV} {η : DEnv} {μ : Mu} {q : PQ} {E : XQ} : dVar 14 (a0 :: a1 :: a2 :: a3 :: a4 :: a5 :: a6 :: a7 :: a8 :: a9 :: a10 :: a11 :: a12 :: a13 :: some v :: η) μ q E = oldK q v μ := by
  cases v <;> rfl
theorem dVar_15 {a0 a1 a2 a3 a4 a5 a6 a7 a8 a9 a10 a11 a12 a13 a14 : Option EV} {v : EV} {η : DEnv} {μ : Mu} {q : PQ} {E : XQ} : dVar 15 (a0 :: a1 :: a2 :: a3 :: a4 :: a5 :: a6 :: a7 :: a8 :: a9 :: a10 :: a11 :: a12 :: a13 :: a14 :: some v :: η) μ q E = oldK q v μ := by
  cases v <;> rfl
theorem wDs_nil {k : List PyData → Prop} : withDats [] k = k [] := by simp [withDats, datsOf]
theorem wDs_cons {d : PyData} {es : List EV} {k : List PyData → Prop} : withDats (.dat d :: es) k = withDats es fun ds => k (d :: ds) := by
  have h : datsOf (.dat d :: es) = (datsOf es).map (d :: ·) := Eq.trans rfl rfl
  unfold withDats
  rw [h]
  cases datsOf es <;> rfl
theorem x_dC {d : PyData} {η : DEnv} {μ : Mu} {q : PQ} {E : XQ} : dC d η μ q E = q (.dat d) μ := Eq.trans rfl rfl
theorem x_dRaw {v : V} {η : DEnv} {μ : Mu} {q : PQ} {E : XQ} : dRaw v η μ q E = q (.raw v) μ := Eq.trans rfl rfl
theorem x_dFrz {t : TDE} {η : DEnv} {μ : Mu} {q : PQ} {E : XQ} : dFrz t η μ q E = t η μ (fun e μ1 => withDat μ1 e fun d μ2 => q (.dat d) μ2) E := Eq.trans rfl rfl
theorem x_dCell {t : TDE} {η : DEnv} {μ : Mu} {q : PQ} {E : XQ} : dCell t η μ q E = t η μ (cellK q) E := Eq.trans rfl rfl
theorem x_dStl {t : TDE} {η : DEnv} {μ : Mu} {q : PQ} {E : XQ} : dStl t η μ q E = t η μ (stlK q) E := Eq.trans rfl rfl
theorem x_aNil  {η : DEnv} {μ : Mu} {q : List EV → Mu → Prop} {E : XQ} : aNil η μ q E = q [] μ := Eq.trans rfl rfl
theorem x_aCons {t : TDE} {u : TDA} {η : DEnv} {μ : Mu} {q : List EV → Mu → Prop} {E : XQ} : aCons t u η μ q E = t η μ (fun e μ1 => u η μ1 (fun es μ2 => q (e :: es) μ2) E) E := Eq.trans rfl rfl
theorem x_dLst {t : TDA} {η : DEnv} {μ : Mu} {q : PQ} {E : XQ} : dLst t η μ q E = t η μ (fun es μ1 => withDats es fun ds => ds.length ≤ 100000 ∧ q (.new ds) μ1) E := Eq.trans rfl rfl
theorem x_dTup {t : TDA} {η : DEnv} {μ : Mu} {q : PQ} {E : XQ} : dTup t η μ q E = t η μ (fun es μ1 => withDats es fun ds => ds.length ≤ 100000 ∧ q (.dat (.tuple ds)) μ1) E := Eq.trans rfl rfl
theorem x_tVal {t : TDE} {η : DEnv} {μ : Mu} {q : Bool → Mu → Prop} {E : XQ} : tVal t η μ q E = t η μ (fun e μ1 => withB e fun b => q b μ1) E := Eq.trans rfl rfl
theorem x_tAndD {t u : TDT} {η : DEnv} {μ : Mu} {q : Bool → Mu → Prop} {E : XQ} : tAndD t u η μ q E = t η μ (fun b μ1 => if b = true then u η μ1 q E else q false μ1) E := Eq.trans rfl rfl
theorem x_tOrD {t u : TDT} {η : DEnv} {μ : Mu} {q : Bool → Mu → Prop} {E : XQ} : tOrD t u η μ q E = t η μ (fun b μ1 => if b = true then q true μ1 else u η μ1 q E) E := Eq.trans rfl rfl
theorem x_tNotD {t : TDT} {η : DEnv} {μ : Mu} {q : Bool → Mu → Prop} {E : XQ} : tNotD t η μ q E = t η μ (fun b μ1 => q (!b) μ1) E := Eq.trans rfl rfl
theorem x_tYesD  {η : DEnv} {μ : Mu} {q : Bool → Mu → Prop} {E : XQ} : tYesD η μ q E = q true μ := Eq.trans rfl rfl
theorem x_dAndV {t u : TDE} {η : DEnv} {μ : Mu} {q : PQ} {E : XQ} : dAndV t u η μ q E = t η μ (fun e μ1 => withB e fun b => if b = true then u η μ1 q E else q (.dat (.bool false)) μ1) E := Eq.trans rfl rfl
theorem x_dOrV {t u : TDE} {η : DEnv} {μ : Mu} {q : PQ} {E : XQ} : dOrV t u η μ q E = t η μ (fun e μ1 => withB e fun b => if b = true then q (.dat (.bool true)) μ1 else u η μ1 q E) E := Eq.trans rfl rfl
theorem x_dNotV {t : TDE} {η : DEnv} {μ : Mu} {q : PQ} {E : XQ} : dNotV t η μ q E = t η μ (fun e μ1 => withB e fun b => q (.dat (.bool (!b))) μ1) E := Eq.trans rfl rfl
theorem x_dIfE {t : TDT} {ta tb : TDE} {η : DEnv} {μ : Mu} {q : PQ} {E : XQ} : dIfE t ta tb η μ q E = t η μ (fun b μ1 => if b = true then ta η μ1 q E else tb η μ1 q E) E := Eq.trans rfl rfl
theorem x_dOp {o : OD} {ta tb : TDE} {η : DEnv} {μ : Mu} {q : PQ} {E : XQ} : dOp o ta tb η μ q E = ta η μ (fun x μ1 => tb η μ1 (fun y μ2 => o x y μ2 q) E) E := Eq.trans rfl rfl
theorem x_dUn {o : UD} {ta : TDE} {η : DEnv} {μ : Mu} {q : PQ} {E : XQ} : dUn o ta η μ q E = ta η μ (fun x μ1 => o x μ1 q) E := Eq.trans rfl rfl
theorem x_dCB {o : CD} {t : TDA} {η : DEnv} {μ : Mu} {q : PQ} {E : XQ} : dCB o t η μ q E = t η μ (fun es μ1 => o es μ1 q) E := Eq.trans rfl rfl
theorem x_dChain {o o' : OD} {ta tb tc : TDE} {η : DEnv} {μ : Mu} {q : PQ} {E : XQ} : dChain o o' ta tb tc η μ q E = ta η μ (fun x μ1 => tb η μ1 (fun y μ2 => noNew x = true ∧ noNew y = true ∧ o x y μ2 fun z μ3 => withB z fun k => if k = true then tc η μ3 (fun w μ4 => o' y w μ4 q) E else q (.dat (.bool false)) μ3) E) E := Eq.trans rfl rfl
def intK (k : Int → Prop) (e : EV) : Prop := match e with
  | .dat (.int i) => k i
  | _ => False
theorem intK_i {k : Int → Prop} {i : Int} : intK k (.dat (.int i)) = k i := Eq.trans rfl rfl
theorem x_oNo  {η : DEnv} {μ : Mu} {q : Option Int → Mu → Prop} {E : XQ} : oNo η μ q E = q none μ := Eq.trans rfl rfl
theorem x_oSome {t : TDE} {η : DEnv} {μ : Mu} {q : Option Int → Mu → Prop} {E : XQ} : oSome t η μ q E = t η μ (fun e μ1 => intK (fun i => q (some i) μ1) e) E := Eq.trans rfl rfl
theorem x_dSl {o : SD} {te : TDE} {tl th : TDO} {η : DEnv} {μ : Mu} {q : PQ} {E : XQ} : dSl o te tl th η μ q E = te η μ (fun x μ1 => tl η μ1 (fun l μ2 => th η μ2 (fun h μ3 => o x l h μ3 q) E) E) E := Eq.trans rfl rfl
theorem x_gNm {i : Nat} {e : EV} {η : DEnv} {μ : Mu} {q : DEnv → Mu → Prop} : gNm i e η μ q = (noNew e = true ∧ q (η.set i (some e)) μ) := Eq.trans rfl rfl
theorem x_gNl0  {η : DEnv} {μ : Mu} {q : DEnv → Mu → Prop} : gNl [] η μ q = q η μ := by
  simp [gNl]
theorem x_gCn {t : TDG} {u : TDGs} {d : PyData} {r : List PyData} {η : DEnv} {μ : Mu} {q : DEnv → Mu → Prop} : gCn t u (d :: r) η μ q = t (.dat d) η μ (fun η' μ' => u r η' μ' q) := Eq.trans rfl rfl
theorem x_gTp {n : Nat} {t : TDGs} {ds : List PyData} {η : DEnv} {μ : Mu} {q : DEnv → Mu → Prop} : gTp n t (.dat (.tuple ds)) η μ q = (ds.length = n ∧ t ds η μ q) := Eq.trans rfl rfl
theorem x_gSb {to ti : TDE} {o : SetD} {e : EV} {η : DEnv} {μ : Mu} {q : DEnv → Mu → Prop} : gSb to ti o e η μ q = to η μ (fun x μ1 => ti η μ1 (fun y μ2 => o x y e μ2 fun μ3 => q η μ3) fun _ _ => False) fun _ _ => False := Eq.trans rfl rfl
theorem x_dCall {n : Nat} {sp : SpD} {des : List EV} {t : TDA} {η : DEnv} {μ : Mu} {q : PQ} {E : XQ} : dCall n sp des t η μ q E = t η μ (fun es μ1 => allOld es = true ∧ (es ++ des).length = n ∧ sp (es ++ des) μ1 q E) E := Eq.trans rfl rfl
abbrev RI := List EV → (Mu → Prop) → Mu → Prop
def seqK (r : RI) (e : EV) (μ1 : Mu) : Prop := match e with
  | .loc n => match μ1[n]? with
    | some (.lst xs) => r (xs.map .dat) (fun μ => μ[n]? = some (.lst xs) ∨ μ[n]? = some (.frz xs)) μ1
    | some (.frz xs) => r (xs.map .dat) (fun _ => True) μ1
    | _ => False
  | .dat (.tuple xs) => r (xs.map .dat) (fun _ => True) μ1
  | .dat (.list xs) => r (xs.map .dat) (fun _ => True) μ1
  | .new xs => r (xs.map .dat) (fun _ => True) μ1
  | .dat (.str z) => r (z.cps.toList.map fun c => .dat (.str ⟨#[c]⟩)) (fun _ => True) μ1
  | .ro xs => r (xs.map .dat) (fun _ => True) μ1
  | _ => False
theorem seqK_loc {r : RI} {n : Nat} {xs : List PyData} {μ : Mu} (h : μ[n]? = some (.lst xs)) : seqK r (.loc n) μ = r (xs.map .dat) (fun μ => μ[n]? = some (.lst xs) ∨ μ[n]? = some (.frz xs)) μ := by simp [seqK, h]
theorem seqK_tup {r : RI} {xs : List PyData} {μ : Mu} : seqK r (.dat (.tuple xs)) μ = r (xs.map .dat) (fun _ => True) μ := Eq.trans rfl rfl
theorem seqK_lst {r : RI} {xs : List PyData} {μ : Mu} : seqK r (.dat (.list xs)) μ = r (xs.map .dat) (fun _ => True) μ := Eq.trans rfl rfl
theorem seqK_new {r : RI} {xs : List PyData} {μ : Mu} : seqK r (.new xs) μ = r (xs.map .dat) (fun _ => True) μ := Eq.trans rfl rfl
theorem seqK_ro {r : RI} {xs : List PyData} {μ : Mu} : seqK r (.ro xs) μ = r (xs.map .dat) (fun _ => True) μ := Eq.trans rfl rfl
theorem seqK_str {r : RI} {z : Str} {μ : Mu} : seqK r (.dat (.str z)) μ = r (z.cps.toList.map fun c => .dat (.str ⟨#[c]⟩)) (fun _ => True) μ := Eq.trans rfl rfl
def rng1K (r : RI) (es : List EV) (μ1 : Mu) : Prop := match es with
  | [.dat (.int j)] => (-1000000 ≤ j ∧ j ≤ 1000000) ∧ r (rngItems 0 j.toNat) (fun _ => True) μ1
  | _ => False
def rng2K (r : RI) (es : List EV) (μ1 : Mu) : Prop := match es with
  | [.dat (.int i), .dat (.int j)] => (-1000000 ≤ i ∧ i ≤ 1000000 ∧ -1000000 ≤ j ∧ j ≤ 1000000) ∧ r (rngItems i (j - i).toNat) (fun _ => True) μ1
  | _ => False
theorem rng1_i {r : RI} {j : Int} {μ : Mu} : rng1K r [.dat (.int j)] μ = ((-1000000 ≤ j ∧ j ≤ 1000000) ∧ r (rngItems 0 j.toNat) (fun _ => True) μ) := Eq.trans rfl rfl
theorem rng2_i {r : RI} {i j : Int} {μ : Mu} : rng2K r [.dat (.int i), .dat (.int j)] μ = ((-1000000 ≤ i ∧ i ≤ 1000000 ∧ -1000000 ≤ j ∧ j ≤ 1000000) ∧ r (rngItems i (j - i).toNat) (fun _ => True) μ) := Eq.trans rfl rfl
theorem x_iSeq {t : TDE} {η : DEnv} {μ : Mu} {r : RI} {E : XQ} : iSeq t η μ r E = t η μ (fun e μ1 => seqK r e μ1) E := Eq.trans rfl rfl
theorem x_iRange1 {t : TDA} {η : DEnv} {μ : Mu} {r : RI} {E : XQ} : iRange1 t η μ r E = t η μ (fun es μ1 => rng1K r es μ1) E := Eq.trans rfl rfl
theorem x_iRange2 {t : TDA} {η : DEnv} {μ : Mu} {r : RI} {E : XQ} : iRange2 t η μ r E = t η μ (fun es μ1 => rng2K r es μ1) E := Eq.trans rfl rfl
theorem x_dBM {ty : EV → Mu → Prop} {o : MD} {to : TDE} {t : TDA} {η : DEnv} {μ : Mu} {q : PQ} {E : XQ} : dBM ty o to t η μ q E = to η μ (fun x μ1 => ty x μ1 ∧ t η μ1 (fun es μ2 => o x es μ2 q) E) E := Eq.trans rfl rfl
theorem x_dBM0 {ty : EV → Mu → Prop} {o : MD} {to : TDE} {η : DEnv} {μ : Mu} {q : PQ} {E : XQ} : dBM0 ty o to η μ q E = to η μ (fun x μ1 => ty x μ1 ∧ o x [] μ1 q) E := Eq.trans rfl rfl
theorem x_isStr {z : Str} {μ : Mu} : isStrE (.dat (.str z)) μ = True := Eq.trans rfl rfl
theorem x_isLst {n : Nat} {xs : List PyData} {μ : Mu} (h : μ[n]? = some (.lst xs)) : isLstE (.loc n) μ = True := by simp [isLstE, lstOf, h]
def boolsK (ds : List PyData) (k : List Bool → Prop) : Prop := match boolsOf ds with
  | some bs => k bs
  | none => False
theorem bools_k {bs : List Bool} {k : List Bool → Prop} : boolsK (bs.map .bool) k = k bs := by simp [boolsK, bools_map]
def intsK (ds : List PyData) (k : List Int → Prop) : Prop := match intsOf ds with
  | some bs => k bs
  | none => False
theorem ints_k {bs : List Int} {k : List Int → Prop} : intsK (bs.map .int) k = k bs := by simp [intsK, ints_map]
def strsK (ds : List PyData) (k : List Str → Prop) : Prop := match strsOf ds with
  | some bs => k bs
  | none => False
theorem strs_k {bs : List Str} {k : List Str → Prop} : strsK (bs.map .str) k = k bs := by simp [strsK, strs_map]
def lstK (μ : Mu) (e : EV) (k : List PyData → Prop) : Prop := match lstOf μ e with
  | some ds => k ds
  | none => False
def sqK (μ : Mu) (e : EV) (k : List PyData → Prop) : Prop := match seqOf μ e with
  | some ds => k ds
  | none => False
theorem lstK_lst {xs : List PyData} {k : List PyData → Prop} {μ : Mu} : lstK μ (.dat (.list xs)) k = k xs := Eq.trans rfl rfl
theorem lstK_new {xs : List PyData} {k : List PyData → Prop} {μ : Mu} : lstK μ (.new xs) k = k xs := Eq.trans rfl rfl
theorem lstK_loc {n : Nat} {xs : List PyData} {k : List PyData → Prop} {μ : Mu} (h : μ[n]? = some (.lst xs)) : lstK μ (.loc n) k = k xs := by simp [lstK, lstOf, h]
theorem sqK_lst {xs : List PyData} {k : List PyData → Prop} {μ : Mu} : sqK μ (.dat (.list xs)) k = k xs := Eq.trans rfl rfl
theorem sqK_new {xs : List PyData} {k : List PyData → Prop} {μ : Mu} : sqK μ (.new xs) k = k xs := Eq.trans rfl rfl
theorem sqK_tup {xs : List PyData} {k : List PyData → Prop} {μ : Mu} : sqK μ (.dat (.tuple xs)) k = k xs := Eq.trans rfl rfl
theorem sqK_ro {xs : List PyData} {k : List PyData → Prop} {μ : Mu} : sqK μ (.ro xs) k = k xs := Eq.trans rfl rfl
theorem sqK_loc {n : Nat} {xs : List PyData} {k : List PyData → Prop} {μ : Mu} (h : μ[n]? = some (.lst xs)) : sqK μ (.loc n) k = k xs := by simp [sqK, seqOf, tupOf, roOf, lstOf, h]
theorem x_oAll {f : List Bool → Bool} {e : EV} {μ : Mu} {q : PQ} : oAll f [e] μ q = lstK μ e fun ds => boolsK ds fun bs => q (.dat (.bool (f bs))) μ := Eq.trans rfl rfl
theorem x_oSum {e : EV} {μ : Mu} {q : PQ} : oSum [e] μ q = lstK μ e fun ds => intsK ds fun bs => q (.dat (.int bs.sum)) μ := Eq.trans rfl rfl
theorem x_oJoin {a : Str} {e : EV} {μ : Mu} {q : PQ} : oJoin (.dat (.str a)) [e] μ q = sqK μ e fun ds => strsK ds fun ys => (ys.map (·.length)).sum + ys.length * a.length ≤ 100000 ∧ q (.dat (.str (Str.join a ys))) μ := Eq.trans rfl rfl
theorem x_oList {e : EV} {μ : Mu} {q : PQ} : oList [e] μ q = sqK μ e fun ds => q (.new ds) μ := Eq.trans rfl rfl
theorem x_oTuple {e : EV} {μ : Mu} {q : PQ} : oTuple [e] μ q = sqK μ e fun ds => q (.dat (.tuple ds)) μ := Eq.trans rfl rfl
theorem x_oIsN {x y : EV} {μ : Mu} {q : PQ} : oIsN x y μ q = (isRaw x = false ∧ isNon y = true ∧ q (.dat (.bool (isNon x))) μ) := Eq.trans rfl rfl
theorem x_oNotN {x y : EV} {μ : Mu} {q : PQ} : oNotN x y μ q = (isRaw x = false ∧ isNon y = true ∧ q (.dat (.bool (!isNon x))) μ) := Eq.trans rfl rfl
theorem x_lc {ti : TDI} {g : TDG} {tt : TDT} {te : TDE} {vs : List Nat} {η : DEnv} {μ : Mu} {q : PQ} {E : XQ} : dLc ti g tt te vs η μ q E = ti η μ (LcG g tt te vs η q) E := Eq.trans rfl rfl
theorem exitQ_lt {N n : Nat} {q : PQ} {μ : Mu} (h : n < N) : DL.exitQ N q (.loc n) μ = q (.loc n) (μ.take N) := by simp [DL.exitQ, h]
theorem exitQ_lst {N n : Nat} {q : PQ} {μ : Mu} {xs : List PyData} (h : N ≤ n) (h2 : μ[n]? = some (.lst xs)) : DL.exitQ N q (.loc n) μ = q (.new xs) (μ.take N) := by
  have : ¬ n < N := by omega
  simp [DL.exitQ, this, h2]
theorem cl_nil {N : Nat} : clean N [] = [] := Eq.trans rfl rfl
theorem cl_none {N : Nat} {η : DEnv} : clean N (none :: η) = none :: clean N η := Eq.trans rfl rfl
theorem cl_dat {N : Nat} {η : DEnv} {d : PyData} : clean N (some (.dat d) :: η) = some (.dat d) :: clean N η := Eq.trans rfl rfl
theorem cl_ro {N : Nat} {η : DEnv} {d : List PyData} : clean N (some (.ro d) :: η) = some (.ro d) :: clean N η := Eq.trans rfl rfl
theorem cl_raw {N : Nat} {η : DEnv} {d : V} : clean N (some (.raw d) :: η) = some (.raw d) :: clean N η := Eq.trans rfl rfl
theorem cl_odat {N : Nat} {η : DEnv} {o : Option PyData} : clean N (o.map EV.dat :: η) = o.map EV.dat :: clean N η := by
  cases o <;> rfl
theorem cl_loc {N n : Nat} {η : DEnv} (h : n < N) : clean N (some (.loc n) :: η) = some (.loc n) :: clean N η := by simp [clean, h]
theorem cl_locg {N n : Nat} {η : DEnv} (h : N ≤ n) : clean N (some (.loc n) :: η) = none :: clean N η := by
  have : ¬ n < N := by omega
  simp [clean, this]
theorem od_some {d : PyData} : (some d).map EV.dat = some (.dat d) := Eq.trans rfl rfl
/-- a law's call throws nothing -/
theorem cx_no {P : Program} {w : World} {o : List Env} {H : Hp} {s s' : Shared} {e : Value} (x : L2.CX P w o H s (fun _ _ _ => False) e s') : False := by
  obtain ⟨_, _, _, _, _, _, _, _, _, _, _, _, z⟩ := x
  exact z
end DL


set_option Elab.async false
set_option linter.all false
set_option maxRecDepth 100000
set_option maxHeartbeats 4000000
namespace B
open PySem L2 DL
def top (i : Nat) : Stmt := PySem.Challenge.pw_boardlay_k01_names_and_numbers.main.body.getD i (.Pass ⟨0, 0, 0, 0⟩)
abbrev s_is_name : Stmt := top 4
abbrev s_is_number : Stmt := top 5
abbrev s_law_cell_at : Stmt := top 7
abbrev s_law_state : Stmt := top 8
abbrev s_law_next : Stmt := top 9
abbrev s_law_text : Stmt := top 10
abbrev s_law_is_name : Stmt := top 11
abbrev s_law_same : Stmt := top 12
abbrev s_law_right : Stmt := top 13
abbrev s_law : Stmt := top 14
structure Top (K : PySem.W.Frag) (mg : Str → Option Value) where
  a_is_name : Addr
  fd_is_name : FuncData
  F_is_name : Fun K "is_name" "is_name" s_is_name a_is_name fd_is_name
  m_is_name : mg "is_name" = some (.ref a_is_name)
  b_is_name : Binds K fd_is_name ["thing"] []
  a_is_number : Addr
  fd_is_number : FuncData
  F_is_number : Fun K "is_number" "is_number" s_is_number a_is_number fd_is_number
  m_is_number : mg "is_number" = some (.ref a_is_number)
  b_is_number : Binds K fd_is_number ["thing", "least", "most"] []
  a_law_cell_at : Addr
  fd_law_cell_at : FuncData
  F_law_cell_at : Fun K "_law_cell_at" "_law_cell_at" s_law_cell_at a_law_cell_at fd_law_cell_at
  m_law_cell_at : mg "_law_cell_at" = some (.ref a_law_cell_at)
  b_law_cell_at : Binds K fd_law_cell_at ["_law_script", "_law_k"] []
  a_law_state : Addr
  fd_law_state : FuncData
  F_law_state : Fun K "_law_state" "_law_state" s_law_state a_law_state fd_law_state
  m_law_state : mg "_law_state" = some (.ref a_law_state)
  b_law_state : Binds K fd_law_state ["_law_cell", "_law_k"] []
  a_law_next : Addr
  fd_law_next : FuncData
  F_law_next : Fun K "_law_next" "_law_next" s_law_next a_law_next fd_law_next
  m_law_next : mg "_law_next" = some (.ref a_law_next)
  b_law_next : Binds K fd_law_next ["_law_state_here", "_law_size"] []
  a_law_text : Addr
  fd_law_text : FuncData
  F_law_text : Fun K "_law_text" "_law_text" s_law_text a_law_text fd_law_text
  m_law_text : mg "_law_text" = some (.ref a_law_text)
  b_law_text : Binds K fd_law_text ["_law_state_here"] []
  a_law_is_name : Addr
  fd_law_is_name : FuncData
  F_law_is_name : Fun K "_law_is_name" "_law_is_name" s_law_is_name a_law_is_name fd_law_is_name
  m_law_is_name : mg "_law_is_name" = some (.ref a_law_is_name)
  b_law_is_name : Binds K fd_law_is_name ["_law_thing"] []
  a_law_same : Addr
  fd_law_same : FuncData
  F_law_same : Fun K "_law_same" "_law_same" s_law_same a_law_same fd_law_same
  m_law_same : mg "_law_same" = some (.ref a_law_same)
  b_law_same : Binds K fd_law_same ["_law_found", "_law_due"] []
  a_law_right : Addr
  fd_law_right : FuncData
  F_law_right : Fun K "_law_right" "_law_right" s_law_right a_law_right fd_law_right
  m_law_right : mg "_law_right" = some (.ref a_law_right)
  b_law_right : Binds K fd_law_right ["_law_state_here", "_law_cell"] []
  a_law : Addr
  fd_law : FuncData
  F_law : Fun K "law" "law" s_law a_law fd_law
  m_law : mg "law" = some (.ref a_law)
  b_law : Binds K fd_law ["_law_script"] []
  n_all : mg "all" = none
  n_bool : mg "bool" = none
  n_int : mg "int" = none
  n_isinstance : mg "isinstance" = none
  n_len : mg "len" = none
  n_max : mg "max" = none
  n_min : mg "min" = none
  n_range : mg "range" = none
  n_str : mg "str" = none
  g_FIGURES : ∃ t, mg "FIGURES" = some (.str "0123456789" t)
  g_LETTERS : ∃ t, mg "LETTERS" = some (.str "abcdefghijklmnopqrstuvwxyz" t)
  g_MOST_SIGNS : ∃ t, mg "MOST_SIGNS" = some (.int 6 t)
theorem sc_is_name : FnScope ["thing", "sign"] ["thing"] (defScope s_is_name) := ⟨rfl, rfl, rfl, by decide +kernel, rfl, by decide +kernel, by decide +kernel⟩
theorem sc_is_number : FnScope ["thing", "least", "most"] ["thing", "least", "most"] (defScope s_is_number) := ⟨rfl, rfl, rfl, by decide +kernel, rfl, by decide +kernel, by decide +kernel⟩
theorem sc_law_cell_at : FnScope ["_law_script", "_law_k"] ["_law_script", "_law_k"] (defScope s_law_cell_at) := ⟨rfl, rfl, rfl, by decide +kernel, rfl, by decide +kernel, by decide +kernel⟩
theorem sc_law_state : FnScope ["_law_cell", "_law_k", "_law_drawn"] ["_law_cell", "_law_k"] (defScope s_law_state) := ⟨rfl, rfl, rfl, by decide +kernel, rfl, by decide +kernel, by decide +kernel⟩
theorem sc_law_next : FnScope ["_law_state_here", "_law_size", "_law_found", "_law_mixed"] ["_law_state_here", "_law_size"] (defScope s_law_next) := ⟨rfl, rfl, rfl, by decide +kernel, rfl, by decide +kernel, by decide +kernel⟩
theorem sc_law_text : FnScope ["_law_state_here", "_law_signs", "_law_text_here", "_law_k"] ["_law_state_here"] (defScope s_law_text) := ⟨rfl, rfl, rfl, by decide +kernel, rfl, by decide +kernel, by decide +kernel⟩
theorem sc_law_is_name : FnScope ["_law_thing", "_law_good", "_law_sign"] ["_law_thing"] (defScope s_law_is_name) := ⟨rfl, rfl, rfl, by decide +kernel, rfl, by decide +kernel, by decide +kernel⟩
theorem sc_law_same : FnScope ["_law_found", "_law_due"] ["_law_found", "_law_due"] (defScope s_law_same) := ⟨rfl, rfl, rfl, by decide +kernel, rfl, by decide +kernel, by decide +kernel⟩
theorem sc_law_right : FnScope ["_law_state_here", "_law_cell", "_law_odd", "_law_thing", "_law_number", "_law_least", "_law_most"] ["_law_state_here", "_law_cell"] (defScope s_law_right) := ⟨rfl, rfl, rfl, by decide +kernel, rfl, by decide +kernel, by decide +kernel⟩
theorem sc_law : FnScope ["_law_script", "_law_k", "_law_cell"] ["_law_script"] (defScope s_law) := ⟨rfl, rfl, rfl, by decide +kernel, rfl, by decide +kernel, by decide +kernel⟩
local macro_rules | `(tactic| walk_at "dx") => `(tactic| simp only [↓dVar_0, ↓dVar_1, ↓dVar_2, ↓dVar_3, ↓dVar_4, ↓dVar_5, ↓dVar_6, ↓dVar_7, ↓dVar_8, ↓dVar_9, ↓dVar_10, ↓dVar_11, ↓dVar_12, ↓dVar_13, ↓dVar_14, ↓dVar_15, ↓old_dat, ↓old_loc, ↓old_raw, ↓old_exc, ↓old_ro, ↓wDs_nil, ↓wDs_cons, ↓x_dC, ↓x_dRaw, ↓x_dFrz, ↓x_dCell, ↓x_dStl, ↓x_aNil, ↓x_aCons, ↓x_dLst, ↓x_dTup, ↓x_tVal, ↓x_tAndD, ↓x_tOrD, ↓x_tNotD, ↓x_tYesD, ↓x_dAndV, ↓x_dOrV, ↓x_dNotV, ↓x_dIfE, ↓x_dOp, ↓x_dUn, ↓x_dCB, ↓x_dChain, ↓intK_i, ↓x_oNo, ↓x_oSome, ↓x_dSl, ↓x_gNm, ↓x_gNl0, ↓x_gCn, ↓x_gTp, ↓x_gSb, ↓x_dCall, ↓seqK_tup, ↓seqK_lst, ↓seqK_new, ↓seqK_ro, ↓seqK_str, ↓rng1_i, ↓rng2_i, ↓x_iSeq, ↓x_iRange1, ↓x_iRange2, ↓x_dBM, ↓x_dBM0, ↓x_isStr, ↓bools_k, ↓ints_k, ↓strs_k, ↓lstK_lst, ↓lstK_new, ↓sqK_lst, ↓sqK_new, ↓sqK_tup, ↓sqK_ro, ↓x_oAll, ↓x_oSum, ↓x_oJoin, ↓x_oList, ↓x_oTuple, ↓x_oIsN, ↓x_oNotN, ↓x_lc, ↓wD_dat, ↓wD_new, ↓wB_b, ↓nN_dat, ↓nN_loc, ↓nN_raw, ↓nN_ro, ↓nN_exc, ↓aO_nil, ↓aO_cons, ↓stl_dat, ↓stl_new, ↓stl_loc, ↓stl_raw, ↓stl_ro, ↓stl_exc, ↓cel_dat, ↓cel_new, ↓cel_loc, ↓cel_raw, ↓cel_ro, ↓add_int, ↓add_strD, ↓add_tup, ↓add_ll, ↓add_ln, ↓add_nl, ↓add_nn, ↓oI_ii, ↓oI0_ii, ↓neg_i, ↓inv_i, ↓mul_int, ↓eq_dd, ↓ne_dd, ↓eq_nd, ↓ne_nd, ↓eq_dn, ↓ne_dn, ↓eq_nn, ↓ne_nn, ↓sign_ss, ↓ix_s, ↓ix_tupD, ↓ix_lstD, ↓ix_new, ↓ix_ro, ↓sl_s, ↓sl_tupD, ↓sl_lstD, ↓sl_new, ↓sl_ro, ↓len_str, ↓len_tup, ↓len_lst, ↓len_new, ↓len_ro, ↓max_ii, ↓min_ii, ↓isi_int, ↓isi_bool, ↓isi_str, ↓isi_list, ↓isi_tuple, ↓isi_dict, ↓exitQ_dat, ↓exitQ_new, ↓exitQ_raw, ↓cl_nil, ↓cl_none, ↓cl_dat, ↓cl_ro, ↓cl_raw, ↓cl_odat, dVar_0, dVar_1, dVar_2, dVar_3, dVar_4, dVar_5, dVar_6, dVar_7, dVar_8, dVar_9, dVar_10, dVar_11, dVar_12, dVar_13, dVar_14, dVar_15, old_dat, old_loc, old_raw, old_exc, old_ro, wDs_nil, wDs_cons, x_dC, x_dRaw, x_dFrz, x_dCell, x_dStl, x_aNil, x_aCons, x_dLst, x_dTup, x_tVal, x_tAndD, x_tOrD, x_tNotD, x_tYesD, x_dAndV, x_dOrV, x_dNotV, x_dIfE, x_dOp, x_dUn, x_dCB, x_dChain, intK_i, x_oNo, x_oSome, x_dSl, x_gNm, x_gNl0, x_gCn, x_gTp, x_gSb, x_dCall, seqK_tup, seqK_lst, seqK_new, seqK_ro, seqK_str, rng1_i, rng2_i, x_iSeq, x_iRange1, x_iRange2, x_dBM, x_dBM0, x_isStr, bools_k, ints_k, strs_k, lstK_lst, lstK_new, sqK_lst, sqK_new, sqK_tup, sqK_ro, x_oAll, x_oSum, x_oJoin, x_oList, x_oTuple, x_oIsN, x_oNotN, x_lc, wD_dat, wD_new, wB_b, nN_dat, nN_loc, nN_raw, nN_ro, nN_exc, aO_nil, aO_cons, stl_dat, stl_new, stl_loc, stl_raw, stl_ro, stl_exc, cel_dat, cel_new, cel_loc, cel_raw, cel_ro, add_int, add_strD, add_tup, add_ll, add_ln, add_nl, add_nn, oI_ii, oI0_ii, neg_i, inv_i, mul_int, eq_dd, ne_dd, eq_nd, ne_nd, eq_dn, ne_dn, eq_nn, ne_nn, sign_ss, ix_s, ix_tupD, ix_lstD, ix_new, ix_ro, sl_s, sl_tupD, sl_lstD, sl_new, sl_ro, len_str, len_tup, len_lst, len_new, len_ro, max_ii, min_ii, isi_int, isi_bool, isi_str, isi_list, isi_tuple, isi_dict, exitQ_dat, exitQ_new, exitQ_raw, cl_nil, cl_none, cl_dat, cl_ro, cl_raw, cl_odat, oLt, oLe, oGt, oGe, oSub, oMod, oDiv, oPow, oShl, oShr, oAnd, oOr, oXor, isRaw, isNon, startD, List.length_map, decide_eq_true_eq, List.map_cons, List.map_nil, List.length_cons, List.length_nil, List.cons_append, List.nil_append, List.append_nil, List.replicate, List.getElem?_cons_zero, List.getElem?_cons_succ, List.set_cons_zero, List.set_cons_succ, List.take_length, true_and, and_true, eqv_int, eqv_bool, eqv_str, dep_int, dep_bool, dep_str, dep_none, min0l, min0r, Option.map_some, Option.map_none, if_true, if_false, Bool.and_true, Bool.true_and, Bool.false_eq_true, Bool.not_true, Bool.not_false, reduceIte, wipeD, List.append_assoc, at_nn, Option.some.injEq, exists_eq_left, exists_eq_left', Int.reduceToNat, Int.reduceLE, Int.reduceLT, List.length_set, Nat.reduceAdd, Nat.reduceLeDiff, Nat.reduceSub, dat_dat, dat_new, lst_lst, lst_new, seq_tup, seq_lst, seq_new, seq_ro])
local macro_rules | `(tactic| walk_at "st") => `(tactic| (first | refine q_next ?_ | refine q_when ?_ | refine q_if ?_ | refine q_ret ?_ | refine q_set ?_ | refine q_asg ?_ | refine q_par ?_ | refine q_drop ?_ | refine q_for ?_ | refine s_next ?_ | refine s_when ?_ | refine s_if ?_ | refine s_ret ?_ | refine s_set ?_ | refine s_asg ?_ | refine s_drop ?_ | refine s_for ?_ | skip) <;> (try walk_at "dx"))

section
variable {P : Program} {w : World} {K : PySem.W.Frag} {mg : Str → Option Value} {base : Heap}
def isNum (d : PyData) (a b : Int) : Bool := match d with
  | .int i => decide (a ≤ i) && decide (i ≤ b)
  | _ => false
def sp_is_number : SpD := fun es μ q _ => ∃ (d : PyData) (a b : Int), es = [.dat d, .dat (.int a), .dat (.int b)] ∧ q (.dat (.bool (isNum d a b))) μ
theorem ok_is_number (T : Top K mg) : DefAt P w K mg base "is_number" 1 ["thing", "least", "most"] [] [] sp_is_number := by
  refine def_ok sp_is_number T.F_is_number sc_is_number T.m_is_number T.b_is_number (fun cdv A outer s H E hr tk pw => (dss_one (ds_ret (de_and (de_callB call_isi cs_isi (by rfl) T.n_isinstance bb_isinstance (da_cons (dv 0) (da_cons (de_ty T.n_int bt_int) da_nil))) (de_and (de_not (de_callB call_isi cs_isi (by rfl) T.n_isinstance bb_isinstance (da_cons (dv 0) (da_cons (de_ty T.n_bool bt_bool) da_nil)))) (de_one (de_chain op_le os_le op_le os_le (dv 1) (dv 0) (dv 2)))))))) ?_
  rintro es μ q x - ⟨d, a, b, rfl, h⟩
  refine s_ret ?_
  walk_at "dx"
  cases d with
  | int i =>
    simp only [isIntD, isBoolD, isNum] at h ⊢
    walk_at "dx"
    by_cases h1 : a ≤ i
    · simpa [h1] using h
    · simpa [h1] using h
  | _ =>
    simp only [isIntD, isBoolD, isNum] at h ⊢
    walk_at "dx"
    exact h
def letters : Str := "abcdefghijklmnopqrstuvwxyz"
def figures : Str := "0123456789"
def nameZ (z : Str) : Bool := decide (1 ≤ z.length) && decide (z.length ≤ 6) && (match z.cps.toList with
  | c :: _ => decide (c ∈ letters.cps.toList)
  | [] => false) && z.cps.toList.all fun c => decide (c ∈ letters.cps.toList) || decide (c ∈ figures.cps.toList)
def isName (d : PyData) : Bool := match d with
  | .str z => nameZ z
  | _ => false
def sp_is_name : SpD := fun es μ q _ => ∃ (d : PyData), es = [.dat d] ∧ (∀ z, d = .str z → z.length ≤ 1000) ∧ q (.dat (.bool (isName d))) μ
theorem at0 {z : Str} (h : 1 ≤ z.length) : ∃ c r, z.cps.toList = c :: r ∧ atI z.cps.toList 0 = some c := by
  cases e : z.cps.toList with
  | nil =>
    have h2 : z.cps.toList.length = 0 := by rw [e]; rfl
    have h3 : z.cps.toList.length = z.length := Array.length_toList
    omega
  | cons c r =>
    refine ⟨c, r, rfl, ?_⟩
    have : (0 : Int) = ((0 : Nat) : Int) := rfl
    rw [this]
    exact atI_nat rfl
theorem ok_is_name (T : Top K mg) : DefAt P w K mg base "is_name" 1 ["thing"] [] [] sp_is_name := by
  refine def_ok sp_is_name T.F_is_name sc_is_name T.m_is_name T.b_is_name (fun cdv A outer s H E hr tk pw => (dss_cons (ds_if (dw_or (dt_not (dt_val (de_callB call_isi cs_isi (by rfl) T.n_isinstance bb_isinstance (da_cons (dv 0) (da_cons (de_ty T.n_str bt_str) da_nil))))) (dw_or1 (dt_not (dt_chain op_le os_le op_le os_le de_int (de_callB call_len cs_len (by rfl) T.n_len bb_len (da_cons (dv 0) da_nil)) (de_gint T.g_MOST_SIGNS))))).dt (dss_one (ds_ret de_bl)) dss_nil)
    (dss_cons (ds_if (dt_cmp op_notIn_sign os_notInSign (de_ix ix_seq os_ix (dv 0) de_int (fun _ _ => rfl)) (de_gstr T.g_LETTERS) (by rfl)) (dss_one (ds_ret de_bl)) dss_nil)
    (dss_one (ds_ret (de_callB (cr_all rfl) cs_all (by rfl) T.n_all bb_all (da_cons (de_lc (own := [("sign", 1)]) rfl sc_is_name.nd (di_seq (dv 0)) (blkOk_by (N := ["thing", "sign"]) (sc := defScope s_is_name) (by decide +kernel)) (by decide) (fun _ _ _ _ _ => (dg_name (i := 1) sc_is_name.nd rfl (by first | exact Or.inl rfl | exact Or.inr rfl))) (fun _ _ _ _ _ => dts_nil) (fun _ _ _ _ _ => (de_or (de_cmp op_in_sign os_inSign (dv 1) (de_gstr T.g_LETTERS) (by rfl)) (de_one (de_cmp op_in_sign os_inSign (dv 1) (de_gstr T.g_FIGURES) (by rfl)))))) da_nil))))))) ?_
  rintro es μ q x - ⟨d, rfl, hz, h⟩
  refine q_whenB (!(match d with | .str z => decide (1 ≤ z.length) && decide (z.length ≤ 6) | _ => false)) (fun K hK => ?_) (fun hb => ?_) (fun hb => ?_)
  · walk_at "dx"
    cases d with
    | str z =>
      have := hz z rfl
      simp only [isStrD]
      walk_at "dx"
      refine ⟨by omega, ?_⟩
      by_cases h1 : 1 ≤ z.length
      · have h1' : (1 : Int) ≤ (z.length : Int) := by omega
        by_cases h2 : z.length ≤ 6
        · have h2' : (z.length : Int) ≤ 6 := by omega
          simpa [h1, h2, h1', h2'] using hK
        · have h2' : ¬ (z.length : Int) ≤ 6 := by omega
          simpa [h1, h2, h1', h2'] using hK
      · have h1' : ¬ (1 : Int) ≤ (z.length : Int) := by omega
        simpa [h1, h1'] using hK
    | _ => exact hK
  · walk_at "st"
    cases d with
    | str z =>
      have : nameZ z = false := by
        unfold nameZ
        simp only [Bool.not_eq_true'] at hb
        rw [hb]
        simp
      simp only [isName, this] at h
      exact h
    | _ => exact h
  · cases d with
    | str z =>
      simp only [Bool.not_eq_false', Bool.and_eq_true, decide_eq_true_eq] at hb
      have hz := hz z rfl
      obtain ⟨c, r, hc, h0⟩ := at0 hb.1
      refine q_whenB (!decide (c ∈ letters.cps.toList)) (fun K hK => ?_) (fun hb1 => ?_) (fun hb1 => ?_)
      · walk_at "dx"
        exact ⟨by omega, c, by rw [hc]; rfl, c, rfl, hK⟩
      · walk_at "st"
        have : nameZ z = false := by
          unfold nameZ
          simp only [hc]
          simp at hb1
          simp [hb1]
        simp only [isName, this] at h
        exact h
      · walk_at "st"
        have hl : z.cps.toList.length = z.length := Array.length_toList
        refine lc_map (fun c => .bool (decide (c ∈ letters.cps.toList) || decide (c ∈ figures.cps.toList))) (by omega) trivial (fun a K _ hK => ?_) ?_
        · walk_at "dx"
          refine ⟨a, rfl, ?_⟩
          by_cases h1 : a ∈ letters.cps.toList
          · rw [if_pos (by simpa [letters] using h1)]
            simpa [h1] using hK
          · rw [if_neg (by simpa [letters] using h1)]
            exact ⟨a, rfl, by simpa [h1, figures] using hK⟩
        · walk_at "dx"
          have e : z.cps.toList.map (fun c => PyData.bool (decide (c ∈ letters.cps.toList) || decide (c ∈ figures.cps.toList))) = (z.cps.toList.map fun c => (decide (c ∈ letters.cps.toList) || decide (c ∈ figures.cps.toList))).map .bool := by rw [List.map_map]; rfl
          rw [e, bools_k]
          simp only [List.all_map]
          have : nameZ z = z.cps.toList.all fun c => decide (c ∈ letters.cps.toList) || decide (c ∈ figures.cps.toList) := by
            unfold nameZ
            simp at hb1
            have hb2 : decide (c ∈ letters.cps.toList) = true := by simpa using hb1
            simp only [hb.1, hb.2, hc, decide_true, Bool.true_and, hb2]
          simp only [isName, this] at h
          exact h
    | _ => cases hb
abbrev sp_law_cell_at := sp_cell
abbrev sp_law_state := sp_state
abbrev sp_law_next := sp_next
theorem ok_law_cell_at (T : Top K mg) : DefAt P w K mg base "_law_cell_at" 1 ["_law_script", "_law_k"] [] [] sp_law_cell_at := by
  refine def_ok sp_law_cell_at T.F_law_cell_at sc_law_cell_at T.m_law_cell_at T.b_law_cell_at (fun cdv A outer s H E hr tk pw => (dss_cons (ds_if (dt_cmp op_lt os_lt (dv 1) (de_callB call_len cs_len (by rfl) T.n_len bb_len (da_cons (dv 0) da_nil)) (nomark _)) (dss_one (ds_ret (de_ix ix_seq os_ix (dv 0) (dv 1) (fun _ _ => rfl)))) dss_nil)
    (dss_one (ds_ret de_int)))) ?_
  rintro es μ q x - ⟨ns, k, rfl, h0, h1, hl, h⟩
  refine q_whenB (decide (k < ns.length)) (fun K hK => ?_) (fun hb => ?_) (fun hb => ?_)
  · walk_at "dx"
    simpa using hK
  · walk_at "st"
    simp only [decide_eq_true_eq] at hb
    obtain ⟨j, rfl⟩ : ∃ j : Nat, k = j := ⟨k.toNat, by omega⟩
    have hj : j < ns.length := by omega
    exact ⟨.int ns[j], atI_nat (by simp [hj]), h _⟩
  · walk_at "st"
    exact h 0
theorem ok_law_state (T : Top K mg) : DefAt P w K mg base "_law_state" 1 ["_law_cell", "_law_k"] [] [] sp_law_state := by
  refine def_ok sp_law_state T.F_law_state sc_law_state T.m_law_state T.b_law_state (fun cdv A outer s H E hr tk pw => (dss_cons (ds_set (i := 2) sc_law_state.nd rfl (by first | exact Or.inl rfl | exact Or.inr rfl) (de_stl (de_op op_mod os_mod (de_op opA_mul os_mul (de_op opA_add os_add (de_op opA_add os_add (dv 0) (de_op opA_mul os_mul de_int (dv 1))) de_int) de_int) de_int)))
    (dss_one (ds_ret (de_lst (da_cons (de_frz (de_op op_mod os_mod (de_op opA_add os_add (de_op opA_add os_add (de_op opA_mul os_mul (dv 2) (dv 2)) (de_op opA_mul os_mul de_int (dv 2))) (dv 1)) de_int)) (da_cons (de_frz (de_op op_sub os_sub (dv 0) (de_op op_pow os_pow de_int de_int))) da_nil))))))) ?_
  rintro es μ q x - ⟨c, k, rfl, h0, h1, h⟩
  walk_at "st"
  have hm := Int.emod_nonneg ((c + 7919 * k + 1) * 48271) (show (2147483647 : Int) ≠ 0 by decide)
  have hm2 := Int.emod_lt_of_pos ((c + 7919 * k + 1) * 48271) (show (0 : Int) < 2147483647 by decide)
  refine ⟨by unfold CMul; omega, by unfold CMul; omega, ?_⟩
  walk_at "st"
  generalize (c + 7919 * k + 1) * 48271 % 2147483647 = z at hm hm2
  exact ⟨by unfold CMul; omega, by unfold CMul; omega, by unfold CPow; decide, h _ _ (by omega) (by omega)⟩
theorem ok_law_next (T : Top K mg) : DefAt P w K mg base "_law_next" 1 ["_law_state_here", "_law_size"] [] [] sp_law_next := by
  refine def_ok sp_law_next T.F_law_next sc_law_next T.m_law_next T.b_law_next (fun cdv A outer s H E hr tk pw => (dss_cons (ds_if (dt_cmp op_gt os_gt (de_ix ix_seq os_ix (dv 0) de_int (fun _ _ => rfl)) de_int (nomark _)) (dss_cons (ds_set (i := 2) sc_law_next.nd rfl (by first | exact Or.inl rfl | exact Or.inr rfl) (de_stl (de_op op_mod os_mod (de_ix ix_seq os_ix (dv 0) de_int (fun _ _ => rfl)) (dv 1))))
    (dss_cons (ds_asg (de_frz (de_op op_fdiv os_div (de_ix ix_seq os_ix (dv 0) de_int (fun _ _ => rfl)) (dv 1))) (dg_sub (W := WF) (dv 0) de_int set_list ss_list))
    (dss_one (ds_ret (dv 2))))) dss_nil)
    (dss_cons (ds_asg (de_frz (de_op op_mod os_mod (de_op opA_add os_add (de_op opA_mul os_mul (de_ix ix_seq os_ix (dv 0) de_int (fun _ _ => rfl)) de_int) de_int) de_int)) (dg_sub (W := WF) (dv 0) de_int set_list ss_list))
    (dss_cons (ds_set (i := 3) sc_law_next.nd rfl (by first | exact Or.inl rfl | exact Or.inr rfl) (de_stl (de_op op_mod os_mod (de_op opA_mul os_mul (de_ix ix_seq os_ix (dv 0) de_int (fun _ _ => rfl)) (de_ix ix_seq os_ix (dv 0) de_int (fun _ _ => rfl))) de_int)))
    (dss_one (ds_ret (de_op op_mod os_mod (de_op op_fdiv os_div (dv 3) de_int) (dv 1)))))))) ?_
  rintro es μ q x - ⟨n, k, rfl, ⟨a, b, hn, ha, hb⟩, h0, h1, h⟩
  have hlt := get_lt hn
  refine q_whenB (decide (1 < b)) (fun K hK => ?_) (fun hb1 => ?_) (fun hb1 => ?_)
  · walk_at "dx"
    simp only [ix_loc hn]
    walk_at "dx"
    exact hK
  · walk_at "st"
    simp only [ix_loc hn]
    walk_at "dx"
    refine ⟨h0, ?_⟩
    refine q_asg ?_
    walk_at "dx"
    simp only [ix_loc hn]
    walk_at "dx"
    refine ⟨⟨h0, h1⟩, ?_⟩
    simp only [setL_loc hn]
    refine ⟨1, rfl, ?_⟩
    walk_at "st"
    have st : Stp μ n (μ.set n (.lst [.int a, .int (b / k)])) := ⟨a, _, rfl, ha, hb⟩
    rw [st.take]
    exact h _ _ (Int.emod_nonneg _ (by omega)) (Int.emod_lt_of_pos _ h0) st
  · refine q_asg ?_
    walk_at "dx"
    simp only [ix_loc hn]
    walk_at "dx"
    refine ⟨by unfold CMul; omega, ?_⟩
    simp only [setL_loc hn]
    refine ⟨0, rfl, ?_⟩
    have hm := Int.emod_nonneg (a * 69621 + 11) (show (2147483629 : Int) ≠ 0 by decide)
    have hm2 := Int.emod_lt_of_pos (a * 69621 + 11) (show (0 : Int) < 2147483629 by decide)
    generalize (a * 69621 + 11) % 2147483629 = z at hm hm2
    have st : Stp μ n (μ.set n (.lst [.int z, .int b])) := ⟨z, _, rfl, hm, by omega⟩
    have hn2 : (μ.set n (.lst [.int z, .int b]))[n]? = some (.lst [.int z, .int b]) := List.getElem?_set_self hlt
    refine q_set ?_
    walk_at "dx"
    simp only [List.set_cons_zero, ix_loc hn2]
    walk_at "dx"
    refine ⟨by unfold CMul; omega, ?_⟩
    walk_at "st"
    refine ⟨by unfold CDiv; decide, h0, ?_⟩
    rw [st.take]
    exact h _ _ (Int.emod_nonneg _ (by omega)) (Int.emod_lt_of_pos _ h0) st

theorem sum1 : ∀ ys : List Str, (∀ y ∈ ys, y.length = 1) → (ys.map (·.length)).sum = ys.length
  | [], _ => rfl
  | y :: r, h => by
    rw [List.map_cons, List.sum_cons, sum1 r fun z hz => h z (List.mem_cons_of_mem _ hz), h y (by simp), List.length_cons]
    omega
theorem len_join1 : ∀ ys : List Str, (∀ y ∈ ys, y.length = 1) → (Str.join "" ys).length = ys.length
  | [], _ => rfl
  | [y], h => h y (by simp)
  | y :: z :: r, h => by
    show ((y ++ "" ++ Str.join "" (z :: r)) : Str).length = _
    have e : ∀ a b : Str, (a ++ b).length = a.length + b.length := fun a b => Array.size_append
    rw [e, e, len_join1 (z :: r) fun w hw => h w (List.mem_cons_of_mem _ hw), h y (by simp), List.length_cons (a := y)]
    show 1 + 0 + (z :: r).length = _
    omega
theorem len_empty : ("" : Str).length = 0 := rfl
theorem len_add (a b : Str) (n : Nat) (h : a.length = n) : (a ++ b).length = n + b.length := by
  subst h
  exact Array.size_append
theorem cut_le (t : Str) (k : Nat) : (cutS t none (some (k : Int))).length ≤ k := by
  show (((t.cps.toList.drop (HT.sIx t.length 0 none)).take (HT.sIx t.length t.length (some (k : Int)) - HT.sIx t.length 0 none)).toArray).size ≤ k
  rw [List.size_toArray, List.length_take, HT.sIx_nat, HT.sIx_none]
  omega
def sp_law_text : SpD := fun es μ q _ => ∃ n : Nat, es = [.loc n] ∧ StAt μ n ∧ ∀ (z : Str) μ', Stp μ n μ' → z.length ≤ 9 → q (.dat (.str z)) μ'
theorem ok_law_text (T : Top K mg) : DefAt P w K mg base "_law_text" 2 ["_law_state_here"] [] [] sp_law_text := by
  refine def_ok sp_law_text T.F_law_text sc_law_text T.m_law_text T.b_law_text (fun cdv A outer s H E hr tk pw => (dss_cons (ds_set (i := 1) sc_law_text.nd rfl (by first | exact Or.inl rfl | exact Or.inr rfl) (de_stl (de_ix ix_seq os_ix (de_lst (da_cons de_str (da_cons de_str (da_cons de_str (da_cons de_str da_nil))))) (de_call (ok_law_next T) hr (by decide) (by rfl) tk (fun _ _ => .nil) (da_cons (de_cell (dv 0)) (da_cons de_int da_nil))) (fun _ _ => rfl))))
    (dss_cons (ds_set (i := 2) sc_law_text.nd rfl (by first | exact Or.inl rfl | exact Or.inr rfl) (de_stl (de_bm PySem.F.plainAttrs_str PySem.F.slot_str_join PySem.F.type_str_join mt_join rc_str ms_join de_str (da_cons (de_lc (own := [("_law_k", 3)]) rfl sc_law_text.nd (di_range1 (by rfl) T.n_range (da_cons (de_call (ok_law_next T) hr (by decide) (by rfl) tk (fun _ _ => .nil) (da_cons (de_cell (dv 0)) (da_cons de_int da_nil))) da_nil)) (blkOk_by (N := ["_law_state_here", "_law_signs", "_law_text_here", "_law_k"]) (sc := defScope s_law_text) (by decide +kernel)) (by decide) (fun _ _ _ _ _ => (dg_name (i := 3) sc_law_text.nd rfl (by first | exact Or.inl rfl | exact Or.inr rfl))) (fun _ _ _ _ _ => dts_nil) (fun _ _ _ _ _ => (de_ix ix_seq os_ix (dv 1) (de_call (ok_law_next T) hr (by decide) (by rfl) tk0 (fun _ _ => .nil) (da_cons (de_cell (dv 0)) (da_cons (de_stl (de_callB call_len cs_len (by rfl) T.n_len bb_len (da_cons (dv 1) da_nil))) da_nil))) (fun _ _ => rfl)))) da_nil))))
    (dss_one (ds_ret (de_ix ix_seq os_ix (de_lst (da_cons (de_frz (dv 2)) (da_cons (de_frz (dv 2)) (da_cons (de_frz (dv 2)) (da_cons (de_frz (de_op opA_add os_add de_str (de_slice slA os_sl (dv 2) do_none (do_some de_int)))) (da_cons (de_frz (de_slice slA os_sl (dv 2) do_none (do_some de_int))) da_nil)))))) (de_call (ok_law_next T) hr (by decide) (by rfl) tk (fun _ _ => .nil) (da_cons (de_cell (dv 0)) (da_cons de_int da_nil))) (fun _ _ => rfl))))))) ?_
  rintro es μ q x - ⟨n, rfl, hs, h⟩
  refine q_set ?_
  walk_at "dx"
  refine ⟨n, 4, rfl, hs, by decide, by decide, fun r μ1 h0 h1 st => ?_⟩
  walk_at "dx"
  simp only [at_nn h0]
  obtain ⟨d, hd, hm⟩ := pick (xs := [PyData.str "abcxyz", .str "abcxyz0189", .str "abcxyz0189", .str "aZ0 .-_#"]) h0 (by simpa using h1)
  obtain ⟨z, rfl, hz⟩ : ∃ z : Str, d = .str z ∧ 1 ≤ z.length ∧ z.length ≤ 10 := by
    simp only [List.mem_cons, List.not_mem_nil, or_false] at hm
    rcases hm with rfl | rfl | rfl | rfl
    all_goals exact ⟨_, rfl, by decide, by decide⟩
  refine ⟨_, hd, ?_⟩
  refine q_set ?_
  walk_at "dx"
  refine ⟨n, 9, rfl, st.at hs, by decide, by decide, fun r2 μ2 h2 h3 st2 => ?_⟩
  have st12 := st.trans st2
  refine ⟨by omega, ?_⟩
  unfold rngItems
  refine lc_inv (fun i acc μ' => Stp μ n μ' ∧ ∃ ys : List Str, acc = ys.map .str ∧ ys.length = i ∧ ∀ y ∈ ys, y.length = 1) (by simp; omega) ⟨st12, [], rfl, rfl, by simp⟩ ?_ ?_ ?_
  · rintro i acc μ' ⟨_, ys, rfl, rfl, _⟩
    exact ⟨trivial, by simp⟩
  · rintro i k acc μ' hk ⟨st3, ys, rfl, hl, h1s⟩
    walk_at "dx"
    refine ⟨by omega, ?_⟩
    refine ⟨n, z.length, rfl, st3.at hs, by omega, by omega, fun r4 μ4 h4 h5 st4 => ?_⟩
    refine ⟨by omega, ?_⟩
    walk_at "dx"
    simp only [at_nn h4]
    obtain ⟨c, hc, _⟩ := pick (xs := z.cps.toList) h4 (by rw [Array.length_toList]; exact h5)
    refine ⟨c, hc, ?_⟩
    have e : μ4.take μ2.length = μ4 := by
      rw [st12.len, ← (st3.trans st4).len, List.take_length]
    rw [e]
    refine ⟨st3.trans st4, ys ++ [⟨#[c]⟩], by simp, by simp [hl], fun y hy => ?_⟩
    simp only [List.mem_append, List.mem_singleton] at hy
    rcases hy with hy | rfl
    · exact h1s y hy
    · rfl
  · rintro acc μ' ⟨st3, ys, rfl, hl, h1s⟩
    walk_at "dx"
    have hl9 : ys.length ≤ 9 := by simp at hl; omega
    have hj := len_join1 ys h1s
    refine ⟨by rw [sum1 ys h1s, len_empty, Nat.mul_zero]; omega, ?_⟩
    generalize Str.join "" ys = t at hj
    walk_at "st"
    have c1 : ∀ k, (cutS t none (some k)).length ≤ t.length := fun k => cutS_length t _ _
    refine ⟨by omega, by have := c1 5; show 1 + _ ≤ _; omega, by omega, ?_⟩
    refine ⟨n, 5, rfl, st3.at hs, by decide, by decide, fun r6 μ6 h6 h7 st6 => ?_⟩
    walk_at "dx"
    simp only [at_nn h6]
    obtain ⟨d, hd, hm⟩ := pick (xs := [PyData.str t, .str t, .str t, .str ("a" ++ cutS t none (some 5)), .str (cutS t none (some 2))]) h6 (by simpa using h7)
    have e : μ6.take μ.length = μ6 := (st3.trans st6).take
    refine ⟨_, hd, ?_⟩
    rw [e]
    have la : ((("a" : Str) ++ cutS t none (some 5)) : Str).length = 1 + (cutS t none (some 5)).length := len_add "a" _ 1 rfl
    have l5 : (cutS t none (some 5)).length ≤ 5 := cut_le t 5
    have l2 : (cutS t none (some 2)).length ≤ 2 := cut_le t 2
    obtain ⟨u, rfl, hu⟩ : ∃ u : Str, d = .str u ∧ u.length ≤ 9 := by
      simp only [List.mem_cons, List.not_mem_nil, or_false] at hm
      rcases hm with hm | hm | hm | hm | hm
      all_goals exact ⟨_, hm, by omega⟩
    exact h u _ (st3.trans st6) hu
def signs : Str := "abcdefghijklmnopqrstuvwxyz0123456789"
theorem sg_mem (c : Nat) : (c ∈ signs.cps.toList) ↔ (c ∈ letters.cps.toList ∨ c ∈ figures.cps.toList) := by
  have : signs.cps.toList = letters.cps.toList ++ figures.cps.toList := by decide
  rw [this, List.mem_append]
theorem sg_apart : ∀ c ∈ figures.cps.toList, ¬ c ∈ letters.cps.toList := by decide
theorem name_2 {z : Str} (h : 1 ≤ z.length ∧ z.length ≤ 6) {c : Nat} {r : List Nat} (hc : z.cps.toList = c :: r) : nameZ z = (decide ((z.cps.toList.filter fun c => decide (c ∈ signs.cps.toList)).length = z.length) && !decide (c ∈ figures.cps.toList)) := by
  have hl : z.cps.toList.length = z.length := Array.length_toList
  rw [Bool.eq_iff_iff]
  unfold nameZ
  simp only [h.1, h.2, decide_true, Bool.true_and, Bool.and_eq_true, decide_eq_true_eq, Bool.not_eq_true', decide_eq_false_iff_not, ← hl, List.length_filter_eq_length_iff, sg_mem, List.all_eq_true, Bool.or_eq_true]
  rw [hc]
  simp only [decide_eq_true_eq]
  constructor
  · rintro ⟨⟨_, h1⟩, h2⟩
    exact ⟨h2, fun h3 => sg_apart _ h3 h1⟩
  · rintro ⟨h1, h2⟩
    exact ⟨⟨by rw [← hc, hl]; exact h, (h1 c (by simp)).resolve_right h2⟩, h1⟩
def sp_law_is_name := sp_is_name
theorem ok_law_is_name (T : Top K mg) : DefAt P w K mg base "_law_is_name" 1 ["_law_thing"] [] [] sp_law_is_name := by
  refine def_ok sp_law_is_name T.F_law_is_name sc_law_is_name T.m_law_is_name T.b_law_is_name (fun cdv A outer s H E hr tk pw => (dss_cons (ds_if (dw_or (dt_not (dt_val (de_callB call_isi cs_isi (by rfl) T.n_isinstance bb_isinstance (da_cons (dv 0) (da_cons (de_ty T.n_str bt_str) da_nil))))) (dw_or (dt_cmp (opA_eq hr.units) os_eq (de_callB call_len cs_len (by rfl) T.n_len bb_len (da_cons (dv 0) da_nil)) de_int (nomark _)) (dw_or1 (dt_cmp op_gt os_gt (de_callB call_len cs_len (by rfl) T.n_len bb_len (da_cons (dv 0) da_nil)) de_int (nomark _))))).dt (dss_one (ds_ret de_bl)) dss_nil)
    (dss_cons (ds_setLc (i := 1) (k := dFrz) (own := [("_law_sign", 2)]) rfl sc_law_is_name.nd rfl rfl (sw_true rfl rfl rfl (by decide +kernel)) (.inl rfl) (di_seq (dv 0)) (blkOk_by (N := ["_law_thing", "_law_good", "_law_sign"]) (sc := defScope s_law_is_name) (by decide +kernel)) (by decide) (fun _ _ _ _ _ => (dg_name (i := 2) sc_law_is_name.nd rfl (by first | exact Or.inl rfl | exact Or.inr rfl))) (fun _ _ _ _ _ => (dts_one (dt_cmp op_in_sign os_inSign (dv 2) de_str (by rfl)))) (fun _ _ _ _ _ => (dv 2)))
    (dss_one (ds_ret (de_and (de_cmp (opA_eq hr.units) os_eq (de_callB call_len cs_len (by rfl) T.n_len bb_len (da_cons (dv 1) da_nil)) (de_callB call_len cs_len (by rfl) T.n_len bb_len (da_cons (dv 0) da_nil)) (nomark _)) (de_one (de_cmp op_notIn_sign os_notInSign (de_ix ix_seq os_ix (dv 0) de_int (fun _ _ => rfl)) de_str (by rfl))))))))) ?_
  rintro es μ q x - ⟨d, rfl, hz, h⟩
  refine q_whenB (!(match d with | .str z => decide (1 ≤ z.length) && decide (z.length ≤ 6) | _ => false)) (fun K hK => ?_) (fun hb => ?_) (fun hb => ?_)
  · walk_at "dx"
    cases d with
    | str z =>
      have := hz z rfl
      have h9 : z.length ≤ 100000 := by omega
      simp only [isStrD]
      walk_at "dx"
      refine ⟨by omega, ?_⟩
      by_cases h1 : 1 ≤ z.length
      · have h1' : ¬ (z.length : Int) = 0 := by omega
        by_cases h2 : z.length ≤ 6
        · have h2' : ¬ (6 : Int) < z.length := by omega
          have h3 : ¬ z.length = 0 := by omega
          simpa [h1, h2, h1', h2', h3, h9] using hK
        · have h2' : (6 : Int) < z.length := by omega
          have h3 : ¬ z.length = 0 := by omega
          simpa [h1, h2, h1', h2', h3, h9] using hK
      · have h1' : (z.length : Int) = 0 := by omega
        simpa [h1, h1'] using hK
    | _ => exact hK
  · walk_at "st"
    cases d with
    | str z =>
      have : nameZ z = false := by
        unfold nameZ
        simp only [Bool.not_eq_true'] at hb
        rw [hb]
        simp
      simp only [isName, this] at h
      exact h
    | _ => exact h
  · cases d with
    | str z =>
      simp only [Bool.not_eq_false', Bool.and_eq_true, decide_eq_true_eq] at hb
      have hz := hz z rfl
      obtain ⟨c, r, hc, h0⟩ := at0 hb.1
      have hl : z.cps.toList.length = z.length := Array.length_toList
      walk_at "st"
      refine lc_filter (fun c => decide (c ∈ signs.cps.toList)) (fun c => .str ⟨#[c]⟩) (by omega) trivial (fun a K K' _ hK hK' => ?_) ?_
      · walk_at "dx"
        refine ⟨a, rfl, ?_⟩
        by_cases h1 : a ∈ signs.cps.toList
        · rw [if_pos (by simpa [signs] using h1)]
          exact hK (by simpa using h1)
        · rw [if_neg (by simpa [signs] using h1)]
          exact hK' (by simpa using h1)
      · walk_at "dx"
        walk_at "st"
        refine ⟨by omega, ?_⟩
        have e := name_2 hb hc
        simp only [isName, e] at h
        by_cases h1 : (z.cps.toList.filter fun c => decide (c ∈ signs.cps.toList)).length = z.length
        · have h2 : (((z.cps.toList.filter fun c => decide (c ∈ signs.cps.toList)).length : Nat) : Int) = z.length := by omega
          simp only [h1, decide_true, Bool.true_and] at h
          rw [if_pos h2]
          exact ⟨by omega, c, by rw [hc]; rfl, c, rfl, h⟩
        · have h2 : ¬ (((z.cps.toList.filter fun c => decide (c ∈ signs.cps.toList)).length : Nat) : Int) = z.length := by omega
          simp only [h1, decide_false, Bool.false_and] at h
          rw [if_neg h2]
          exact h
    | _ => cases hb
def sp_law_same : SpD := fun es μ q _ => ∃ a b : Bool, es = [.dat (.bool a), .dat (.bool b)] ∧ q (.dat (.bool (a == b))) μ
theorem ok_law_same (T : Top K mg) : DefAt P w K mg base "_law_same" 1 ["_law_found", "_law_due"] [] [] sp_law_same := by
  refine def_ok sp_law_same T.F_law_same sc_law_same T.m_law_same T.b_law_same (fun cdv A outer s H E hr tk pw => (dss_one (ds_ret (de_and (de_callB call_isi cs_isi (by rfl) T.n_isinstance bb_isinstance (da_cons (dv 0) (da_cons (de_ty T.n_bool bt_bool) da_nil))) (de_one (de_cmp (opA_eq hr.units) os_eq (dv 0) (dv 1) (nomark _))))))) ?_
  rintro es μ q x - ⟨a, b, rfl, h⟩
  walk_at "st"
  simp only [isBoolD]
  walk_at "dx"
  exact h
theorem pick_int {xs : List PyData} {r : Int} (h0 : 0 ≤ r) (h1 : r < xs.length) (h : ∀ d ∈ xs, ∃ m : Int, d = .int m) : ∃ d, xs[r.toNat]? = some d ∧ ∃ m : Int, d = .int m :=
  let ⟨d, e, hm⟩ := pick h0 h1
  ⟨d, e, h d hm⟩
def sp_law_right : SpD := fun es μ q _ => ∃ (n : Nat) (c : Int), es = [.loc n, .dat (.int c)] ∧ StAt μ n ∧ ∀ μ', Stp μ n μ' → q (.dat (.bool true)) μ'
theorem ok_law_right (T : Top K mg) : DefAt P w K mg base "_law_right" 3 ["_law_state_here", "_law_cell"] [] [] sp_law_right := by
  refine def_ok sp_law_right T.F_law_right sc_law_right T.m_law_right T.b_law_right (fun cdv A outer s H E hr tk pw => (dss_cons (ds_set (i := 2) sc_law_right.nd rfl (by first | exact Or.inl rfl | exact Or.inr rfl) (de_stl (de_ix ix_seq os_ix (de_lst (da_cons de_non (da_cons de_bl (da_cons de_int (da_cons (de_frz (de_lst (da_cons de_str da_nil))) (da_cons (de_frz (de_tup (da_cons de_str da_nil))) (da_cons de_str (da_cons (de_frz (de_lst da_nil)) (da_cons (de_frz (de_tup da_nil)) da_nil))))))))) (de_call (ok_law_next T) hr (by decide) (by rfl) tk (fun _ _ => .nil) (da_cons (de_cell (dv 0)) (da_cons de_int da_nil))) (fun _ _ => rfl))))
    (dss_cons (ds_for pw rfl (di_seq (de_tup (da_cons (de_frz (de_call (ok_law_text T) hr (by decide) (by rfl) tk (fun _ _ => .nil) (da_cons (de_cell (dv 0)) da_nil))) (da_cons (de_frz (dv 2)) da_nil)))) (dg_name (i := 3) sc_law_right.nd rfl (by first | exact Or.inl rfl | exact Or.inr rfl)) (dss_one (ds_if (dt_not (dt_val (de_call (ok_law_same T) hr (by decide) (by rfl) tk (fun _ _ => .nil) (da_cons (de_stl (de_call (ok_is_name T) hr (by decide) (by rfl) tk (fun _ _ => .nil) (da_cons (de_stl (dv 3)) da_nil))) (da_cons (de_stl (de_call (ok_law_is_name T) hr (by decide) (by rfl) tk (fun _ _ => .nil) (da_cons (de_stl (dv 3)) da_nil))) da_nil))))) (dss_one (ds_ret de_bl)) dss_nil)))
    (dss_cons (ds_set (i := 4) sc_law_right.nd rfl (by first | exact Or.inl rfl | exact Or.inr rfl) (de_stl (de_ix ix_seq os_ix (de_lst (da_cons (de_frz (de_op op_sub os_sub (de_call (ok_law_next T) hr (by decide) (by rfl) tk (fun _ _ => .nil) (da_cons (de_cell (dv 0)) (da_cons de_int da_nil))) de_int)) (da_cons (de_frz (de_op op_sub os_sub (de_op op_mod os_mod (dv 1) (de_op op_pow os_pow de_int de_int)) (de_op op_pow os_pow de_int de_int))) da_nil))) (de_call (ok_law_next T) hr (by decide) (by rfl) tk (fun _ _ => .nil) (da_cons (de_cell (dv 0)) (da_cons de_int da_nil))) (fun _ _ => rfl))))
    (dss_cons (ds_set (i := 5) sc_law_right.nd rfl (by first | exact Or.inl rfl | exact Or.inr rfl) (de_stl (de_ix ix_seq os_ix (de_lst (da_cons (de_frz (de_op op_sub os_sub (de_call (ok_law_next T) hr (by decide) (by rfl) tk (fun _ _ => .nil) (da_cons (de_cell (dv 0)) (da_cons de_int da_nil))) de_int)) (da_cons (de_frz (dv 4)) (da_cons (de_frz (de_op opA_add os_add (dv 4) de_int)) (da_cons (de_frz (de_op op_sub os_sub (dv 4) de_int)) da_nil))))) (de_call (ok_law_next T) hr (by decide) (by rfl) tk (fun _ _ => .nil) (da_cons (de_cell (dv 0)) (da_cons de_int da_nil))) (fun _ _ => rfl))))
    (dss_cons (ds_set (i := 6) sc_law_right.nd rfl (by first | exact Or.inl rfl | exact Or.inr rfl) (de_stl (de_ix ix_seq os_ix (de_lst (da_cons (de_frz (de_call (ok_law_next T) hr (by decide) (by rfl) tk (fun _ _ => .nil) (da_cons (de_cell (dv 0)) (da_cons de_int da_nil)))) (da_cons (de_frz (dv 4)) (da_cons (de_frz (de_op opA_add os_add (dv 4) de_int)) (da_cons (de_frz (de_op op_sub os_sub (dv 4) de_int)) da_nil))))) (de_call (ok_law_next T) hr (by decide) (by rfl) tk (fun _ _ => .nil) (da_cons (de_cell (dv 0)) (da_cons de_int da_nil))) (fun _ _ => rfl))))
    (dss_cons (ds_if (dt_not (dt_val (de_call (ok_law_same T) hr (by decide) (by rfl) tk (fun _ _ => .nil) (da_cons (de_stl (de_call (ok_is_number T) hr (by decide) (by rfl) tk (fun _ _ => .nil) (da_cons (de_stl (dv 4)) (da_cons (de_stl (dv 5)) (da_cons (de_stl (dv 6)) da_nil))))) (da_cons (de_stl (de_and (de_cmp op_le os_le (dv 5) (dv 4) (nomark _)) (de_one (de_cmp op_le os_le (dv 4) (dv 6) (nomark _))))) da_nil))))) (dss_one (ds_ret de_bl)) dss_nil)
    (dss_cons (ds_for pw rfl (di_seq (de_tup (da_cons de_bl (da_cons de_bl (da_cons de_non (da_cons de_str (da_cons (de_frz (de_lst (da_cons de_int da_nil))) (da_cons (de_frz (de_tup (da_cons de_int da_nil))) da_nil)))))))) (dg_name (i := 3) sc_law_right.nd rfl (by first | exact Or.inl rfl | exact Or.inr rfl)) (dss_one (ds_if (dt_not (dt_val (de_call (ok_law_same T) hr (by decide) (by rfl) tk (fun _ _ => .nil) (da_cons (de_stl (de_call (ok_is_number T) hr (by decide) (by rfl) tk (fun _ _ => .nil) (da_cons (de_stl (dv 3)) (da_cons (de_stl (de_un un_neg us_neg de_int)) (da_cons de_int da_nil))))) (da_cons de_bl da_nil))))) (dss_one (ds_ret de_bl)) dss_nil)))
    (dss_one (ds_ret de_bl)))))))))) ?_
  rintro es μ q x - ⟨n, c, rfl, hs, h⟩
  have lt := hs.lt
  refine q_set ?_
  walk_at "dx"
  refine ⟨n, 8, rfl, hs, by decide, by decide, fun r μ1 h0 h1 st => ?_⟩
  walk_at "dx"
  simp only [at_nn h0]
  obtain ⟨odd, hd, hm⟩ := pick (xs := [PyData.none, .bool true, .int 7, .list [.str "a"], .tuple [.str "a"], .str "", .list [], .tuple []]) h0 (by simpa using h1)
  refine ⟨_, hd, ?_⟩
  have hodd : ∀ z, odd = .str z → z.length ≤ 1000 := by
    rintro z rfl
    simp at hm
    rw [hm]
    decide
  refine q_for ?_
  walk_at "dx"
  refine ⟨n, rfl, st.at hs, fun z μ2 st2 hz => ?_⟩
  walk_at "dx"
  have st12 := st.trans st2
  have lt2 : n < μ2.length := (st12.at hs).lt
  refine for_inv (as := [PyData.str z, odd]) (h := EV.dat) (fun i η μ' => μ' = μ2 ∧ ∃ o : Option PyData, η = [some (.loc n), some (.dat (.int c)), some (.dat odd), o.map .dat, none, none, none]) ⟨rfl, none, rfl⟩ (fun _ _ _ _ => trivial) ?_ ?_
  · rintro i d η μ' hi ⟨rfl, o, rfl⟩
    have hd : ∀ z, d = .str z → z.length ≤ 1000 := by
      rcases i with _ | _ | i
      · cases hi
        rintro z' e
        cases e
        omega
      · cases hi
        exact hodd
      · cases hi
    walk_at "dx"
    refine s_when ?_
    walk_at "dx"
    refine ⟨d, rfl, hd, ?_⟩
    walk_at "dx"
    refine ⟨d, rfl, hd, ?_⟩
    walk_at "dx"
    refine ⟨_, _, rfl, ?_⟩
    simp only [beq_self_eq_true]
    walk_at "dx"
    simp only [cl_loc lt2]
    walk_at "dx"
    exact ⟨some d, rfl⟩
  · rintro η μ' ⟨rfl, o, rfl⟩
    dsimp only
    refine q_set ?_
    walk_at "dx"
    refine ⟨n, 12, rfl, st12.at hs, by decide, by decide, fun r3 μ3 h3 h3' st3 => ?_⟩
    have st13 := st12.trans st3
    walk_at "dx"
    refine ⟨by unfold CPow; decide, by decide, by unfold CPow; decide, ?_⟩
    refine ⟨n, 2, rfl, st13.at hs, by decide, by decide, fun r4 μ4 h4 h4' st4 => ?_⟩
    have st14 := st13.trans st4
    walk_at "dx"
    simp only [at_nn h4]
    obtain ⟨_, hp, m, rfl⟩ := pick_int (xs := [PyData.int (r3 - 2), .int (c % 10 ^ 60 - 10 ^ 59)]) h4 (by simpa using h4') (by simp)
    refine ⟨_, hp, ?_⟩
    refine q_set ?_
    walk_at "dx"
    refine ⟨n, 6, rfl, st14.at hs, by decide, by decide, fun r5 μ5 h5 h5' st5 => ?_⟩
    have st15 := st14.trans st5
    walk_at "dx"
    refine ⟨n, 4, rfl, st15.at hs, by decide, by decide, fun r6 μ6 h6 h6' st6 => ?_⟩
    have st16 := st15.trans st6
    walk_at "dx"
    simp only [at_nn h6]
    obtain ⟨_, hp, lo, rfl⟩ := pick_int (xs := [PyData.int (r5 - 2), .int m, .int (m + 1), .int (m - 1)]) h6 (by simpa using h6') (by simp)
    refine ⟨_, hp, ?_⟩
    refine q_set ?_
    walk_at "dx"
    refine ⟨n, 12, rfl, st16.at hs, by decide, by decide, fun r7 μ7 h7 h7' st7 => ?_⟩
    have st17 := st16.trans st7
    walk_at "dx"
    refine ⟨n, 4, rfl, st17.at hs, by decide, by decide, fun r8 μ8 h8 h8' st8 => ?_⟩
    have st18 := st17.trans st8
    have lt8 : n < μ8.length := (st18.at hs).lt
    walk_at "dx"
    simp only [at_nn h8]
    obtain ⟨_, hp, hi, rfl⟩ := pick_int (xs := [PyData.int r7, .int m, .int (m + 1), .int (m - 1)]) h8 (by simpa using h8') (by simp)
    refine ⟨_, hp, ?_⟩
    refine q_whenB false (fun K hK => ?_) (fun hb => by cases hb) (fun _ => ?_)
    · walk_at "dx"
      refine ⟨.int m, lo, hi, rfl, ?_⟩
      simp only [isNum]
      walk_at "dx"
      by_cases e1 : lo ≤ m
      · by_cases e2 : m ≤ hi
        · simp only [e1, e2, decide_true, if_true, Bool.true_and]
          exact ⟨_, _, rfl, by simpa [wB_b] using hK⟩
        · simp only [e1, e2, decide_true, if_true, Bool.true_and, decide_false]
          exact ⟨_, _, rfl, by simpa [wB_b] using hK⟩
      · simp only [e1, if_false, Bool.false_and, decide_false]
        exact ⟨_, _, rfl, by simpa [wB_b] using hK⟩
    · refine q_for ?_
      walk_at "dx"
      refine for_inv (as := [PyData.bool true, .bool false, .none, .str "1", .list [.int 1], .tuple [.int 1]]) (h := EV.dat) (fun i η μ' => μ' = μ8 ∧ ∃ o : Option PyData, η = [some (.loc n), some (.dat (.int c)), some (.dat odd), o.map .dat, some (.dat (.int m)), some (.dat (.int lo)), some (.dat (.int hi))]) ⟨rfl, o, rfl⟩ (fun _ _ _ _ => trivial) ?_ ?_
      · rintro i d η μ' hi ⟨rfl, o, rfl⟩
        have hd : isNum d (-1) 2 = false := by
          have := List.mem_of_getElem? hi
          simp only [List.mem_cons, List.not_mem_nil, or_false] at this
          rcases this with rfl | rfl | rfl | rfl | rfl | rfl <;> rfl
        walk_at "dx"
        refine s_when ?_
        walk_at "dx"
        refine ⟨d, -1, 2, rfl, ?_⟩
        walk_at "dx"
        refine ⟨_, _, rfl, ?_⟩
        simp only [hd, beq_self_eq_true]
        walk_at "dx"
        simp only [cl_loc lt8]
        walk_at "dx"
        exact ⟨some d, rfl⟩
      · rintro η μ' ⟨rfl, o, rfl⟩
        dsimp only
        walk_at "st"
        rw [st18.take]
        exact h _ st18
theorem turns (n : Nat) : (0 : Int) ≤ (if (if (60 : Int) < (n : Int) then (60 : Int) else n) > 1 then (if (60 : Int) < n then (60 : Int) else n) else 1) ∧ (if (if (60 : Int) < (n : Int) then (60 : Int) else n) > 1 then (if (60 : Int) < n then (60 : Int) else n) else 1) ≤ 60 := by
  split <;> split <;> omega
def sp_law := spLawD
theorem ok_law (T : Top K mg) : FnOk P w K mg base (L2.CX P w) 4 T.a_law T.fd_law ["_law_script"] (spOf K 1 spLawD) := by
  refine fd_of T.F_law sc_law (fun cdv A outer s H E hr => ((fun tk pw => (dss_cons (ds_for pw rfl (di_range1 (by rfl) T.n_range (da_cons (de_callB (call_max2 rfl) cs_max2 (by rfl) T.n_max bb_max (da_cons de_int (da_cons (de_callB (call_min2 rfl) cs_min2 (by rfl) T.n_min bb_min (da_cons (de_callB call_len cs_len (by rfl) T.n_len bb_len (da_cons (dv 0) da_nil)) (da_cons de_int da_nil))) da_nil))) da_nil)) (dg_name (i := 1) sc_law.nd rfl (by first | exact Or.inl rfl | exact Or.inr rfl)) (dss_cons (ds_set (i := 2) sc_law.nd rfl (by first | exact Or.inl rfl | exact Or.inr rfl) (de_stl (de_call (ok_law_cell_at T) hr (by decide) (by rfl) tk (fun _ _ => .nil) (da_cons (de_stl (dv 0)) (da_cons (de_stl (dv 1)) da_nil)))))
    (dss_one (ds_if (dt_not (dt_val (de_call (ok_law_right T) hr (by decide) (by rfl) tk (fun _ _ => .nil) (da_cons (de_cell (de_call (ok_law_state T) hr (by decide) (by rfl) tk (fun _ _ => .nil) (da_cons (de_stl (dv 2)) (da_cons (de_stl (dv 1)) da_nil)))) (da_cons (de_stl (dv 2)) da_nil))))) (dss_one (ds_ret de_bl)) dss_nil))))
    (dss_one (ds_ret de_bl)))) : Takes _ _ → PassesOwn _ _ _ _ → _) (takes_of rfl rfl rfl rfl) (passes_of rfl)) ?_
  rintro es μ q x - ⟨ns, rfl, hl, rfl, h⟩
  refine q_for ?_
  walk_at "dx"
  obtain ⟨b0, b1⟩ := turns ns.length
  generalize (if (if (60 : Int) < (ns.length : Int) then (60 : Int) else ns.length) > 1 then (if (60 : Int) < ns.length then (60 : Int) else ns.length) else 1) = b at b0 b1 ⊢
  refine ⟨⟨by omega, by omega⟩, ?_⟩
  unfold rngItems
  refine for_inv (fun i η μ' => μ' = [] ∧ ∃ o1 o2 : Option PyData, η = [some (.ro (ns.map .int)), o1.map .dat, o2.map .dat]) ⟨rfl, none, none, rfl⟩ (fun _ _ _ _ => trivial) ?_ ?_
  · rintro i k η μ' hi ⟨rfl, o1, o2, rfl⟩
    have hk : k < b.toNat := by
      obtain ⟨h1, h2⟩ := List.getElem?_eq_some_iff.mp hi
      simp at h1 h2
      omega
    walk_at "dx"
    refine q_set ?_
    walk_at "dx"
    refine ⟨ns, _, rfl, by omega, by omega, hl, fun c => ?_⟩
    walk_at "dx"
    refine s_when ?_
    walk_at "dx"
    refine ⟨c, _, rfl, by omega, by omega, fun u v hu hv => ?_⟩
    walk_at "dx"
    refine ⟨0, c, rfl, ⟨u, v, rfl, hu, hv⟩, fun μ' st => ?_⟩
    walk_at "dx"
    exact ⟨List.take_zero, some _, some _, rfl⟩
  · rintro η μ' ⟨rfl, o1, o2, rfl⟩
    dsimp only
    walk_at "st"
    exact h _
end
theorem all_mk {K : PySem.W.Frag} {h : Heap} {mg : Str → Option Value} {fa : Addr} (X : K.In h) (G : h.Ns mainGlobals mg) (hfa : mg "law" = some (.ref fa)) {f_0 f_1 f_2 f_3 f_4 f_5 f_6 f_7 f_8 f_9 : Addr}
    {od0 an0 : Option Addr} {sl0 : Array (Option Value)} {oc0 kV0 dc0 pm0 cd0 ct0 : Value}
    (n0 : PySem.W.nsIn K mainGlobals "is_name" = some (some (.ref f_0))) (l0 : K.lookup f_0 = some ⟨oc0, od0, .func (PySem.W.fnOf "is_name" "is_name" (defArgs s_is_name) (defBody s_is_name) (defScope s_is_name) .none kV0 dc0 pm0 an0 cd0 ct0), sl0⟩) (c0 : PySem.W.codeIn K cd0 "is_name" = true) (k0 : PySem.W.keepIn K (.ref f_0) = true)
    {od1 an1 : Option Addr} {sl1 : Array (Option Value)} {oc1 kV1 dc1 pm1 cd1 ct1 : Value}
    (n1 : PySem.W.nsIn K mainGlobals "is_number" = some (some (.ref f_1))) (l1 : K.lookup f_1 = some ⟨oc1, od1, .func (PySem.W.fnOf "is_number" "is_number" (defArgs s_is_number) (defBody s_is_number) (defScope s_is_number) .none kV1 dc1 pm1 an1 cd1 ct1), sl1⟩) (c1 : PySem.W.codeIn K cd1 "is_number" = true) (k1 : PySem.W.keepIn K (.ref f_1) = true)
    {od2 an2 : Option Addr} {sl2 : Array (Option Value)} {oc2 kV2 dc2 pm2 cd2 ct2 : Value}
    (n2 : PySem.W.nsIn K mainGlobals "_law_cell_at" = some (some (.ref f_2))) (l2 : K.lookup f_2 = some ⟨oc2, od2, .func (PySem.W.fnOf "_law_cell_at" "_law_cell_at" (defArgs s_law_cell_at) (defBody s_law_cell_at) (defScope s_law_cell_at) .none kV2 dc2 pm2 an2 cd2 ct2), sl2⟩) (c2 : PySem.W.codeIn K cd2 "_law_cell_at" = true) (k2 : PySem.W.keepIn K (.ref f_2) = true)
    {od3 an3 : Option Addr} {sl3 : Array (Option Value)} {oc3 kV3 dc3 pm3 cd3 ct3 : Value}
    (n3 : PySem.W.nsIn K mainGlobals "_law_state" = some (some (.ref f_3))) (l3 : K.lookup f_3 = some ⟨oc3, od3, .func (PySem.W.fnOf "_law_state" "_law_state" (defArgs s_law_state) (defBody s_law_state) (defScope s_law_state) .none kV3 dc3 pm3 an3 cd3 ct3), sl3⟩) (c3 : PySem.W.codeIn K cd3 "_law_state" = true) (k3 : PySem.W.keepIn K (.ref f_3) = true)
    {od4 an4 : Option Addr} {sl4 : Array (Option Value)} {oc4 kV4 dc4 pm4 cd4 ct4 : Value}
    (n4 : PySem.W.nsIn K mainGlobals "_law_next" = some (some (.ref f_4))) (l4 : K.lookup f_4 = some ⟨oc4, od4, .func (PySem.W.fnOf "_law_next" "_law_next" (defArgs s_law_next) (defBody s_law_next) (defScope s_law_next) .none kV4 dc4 pm4 an4 cd4 ct4), sl4⟩) (c4 : PySem.W.codeIn K cd4 "_law_next" = true) (k4 : PySem.W.keepIn K (.ref f_4) = true)
    {od5 an5 : Option Addr} {sl5 : Array (Option Value)} {oc5 kV5 dc5 pm5 cd5 ct5 : Value}
    (n5 : PySem.W.nsIn K mainGlobals "_law_text" = some (some (.ref f_5))) (l5 : K.lookup f_5 = some ⟨oc5, od5, .func (PySem.W.fnOf "_law_text" "_law_text" (defArgs s_law_text) (defBody s_law_text) (defScope s_law_text) .none kV5 dc5 pm5 an5 cd5 ct5), sl5⟩) (c5 : PySem.W.codeIn K cd5 "_law_text" = true) (k5 : PySem.W.keepIn K (.ref f_5) = true)
    {od6 an6 : Option Addr} {sl6 : Array (Option Value)} {oc6 kV6 dc6 pm6 cd6 ct6 : Value}
    (n6 : PySem.W.nsIn K mainGlobals "_law_is_name" = some (some (.ref f_6))) (l6 : K.lookup f_6 = some ⟨oc6, od6, .func (PySem.W.fnOf "_law_is_name" "_law_is_name" (defArgs s_law_is_name) (defBody s_law_is_name) (defScope s_law_is_name) .none kV6 dc6 pm6 an6 cd6 ct6), sl6⟩) (c6 : PySem.W.codeIn K cd6 "_law_is_name" = true) (k6 : PySem.W.keepIn K (.ref f_6) = true)
    {od7 an7 : Option Addr} {sl7 : Array (Option Value)} {oc7 kV7 dc7 pm7 cd7 ct7 : Value}
    (n7 : PySem.W.nsIn K mainGlobals "_law_same" = some (some (.ref f_7))) (l7 : K.lookup f_7 = some ⟨oc7, od7, .func (PySem.W.fnOf "_law_same" "_law_same" (defArgs s_law_same) (defBody s_law_same) (defScope s_law_same) .none kV7 dc7 pm7 an7 cd7 ct7), sl7⟩) (c7 : PySem.W.codeIn K cd7 "_law_same" = true) (k7 : PySem.W.keepIn K (.ref f_7) = true)
    {od8 an8 : Option Addr} {sl8 : Array (Option Value)} {oc8 kV8 dc8 pm8 cd8 ct8 : Value}
    (n8 : PySem.W.nsIn K mainGlobals "_law_right" = some (some (.ref f_8))) (l8 : K.lookup f_8 = some ⟨oc8, od8, .func (PySem.W.fnOf "_law_right" "_law_right" (defArgs s_law_right) (defBody s_law_right) (defScope s_law_right) .none kV8 dc8 pm8 an8 cd8 ct8), sl8⟩) (c8 : PySem.W.codeIn K cd8 "_law_right" = true) (k8 : PySem.W.keepIn K (.ref f_8) = true)
    {od9 an9 : Option Addr} {sl9 : Array (Option Value)} {oc9 kV9 dc9 pm9 cd9 ct9 : Value}
    (n9 : PySem.W.nsIn K mainGlobals "law" = some (some (.ref f_9))) (l9 : K.lookup f_9 = some ⟨oc9, od9, .func (PySem.W.fnOf "law" "law" (defArgs s_law) (defBody s_law) (defScope s_law) .none kV9 dc9 pm9 an9 cd9 ct9), sl9⟩) (c9 : PySem.W.codeIn K cd9 "law" = true) (k9 : PySem.W.keepIn K (.ref f_9) = true)
    (z_all : PySem.W.nsIn K mainGlobals "all" = some none)
    (z_bool : PySem.W.nsIn K mainGlobals "bool" = some none)
    (z_int : PySem.W.nsIn K mainGlobals "int" = some none)
    (z_isinstance : PySem.W.nsIn K mainGlobals "isinstance" = some none)
    (z_len : PySem.W.nsIn K mainGlobals "len" = some none)
    (z_max : PySem.W.nsIn K mainGlobals "max" = some none)
    (z_min : PySem.W.nsIn K mainGlobals "min" = some none)
    (z_range : PySem.W.nsIn K mainGlobals "range" = some none)
    (z_str : PySem.W.nsIn K mainGlobals "str" = some none)
    {tk_FIGURES : Tok} (w_FIGURES : PySem.W.nsIn K mainGlobals "FIGURES" = some (some (.str "0123456789" tk_FIGURES)))
    {tk_LETTERS : Tok} (w_LETTERS : PySem.W.nsIn K mainGlobals "LETTERS" = some (some (.str "abcdefghijklmnopqrstuvwxyz" tk_LETTERS)))
    {tk_MOST_SIGNS : Tok} (w_MOST_SIGNS : PySem.W.nsIn K mainGlobals "MOST_SIGNS" = some (some (.int 6 tk_MOST_SIGNS)))
    : ∃ T : Top K mg, T.a_law = fa ∧ ∀ (s : Shared) (v : Value), BindsTo s T.fd_law ⟨[v], []⟩ [("_law_script", v)] := by
  have e := hfa.symm.trans (PySem.W.mg_of X G n9)
  cases e
  exact ⟨{ a_is_name := f_0, fd_is_name := _, F_is_name := fun_mk (st := s_is_name) l0 c0 k0, m_is_name := PySem.W.mg_of X G n0, b_is_name := ((fun_mk (st := s_is_name) l0 c0 k0).binds (ps := ["thing"]) fun _ _ _ _ _ _ us hl => match us, hl with | [_], _ => rfl), a_is_number := f_1, fd_is_number := _, F_is_number := fun_mk (st := s_is_number) l1 c1 k1, m_is_number := PySem.W.mg_of X G n1, b_is_number := ((fun_mk (st := s_is_number) l1 c1 k1).binds (ps := ["thing", "least", "most"]) fun _ _ _ _ _ _ us hl => match us, hl with | [_, _, _], _ => rfl), a_law_cell_at := f_2, fd_law_cell_at := _, F_law_cell_at := fun_mk (st := s_law_cell_at) l2 c2 k2, m_law_cell_at := PySem.W.mg_of X G n2, b_law_cell_at := ((fun_mk (st := s_law_cell_at) l2 c2 k2).binds (ps := ["_law_script", "_law_k"]) fun _ _ _ _ _ _ us hl => match us, hl with | [_, _], _ => rfl), a_law_state := f_3, fd_law_state := _, F_law_state := fun_mk (st := s_law_state) l3 c3 k3, m_law_state := PySem.W.mg_of X G n3, b_law_state := ((fun_mk (st := s_law_state) l3 c3 k3).binds (ps := ["_law_cell", "_law_k"]) fun _ _ _ _ _ _ us hl => match us, hl with | [_, _], _ => rfl), a_law_next := f_4, fd_law_next := _, F_law_next := fun_mk (st := s_law_next) l4 c4 k4, m_law_next := PySem.W.mg_of X G n4, b_law_next := ((fun_mk (st := s_law_next) l4 c4 k4).binds (ps := ["_law_state_here", "_law_size"]) fun _ _ _ _ _ _ us hl => match us, hl with | [_, _], _ => rfl), a_law_text := f_5, fd_law_text := _, F_law_text := fun_mk (st := s_law_text) l5 c5 k5, m_law_text := PySem.W.mg_of X G n5, b_law_text := ((fun_mk (st := s_law_text) l5 c5 k5).binds (ps := ["_law_state_here"]) fun _ _ _ _ _ _ us hl => match us, hl with | [_], _ => rfl), a_law_is_name := f_6, fd_law_is_name := _, F_law_is_name := fun_mk (st := s_law_is_name) l6 c6 k6, m_law_is_name := PySem.W.mg_of X G n6, b_law_is_name := ((fun_mk (st := s_law_is_name) l6 c6 k6).binds (ps := ["_law_thing"]) fun _ _ _ _ _ _ us hl => match us, hl with | [_], _ => rfl), a_law_same := f_7, fd_law_same := _, F_law_same := fun_mk (st := s_law_same) l7 c7 k7, m_law_same := PySem.W.mg_of X G n7, b_law_same := ((fun_mk (st := s_law_same) l7 c7 k7).binds (ps := ["_law_found", "_law_due"]) fun _ _ _ _ _ _ us hl => match us, hl with | [_, _], _ => rfl), a_law_right := f_8, fd_law_right := _, F_law_right := fun_mk (st := s_law_right) l8 c8 k8, m_law_right := PySem.W.mg_of X G n8, b_law_right := ((fun_mk (st := s_law_right) l8 c8 k8).binds (ps := ["_law_state_here", "_law_cell"]) fun _ _ _ _ _ _ us hl => match us, hl with | [_, _], _ => rfl), a_law := fa, fd_law := _, F_law := fun_mk (st := s_law) l9 c9 k9, m_law := PySem.W.mg_of X G n9, b_law := ((fun_mk (st := s_law) l9 c9 k9).binds (ps := ["_law_script"]) fun _ _ _ _ _ _ us hl => match us, hl with | [_], _ => rfl), n_all := PySem.W.mg_none_of X G z_all, n_bool := PySem.W.mg_none_of X G z_bool, n_int := PySem.W.mg_none_of X G z_int, n_isinstance := PySem.W.mg_none_of X G z_isinstance, n_len := PySem.W.mg_none_of X G z_len, n_max := PySem.W.mg_none_of X G z_max, n_min := PySem.W.mg_none_of X G z_min, n_range := PySem.W.mg_none_of X G z_range, n_str := PySem.W.mg_none_of X G z_str, g_FIGURES := ⟨_, PySem.W.mg_of X G w_FIGURES⟩, g_LETTERS := ⟨_, PySem.W.mg_of X G w_LETTERS⟩, g_MOST_SIGNS := ⟨_, PySem.W.mg_of X G w_MOST_SIGNS⟩ }, rfl, fun s v => .of_eq rfl⟩
theorem walk {l : PySem.W.OpenLaw} {q : Program} {loose : List Str} {XP : (Str → Option Value) → Heap → Prop} {YP : World → Heap → Prop} {d : DefRec} {K : Params → PySem.W.Frag} (hn : l.most = some 63) (hdf : d.params.defaults = [])
    (hY : ∀ (w : World) (h : Heap), YP w h → (K w.params).In h)
    (F : ∀ (w : World) (mg : Str → Option Value) (fa : Addr) (h : Heap), (K w.params).In h → h.Ns mainGlobals mg → mg d.name = some (.ref fa) →
      ∃ T : Top (K w.params) mg, T.a_law = fa ∧ ∀ (s : Shared) (u : Value), BindsTo s T.fd_law ⟨[u], []⟩ [("_law_script", u)]) :
    PySem.W.WalkO q loose XP YP l.row.toRowW d [] (fun f vs => PySem.call f vs) :=
  L2.walk_of (n := 63) (k := 4) (x := "_law_script") (CX := fun w => L2.CX l.prog w) (sp := fun w => spLaw (K w.params)) hn (by decide) hdf ⟨rfl, by decide, by decide⟩ hY
    (fun w mg fa h X G hm => by
      obtain ⟨T, rfl, hb⟩ := F w mg fa h X G hm
      exact ⟨T.fd_law, hb, fun base _ _ => (ok_law T).imp fun vs H Q E h => law_sp h⟩)
    (fun _ _ a ns hl _ hS => ⟨a, ns, rfl, hS, hl, fun _ => rfl⟩) fun _ _ _ _ _ z => cx_no z
end B
set_option maxRecDepth 100000 in
set_option maxHeartbeats 0 in
theorem PySem.Challenge.cw_boardlay_k01_names_and_numbers_holds : PySem.Challenge.rw_boardlay_k01_names_and_numbers.Holds := by
  w_on; o_law; k_head; (case hw => w_witness2)
  k_fill
  refine B.walk (l := PySem.Challenge.rw_boardlay_k01_names_and_numbers) rfl rfl (fun w h Y => PySem.W.kIn_of Y) ?F
  case F =>
    intro w mg fa h KX G hmg
    refine' B.all_mk KX G hmg ?n0 ?l0 ?c0 ?k0 ?n1 ?l1 ?c1 ?k1 ?n2 ?l2 ?c2 ?k2 ?n3 ?l3 ?c3 ?k3 ?n4 ?l4 ?c4 ?k4 ?n5 ?l5 ?c5 ?k5 ?n6 ?l6 ?c6 ?k6 ?n7 ?l7 ?c7 ?k7 ?n8 ?l8 ?c8 ?k8 ?n9 ?l9 ?c9 ?k9 ?z_all ?z_bool ?z_int ?z_isinstance ?z_len ?z_max ?z_min ?z_range ?z_str ?w_FIGURES ?w_LETTERS ?w_MOST_SIGNS
    (case n0 => k_is); (case l0 => k_is); (case c0 => k_is); (case k0 => k_is); (case n1 => k_is); (case l1 => k_is)
    (case c1 => k_is); (case k1 => k_is); (case n2 => k_is); (case l2 => k_is); (case c2 => k_is); (case k2 => k_is)
    (case n3 => k_is); (case l3 => k_is); (case c3 => k_is); (case k3 => k_is); (case n4 => k_is); (case l4 => k_is)
    (case c4 => k_is); (case k4 => k_is); (case n5 => k_is); (case l5 => k_is); (case c5 => k_is); (case k5 => k_is)
    (case n6 => k_is); (case l6 => k_is); (case c6 => k_is); (case k6 => k_is); (case n7 => k_is); (case l7 => k_is)
    (case c7 => k_is); (case k7 => k_is); (case n8 => k_is); (case l8 => k_is); (case c8 => k_is); (case k8 => k_is)
    (case n9 => k_is); (case l9 => k_is); (case c9 => k_is); (case k9 => k_is); (case z_all => k_is); (case z_bool => k_is)
    (case z_int => k_is); (case z_isinstance => k_is); (case z_len => k_is); (case z_max => k_is); (case z_min => k_is); (case z_range => k_is)
    (case z_str => k_is); (case w_FIGURES => k_is); (case w_LETTERS => k_is); (case w_MOST_SIGNS => k_is)
