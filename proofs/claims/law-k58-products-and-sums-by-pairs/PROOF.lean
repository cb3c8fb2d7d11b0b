import PyProof.Rows.All
import Wide.All
import OpenK.AllK
import Wide.FinOn
import HandS.ForMost
import HandS.HeadHook2
import HandS.Wide
import HandS.ExcCtx
import HandS.HotCalls
import HandS.ExcInit
import HandS.ExcField
import HandS.IsInst
import HandS.Gcd
import KE.KTupSum
import KE.KMathG
import HandS.ExcIs
import HandS.MakeKwOnly
import KE.GoesZip
import KE.GoesMore
import HandS.Zip
import HandS.Walk
import KE.GoesEnum
import HandS.Defaults
import HandS.Property
import HandS.CallSlots
import HandS.Head3
import HandS.HeadEnd
import HandS.Head0
import HandS.Head1
import HandS.Head2
import KE.KStateDown
import PySem.Challenge.RW_spreadgap_k58_products_and_sums_by_pairs
set_option Elab.async false
set_option linter.all false
set_option maxRecDepth 100000
set_option maxHeartbeats 4000000
/-! MPBase: the data, the store, worlds, and how they are laid in the abstract heap. -/
namespace MP
open PySem PySem.Spec PyProof.Rows L2
abbrev St := L2.St

inductive D where
  | non | bl (b : Bool) | int (i : Int) | str (s : Str) | tup (l : List D) | lst (l : List D) | slst (l : List D)
  | obj (c : Str) (ns : List Str) (l : List D)
inductive R where
  | dat (d : D) | own (k : Nat) | exc (c : Str) (ns : List Str) (l : List D)
inductive Cell where
  | lst (rs : List R) | tup (rs : List R) | obj (c : Str) (ns : List Str) (rs : List R)
abbrev Store := List Cell
abbrev Env := List (Option R)

/-- a world: the abstract heap, the live cells -/
structure Wd where
  H : Hp
  n : Nat
  p : Nat → Addr
  /-- addresses that are being made -/
  hid : List Addr
def Wd.Live (w : Wd) (a : Addr) : Prop := (∃ k, k < w.n ∧ w.p k = a) ∨ a ∈ w.hid
/-- from one world to a later one: only live cells may have changed -/
structure Ext (w w' : Wd) : Prop where
  le : w.n ≤ w'.n
  p : ∀ k, k < w.n → w'.p k = w.p k
  fr : ∀ a o, w.H a = some o → ¬ w.Live a → w'.H a = some o
  th : ∀ a, w.H a ≠ none → w'.H a ≠ none
  nw : ∀ k, w.n ≤ k → k < w'.n → w.H (w'.p k) = none
  hk : ∀ a, a ∈ w.hid → a ∈ w'.hid ∧ w'.H a = w.H a
  hn : ∀ a, a ∈ w'.hid → a ∈ w.hid ∨ w.H a = none
theorem Ext.refl (w : Wd) : Ext w w := ⟨Nat.le_refl _, fun _ _ => rfl, fun _ _ h _ => h, fun _ h => h, fun k h1 h2 => absurd h2 (Nat.not_lt.mpr h1), fun _ h => ⟨h, rfl⟩, fun _ h => .inl h⟩
theorem Ext.nlive {w w' : Wd} (x : Ext w w') {a : Addr} (h : w.H a ≠ none) (n : ¬ w.Live a) : ¬ w'.Live a := fun z => by
  rcases z with ⟨k, hk, e⟩ | z
  · by_cases q : k < w.n
    · exact n (.inl ⟨k, q, by rw [← x.p k q]; exact e⟩)
    · have z := x.nw k (Nat.not_lt.mp q) hk
      rw [e] at z
      exact h z
  · rcases x.hn a z with z | z
    · exact n (.inr z)
    · exact h z
theorem Ext.trans {w w' w'' : Wd} (x : Ext w w') (y : Ext w' w'') : Ext w w'' where
  le := Nat.le_trans x.le y.le
  p := fun k h => (y.p k (Nat.lt_of_lt_of_le h x.le)).trans (x.p k h)
  fr := fun a o h n => y.fr a o (x.fr a o h n) (x.nlive (by rw [h]; exact Option.some_ne_none _) n)
  th := fun a h => y.th a (x.th a h)
  nw := fun k h1 h2 => by
    by_cases q : k < w'.n
    · rw [y.p k q]; exact x.nw k h1 q
    · have z := y.nw k (Nat.not_lt.mp q) h2
      cases e : w.H (w''.p k) with
      | none => rfl
      | some o => exact absurd z (x.th _ (by rw [e]; exact Option.some_ne_none _))
  hk := fun a h => ⟨(y.hk a (x.hk a h).1).1, (y.hk a (x.hk a h).1).2.trans (x.hk a h).2⟩
  hn := fun a h => by
    rcases y.hn a h with z | z
    · exact x.hn a z
    · cases e : w.H a with
      | none => exact .inr rfl
      | some o => exact absurd z (x.th _ (by rw [e]; exact Option.some_ne_none _))

/-- a list that the written part holds -/
def KL (K : PySem.W.Frag) (a : Addr) (xs : List V) : Prop :=
  ∃ (o : Obj) (its : Array Value) (n : Nat), K.lookup a = some o ∧ o.cls = .type "list" ∧ o.dict = none ∧ o.data = .seq its n ∧ its.size ≤ sizeLine ∧ Vals xs its.toList
section
variable (K : PySem.W.Frag)
mutual
/-- data at a value: nothing of it is a live cell -/
def Rep (w : Wd) : D → V → Prop
  | .non, v => v = .non
  | .bl b, v => v = .bl b
  | .int i, v => v = .int i
  | .str s, v => v = .str s
  | .tup l, v => ∃ a vs, v = .ref a ∧ ¬ w.Live a ∧ w.H a = some (.tup vs) ∧ vs.length ≤ sizeLine ∧ Reps w l vs
  | .lst l, v => ∃ a vs, v = .ref a ∧ ¬ w.Live a ∧ w.H a = some (.lst vs) ∧ vs.length ≤ sizeLine ∧ Reps w l vs
  | .slst l, v => ∃ a vs, v = .ref a ∧ ((¬ w.Live a ∧ Rd w.H a (.lst vs)) ∨ KL K a vs) ∧ vs.length ≤ sizeLine ∧ Reps w l vs
  | .obj c ns l, v => ∃ a dx fs, v = .ref a ∧ ¬ w.Live a ∧ w.H a = some (.ins (He.ga K c) dx fs) ∧ fs.map (·.1) = ns ∧ Reps w l (fs.map (·.2))
def Reps (w : Wd) : List D → List V → Prop
  | [], vs => vs = []
  | d :: l, vs => ∃ v r, vs = v :: r ∧ Rep w d v ∧ Reps w l r
end
def Rel (w : Wd) : R → V → Prop
  | .dat d, v => Rep K w d v
  | .own k, v => k < w.n ∧ v = .ref (w.p k)
  | .exc _ _ _, _ => False
def Rels (w : Wd) : List R → List V → Prop
  | [], vs => vs = []
  | d :: l, vs => ∃ v r, vs = v :: r ∧ Rel K w d v ∧ Rels w l r
def CellR (w : Wd) (a : Addr) : Cell → Prop
  | .lst rs => ∃ vs, w.H a = some (.lst vs) ∧ vs.length ≤ sizeLine ∧ Rels K w rs vs
  | .tup rs => ∃ vs, w.H a = some (.tup vs) ∧ vs.length ≤ sizeLine ∧ Rels K w rs vs
  | .obj c ns rs => ∃ dx fs, w.H a = some (.ins (He.ga K c) dx fs) ∧ fs.map (·.1) = ns ∧ Rels K w rs (fs.map (·.2))
structure SR (w : Wd) (S : Store) : Prop where
  n : w.n = S.length
  inj : ∀ i j, i < w.n → j < w.n → w.p i = w.p j → i = j
  hid : ∀ a, a ∈ w.hid → w.H a ≠ none ∧ ∀ k, k < w.n → w.p k ≠ a
  cell : ∀ (k : Nat) (c : Cell), S[k]? = some c → CellR K w (w.p k) c
end

section
variable {K : PySem.W.Frag} {w w' : Wd} {S : Store}
theorem KL.sq {H : Hp} {a : Addr} {vs : List V} (h : KL K a vs) : SqL K H a vs := .inr h
mutual
theorem Rep.imp (x : ∀ a o, ¬ w.Live a → w.H a = some o → ¬ w'.Live a ∧ w'.H a = some o) : ∀ (d : D) (v : V), Rep K w d v → Rep K w' d v
  | .non, _, h => h
  | .bl _, _, h => h
  | .int _, _, h => h
  | .str _, _, h => h
  | .tup l, v, h => by
    obtain ⟨a, vs, e, n, h1, hz, h2⟩ := h
    exact ⟨a, vs, e, (x _ _ n h1).1, (x _ _ n h1).2, hz, Reps.imp x l vs h2⟩
  | .lst l, v, h => by
    obtain ⟨a, vs, e, n, h1, hz, h2⟩ := h
    exact ⟨a, vs, e, (x _ _ n h1).1, (x _ _ n h1).2, hz, Reps.imp x l vs h2⟩
  | .slst l, v, h => by
    obtain ⟨a, vs, e, h1, hz, h2⟩ := h
    refine ⟨a, vs, e, ?_, hz, Reps.imp x l vs h2⟩
    rcases h1 with ⟨n, h1 | ⟨o, h1⟩⟩ | h1
    · exact .inl ⟨(x _ _ n h1).1, .inl (x _ _ n h1).2⟩
    · exact .inl ⟨(x _ _ n h1).1, .inr ⟨o, (x _ _ n h1).2⟩⟩
    · exact .inr h1
  | .obj c ns l, v, h => by
    obtain ⟨a, dx, fs, e, n, h1, h2, h3⟩ := h
    exact ⟨a, dx, fs, e, (x _ _ n h1).1, (x _ _ n h1).2, h2, Reps.imp x l _ h3⟩
theorem Reps.imp (x : ∀ a o, ¬ w.Live a → w.H a = some o → ¬ w'.Live a ∧ w'.H a = some o) : ∀ (l : List D) (vs : List V), Reps K w l vs → Reps K w' l vs
  | [], _, h => h
  | d :: l, vs, h => by
    obtain ⟨v, r, e, h1, h2⟩ := h
    exact ⟨v, r, e, Rep.imp x d v h1, Reps.imp x l r h2⟩
end
theorem Ext.keep (x : Ext w w') : ∀ a o, ¬ w.Live a → w.H a = some o → ¬ w'.Live a ∧ w'.H a = some o := fun a o n h =>
  ⟨x.nlive (by rw [h]; exact Option.some_ne_none _) n, x.fr a o h n⟩
theorem Rep.ext (x : Ext w w') {d : D} {v : V} (h : Rep K w d v) : Rep K w' d v := Rep.imp x.keep d v h
theorem Reps.ext (x : Ext w w') {d : List D} {v : List V} (h : Reps K w d v) : Reps K w' d v := Reps.imp x.keep d v h
/-- what data and cells ask of a later world -/
structure Mono (w w' : Wd) : Prop where
  keep : ∀ a o, ¬ w.Live a → w.H a = some o → ¬ w'.Live a ∧ w'.H a = some o
  le : w.n ≤ w'.n
  p : ∀ k, k < w.n → w'.p k = w.p k
theorem Ext.mono (x : Ext w w') : Mono w w' := ⟨x.keep, x.le, x.p⟩
theorem Mono.trans {w w' w'' : Wd} (x : Mono w w') (y : Mono w' w'') : Mono w w'' :=
  ⟨fun a o n h => y.keep a o (x.keep a o n h).1 (x.keep a o n h).2, Nat.le_trans x.le y.le, fun k h => (y.p k (Nat.lt_of_lt_of_le h x.le)).trans (x.p k h)⟩
theorem Rel.mono (x : Mono w w') : ∀ {r : R} {v : V}, Rel K w r v → Rel K w' r v
  | .dat _, _, h => Rep.imp x.keep _ _ h
  | .own k, _, ⟨h1, h2⟩ => ⟨Nat.lt_of_lt_of_le h1 x.le, by rw [x.p k h1]; exact h2⟩
theorem Rels.mono (x : Mono w w') : ∀ {r : List R} {v : List V}, Rels K w r v → Rels K w' r v
  | [], _, h => h
  | _ :: _, _, ⟨v, r, e, h1, h2⟩ => ⟨v, r, e, h1.mono x, Rels.mono x h2⟩
theorem CellR.mono (x : Mono w w') {a : Addr} {c : Cell} (h : CellR K w a c) (e : w'.H a = w.H a) : CellR K w' a c := by
  cases c with
  | lst rs => obtain ⟨vs, h1, hz, h2⟩ := h; exact ⟨vs, e.trans h1, hz, h2.mono x⟩
  | tup rs => obtain ⟨vs, h1, hz, h2⟩ := h; exact ⟨vs, e.trans h1, hz, h2.mono x⟩
  | obj c ns rs => obtain ⟨dx, fs, h1, h2, h3⟩ := h; exact ⟨dx, fs, e.trans h1, h2, h3.mono x⟩
theorem Rel.ext (x : Ext w w') {r : R} {v : V} (h : Rel K w r v) : Rel K w' r v := h.mono x.mono
theorem Rels.ext (x : Ext w w') {r : List R} {v : List V} (h : Rels K w r v) : Rels K w' r v := h.mono x.mono
theorem CellR.ext (x : Ext w w') {a : Addr} {c : Cell} (h : CellR K w a c) (e : w'.H a = w.H a) : CellR K w' a c := h.mono x.mono e
theorem CellR.some {a : Addr} {c : Cell} (h : CellR K w a c) : w.H a ≠ none := by
  cases c with
  | lst rs => obtain ⟨vs, h1, _⟩ := h; rw [h1]; exact Option.some_ne_none _
  | tup rs => obtain ⟨vs, h1, _⟩ := h; rw [h1]; exact Option.some_ne_none _
  | obj c ns rs => obtain ⟨dx, fs, h1, _⟩ := h; rw [h1]; exact Option.some_ne_none _
theorem SR.get (s : SR K w S) {k : Nat} (h : k < w.n) : ∃ c, S[k]? = some c ∧ CellR K w (w.p k) c := by
  have h2 : k < S.length := by rw [← s.n]; exact h
  exact ⟨S[k], List.getElem?_eq_getElem h2, s.cell k _ (List.getElem?_eq_getElem h2)⟩
theorem SR.live_some (s : SR K w S) {a : Addr} (h : w.Live a) : w.H a ≠ none := by
  rcases h with ⟨k, hk, e⟩ | h
  · obtain ⟨c, _, h2⟩ := s.get hk
    rw [← e]
    exact h2.some
  · exact (s.hid a h).1
theorem SR.nlive (s : SR K w S) {a : Addr} (h : w.H a = none) : ¬ w.Live a := fun z => s.live_some z h
theorem SR.lt (s : SR K w S) {k : Nat} {c : Cell} (h : S[k]? = some c) : k < w.n := by
  rw [s.n]
  exact (List.getElem?_eq_some_iff.mp h).1
theorem upd_some {H : Hp} {a b : Addr} {o : HO} (h : H b ≠ none) : upd H a o b ≠ none := by
  by_cases q : b = a
  · rw [q, upd_same]; exact Option.some_ne_none _
  · rw [upd_ne q]; exact h

/-- a new object that is data -/
def Wd.new (w : Wd) (a : Addr) (o : HO) : Wd := { w with H := upd w.H a o }
theorem ext_new {a : Addr} {o : HO} (s : SR K w S) (h : w.H a = none) : Ext w (w.new a o) where
  le := Nat.le_refl _
  p := fun _ _ => rfl
  fr := fun b u e _ => by
    show upd w.H a o b = _
    rw [upd_ne (ne_of_none e h)]
    exact e
  th := fun b e => upd_some e
  nw := fun k h1 h2 => absurd h2 (Nat.not_lt.mpr h1)
  hk := fun b hb => ⟨hb, upd_ne fun q => (s.hid b hb).1 (by rw [q]; exact h)⟩
  hn := fun _ hb => .inl hb
theorem new_same {a : Addr} {o : HO} : (w.new a o).H a = some o := upd_same
theorem nlive_new {a : Addr} {o : HO} (s : SR K w S) (h : w.H a = none) : ¬ (w.new a o).Live a := s.nlive h
theorem SR.new {a : Addr} {o : HO} (s : SR K w S) (h : w.H a = none) : SR K (w.new a o) S :=
  ⟨s.n, s.inj, fun b hb => ⟨upd_some (s.hid b hb).1, (s.hid b hb).2⟩, fun k c e => (s.cell k c e).ext (ext_new s h) (upd_ne fun q => (s.cell k c e).some (by rw [q]; exact h))⟩
/-- a new live cell -/
def Wd.push (w : Wd) (a : Addr) (o : HO) : Wd := ⟨upd w.H a o, w.n + 1, fun k => if k = w.n then a else w.p k, w.hid⟩
theorem push_p {a : Addr} {o : HO} : (w.push a o).p w.n = a := if_pos rfl
theorem push_lt {a : Addr} {o : HO} {k : Nat} (h : k < w.n) : (w.push a o).p k = w.p k := if_neg (Nat.ne_of_lt h)
theorem ext_push {a : Addr} {o : HO} (s : SR K w S) (h : w.H a = none) : Ext w (w.push a o) where
  le := Nat.le_succ _
  p := fun _ q => push_lt q
  fr := fun b u e _ => by
    show upd w.H a o b = _
    rw [upd_ne (ne_of_none e h)]
    exact e
  th := fun b e => upd_some e
  nw := fun k h1 h2 => by
    have e : k = w.n := Nat.le_antisymm (Nat.le_of_lt_succ h2) h1
    rw [e, push_p]
    exact h
  hk := fun b hb => ⟨hb, upd_ne fun q => (s.hid b hb).1 (by rw [q]; exact h)⟩
  hn := fun _ hb => .inl hb
theorem SR.push {a : Addr} {o : HO} {c : Cell} (s : SR K w S) (h : w.H a = none) (hc : CellR K (w.push a o) a c) : SR K (w.push a o) (S ++ [c]) where
  n := by rw [List.length_append, ← s.n]; rfl
  inj := fun i j hi hj e => by
    have hi' : i < w.n + 1 := hi
    have hj' : j < w.n + 1 := hj
    by_cases qi : i = w.n
    · by_cases qj : j = w.n
      · rw [qi, qj]
      · have lj : j < w.n := by omega
        rw [qi, push_p, push_lt lj] at e
        exact absurd (show w.Live a from .inl ⟨j, lj, e.symm⟩) (s.nlive h)
    · have li : i < w.n := by omega
      by_cases qj : j = w.n
      · rw [qj, push_p, push_lt li] at e
        exact absurd (show w.Live a from .inl ⟨i, li, e⟩) (s.nlive h)
      · have lj : j < w.n := by omega
        rw [push_lt li, push_lt lj] at e
        exact s.inj i j li lj e
  hid := fun b hb => by
    refine ⟨upd_some (s.hid b hb).1, fun k hk => ?_⟩
    have hk' : k < w.n + 1 := hk
    by_cases q : k = w.n
    · rw [q, push_p]
      exact fun z => (s.hid b hb).1 (by rw [← z]; exact h)
    · rw [push_lt (by omega)]
      exact (s.hid b hb).2 k (by omega)
  cell := fun k c' e => by
    by_cases q : k < S.length
    · rw [List.getElem?_append_left q] at e
      have lk : k < w.n := by rw [s.n]; exact q
      rw [push_lt lk]
      exact (s.cell k c' e).ext (ext_push s h) (upd_ne fun z => (s.cell k c' e).some (by rw [z]; exact h))
    · rw [List.getElem?_append_right (Nat.not_lt.mp q)] at e
      have k0 : k = S.length := by
        by_cases z : k - S.length = 0
        · omega
        · rw [show k - S.length = (k - S.length - 1) + 1 by omega] at e
          simp at e
      rw [k0, Nat.sub_self] at e
      have e2 : c = c' := by simpa using e
      rw [← e2, k0, ← s.n, push_p]
      exact hc
/-- a live cell is written -/
def Wd.put (w : Wd) (k : Nat) (o : HO) : Wd := { w with H := upd w.H (w.p k) o }
theorem ext_put {k : Nat} {o : HO} (s : SR K w S) (hk : k < w.n) : Ext w (w.put k o) where
  le := Nat.le_refl _
  p := fun _ _ => rfl
  fr := fun b u e nl => by
    show upd w.H (w.p k) o b = _
    rw [upd_ne fun q => nl (.inl ⟨k, hk, q.symm⟩)]
    exact e
  th := fun b e => upd_some e
  nw := fun j h1 h2 => absurd h2 (Nat.not_lt.mpr h1)
  hk := fun b hb => ⟨hb, upd_ne fun q => (s.hid b hb).2 k hk q.symm⟩
  hn := fun _ hb => .inl hb
theorem SR.put {k : Nat} {o : HO} {c : Cell} (s : SR K w S) (hk : k < w.n) (hc : CellR K (w.put k o) (w.p k) c) : SR K (w.put k o) (S.set k c) where
  n := by rw [List.length_set]; exact s.n
  inj := s.inj
  hid := fun b hb => ⟨upd_some (s.hid b hb).1, (s.hid b hb).2⟩
  cell := fun j c' e => by
    by_cases q : j = k
    · subst q
      rw [List.getElem?_set_self (by rw [← s.n]; exact hk)] at e
      cases e
      exact hc
    · rw [List.getElem?_set_ne (Ne.symm q)] at e
      have lj : j < w.n := s.lt e
      exact (s.cell j c' e).ext (ext_put s hk) (upd_ne fun z => q (s.inj j k lj hk z))

/-! ### cells are given up -/
def Wd.cut (w : Wd) (m : Nat) : Wd := { w with n := m }
def R.below (m : Nat) : R → Bool
  | .dat _ => true
  | .own k => decide (k < m)
  | .exc _ _ _ => false
def Cell.below (m : Nat) : Cell → Bool
  | .lst rs => rs.all (R.below m)
  | .tup rs => rs.all (R.below m)
  | .obj _ _ rs => rs.all (R.below m)
theorem cut_live {m : Nat} (h : m ≤ w.n) {a : Addr} (z : (w.cut m).Live a) : w.Live a := by
  rcases z with ⟨k, hk, e⟩ | z
  · exact .inl ⟨k, Nat.lt_of_lt_of_le hk h, e⟩
  · exact .inr z
theorem cut_keep {m : Nat} (h : m ≤ w.n) : ∀ a o, ¬ w.Live a → w.H a = some o → ¬ (w.cut m).Live a ∧ (w.cut m).H a = some o := fun _ _ n e => ⟨fun z => n (cut_live h z), e⟩
theorem Rel.cut {m : Nat} (h : m ≤ w.n) : ∀ {r : R} {v : V}, R.below m r = true → Rel K w r v → Rel K (w.cut m) r v
  | .dat d, v, _, q => Rep.imp (cut_keep h) d v q
  | .own k, _, b, ⟨_, q⟩ => ⟨of_decide_eq_true b, q⟩
theorem Rels.cut {m : Nat} (h : m ≤ w.n) : ∀ {r : List R} {v : List V}, r.all (R.below m) = true → Rels K w r v → Rels K (w.cut m) r v
  | [], _, _, q => q
  | _ :: _, _, b, ⟨v, r, e, h1, h2⟩ => by
    rw [List.all_cons, Bool.and_eq_true] at b
    exact ⟨v, r, e, h1.cut h b.1, Rels.cut h b.2 h2⟩
theorem CellR.cut {m : Nat} (h : m ≤ w.n) {a : Addr} {c : Cell} (b : c.below m = true) (q : CellR K w a c) : CellR K (w.cut m) a c := by
  cases c with
  | lst rs => obtain ⟨vs, h1, hz, h2⟩ := q; exact ⟨vs, h1, hz, h2.cut h b⟩
  | tup rs => obtain ⟨vs, h1, hz, h2⟩ := q; exact ⟨vs, h1, hz, h2.cut h b⟩
  | obj c ns rs => obtain ⟨dx, fs, h1, h2, h3⟩ := q; exact ⟨dx, fs, h1, h2, h3.cut h b⟩
theorem SR.cut {m : Nat} (s : SR K w S) (h : m ≤ w.n) (b : (S.take m).all (Cell.below m) = true) : SR K (w.cut m) (S.take m) where
  n := by rw [List.length_take, ← s.n]; exact (Nat.min_eq_left h).symm
  inj := fun i j hi hj => s.inj i j (Nat.lt_of_lt_of_le hi h) (Nat.lt_of_lt_of_le hj h)
  hid := fun b hb => ⟨(s.hid b hb).1, fun k hk => (s.hid b hb).2 k (Nat.lt_of_lt_of_le hk h)⟩
  cell := fun k c e => by
    have b1 := List.all_eq_true.mp b c (List.mem_of_getElem? e)
    have hk : k < m := by
      have := (List.getElem?_eq_some_iff.mp e).1
      rw [List.length_take] at this
      omega
    rw [List.getElem?_take_of_lt hk] at e
    exact (s.cell k c e).cut h b1
theorem Ext.cut {m : Nat} (x : Ext w w') (h : w.n = m) : Ext w (w'.cut m) where
  le := Nat.le_of_eq h
  p := x.p
  fr := x.fr
  th := x.th
  nw := fun k h1 h2 => absurd (show k < m from h2) (by omega)
  hk := x.hk
  hn := x.hn
/-! ### a list that is being made -/
def Wd.hide (w : Wd) (a : Addr) (o : HO) : Wd := ⟨upd w.H a o, w.n, w.p, a :: w.hid⟩
def Wd.poke (w : Wd) (a : Addr) (o : HO) : Wd := { w with H := upd w.H a o }
def Wd.show (w : Wd) (a : Addr) : Wd := { w with hid := w.hid.filter fun b => decide (b ≠ a) }
def Wd.own (w : Wd) (a : Addr) : Wd := ⟨w.H, w.n + 1, fun k => if k = w.n then a else w.p k, w.hid.filter fun b => decide (b ≠ a)⟩
theorem ext_hide {a : Addr} {o : HO} (s : SR K w S) (h : w.H a = none) : Ext w (w.hide a o) where
  le := Nat.le_refl _
  p := fun _ _ => rfl
  fr := fun b u e _ => by
    show upd w.H a o b = _
    rw [upd_ne (ne_of_none e h)]
    exact e
  th := fun b e => upd_some e
  nw := fun k h1 h2 => absurd h2 (Nat.not_lt.mpr h1)
  hk := fun b hb => ⟨List.mem_cons_of_mem _ hb, upd_ne fun q => (s.hid b hb).1 (by rw [q]; exact h)⟩
  hn := fun b hb => by
    rcases List.mem_cons.mp hb with q | q
    · exact .inr (by rw [q]; exact h)
    · exact .inl q
theorem SR.hide {a : Addr} {o : HO} (s : SR K w S) (h : w.H a = none) : SR K (w.hide a o) S where
  n := s.n
  inj := s.inj
  hid := fun b hb => by
    rcases List.mem_cons.mp hb with q | q
    · rw [q]
      exact ⟨by show upd w.H a o a ≠ none; rw [upd_same]; exact Option.some_ne_none _, fun k hk z => s.live_some (.inl ⟨k, hk, z⟩) h⟩
    · exact ⟨upd_some (s.hid b q).1, (s.hid b q).2⟩
  cell := fun k c e => (s.cell k c e).ext (ext_hide s h) (upd_ne fun q => (s.cell k c e).some (by rw [q]; exact h))
theorem mono_poke {a : Addr} {o : HO} (h : a ∈ w.hid) : Mono w (w.poke a o) :=
  ⟨fun b u nl e => ⟨nl, by show upd w.H a o b = _; rw [upd_ne fun q => nl (by rw [q]; exact .inr h)]; exact e⟩, Nat.le_refl _, fun _ _ => rfl⟩
theorem SR.poke {a : Addr} {o : HO} (s : SR K w S) (h : a ∈ w.hid) : SR K (w.poke a o) S where
  n := s.n
  inj := s.inj
  hid := fun b hb => ⟨upd_some (s.hid b hb).1, (s.hid b hb).2⟩
  cell := fun k c e => (s.cell k c e).mono (mono_poke h) (upd_ne fun q => (s.hid a h).2 k (s.lt e) q)
theorem Ext.poke {w0 : Wd} {a : Addr} {o : HO} (x : Ext w0 w) (s0 : ∀ b, b ∈ w0.hid → w0.H b ≠ none) (h : w0.H a = none) : Ext w0 (w.poke a o) where
  le := x.le
  p := x.p
  fr := fun b u e nl => by
    show upd w.H a o b = _
    rw [upd_ne (ne_of_none e h)]
    exact x.fr b u e nl
  th := fun b e => upd_some (x.th b e)
  nw := x.nw
  hk := fun b hb => ⟨(x.hk b hb).1, by
    show upd w.H a o b = _
    rw [upd_ne fun q => s0 b hb (by rw [q]; exact h)]
    exact (x.hk b hb).2⟩
  hn := x.hn
theorem Ext.show {w0 : Wd} {a : Addr} (x : Ext w0 w) (s0 : ∀ b, b ∈ w0.hid → w0.H b ≠ none) (h : w0.H a = none) : Ext w0 (w.show a) where
  le := x.le
  p := x.p
  fr := x.fr
  th := x.th
  nw := x.nw
  hk := fun b hb => ⟨List.mem_filter.mpr ⟨(x.hk b hb).1, decide_eq_true fun q => s0 b hb (by rw [q]; exact h)⟩, (x.hk b hb).2⟩
  hn := fun b hb => x.hn b (List.mem_filter.mp hb).1
theorem mono_show {a : Addr} : Mono w (w.show a) :=
  ⟨fun b u nl e => ⟨fun z => nl (by
    rcases z with z | z
    · exact .inl z
    · exact .inr (List.mem_filter.mp z).1), e⟩, Nat.le_refl _, fun _ _ => rfl⟩
theorem SR.show {a : Addr} (s : SR K w S) : SR K (w.show a) S where
  n := s.n
  inj := s.inj
  hid := fun b hb => s.hid b (List.mem_filter.mp hb).1
  cell := fun k c e => (s.cell k c e).mono mono_show rfl
theorem nlive_show {a : Addr} (s : SR K w S) (h : a ∈ w.hid) : ¬ (w.show a).Live a := fun z => by
  rcases z with ⟨k, hk, e⟩ | z
  · exact (s.hid a h).2 k hk e
  · exact absurd rfl (of_decide_eq_true (List.mem_filter.mp z).2)
theorem own_lt {a : Addr} {k : Nat} (h : k < w.n) : (w.own a).p k = w.p k := if_neg (Nat.ne_of_lt h)
theorem own_p {a : Addr} : (w.own a).p w.n = a := if_pos rfl
theorem mono_own {a : Addr} (h : a ∈ w.hid) : Mono w (w.own a) :=
  ⟨fun b u nl e => ⟨fun z => nl (by
    rcases z with ⟨k, hk, z⟩ | z
    · have hk' : k < w.n + 1 := hk
      by_cases q : k = w.n
      · rw [q, own_p] at z
        rw [← z]
        exact .inr h
      · rw [own_lt (by omega)] at z
        exact .inl ⟨k, by omega, z⟩
    · exact .inr (List.mem_filter.mp z).1), e⟩, Nat.le_succ _, fun _ q => own_lt q⟩
theorem Ext.own {w0 : Wd} {a : Addr} (x : Ext w0 w) (s0 : ∀ b, b ∈ w0.hid → w0.H b ≠ none) (h : w0.H a = none) : Ext w0 (w.own a) where
  le := Nat.le_succ_of_le x.le
  p := fun k q => (own_lt (Nat.lt_of_lt_of_le q x.le)).trans (x.p k q)
  fr := x.fr
  th := x.th
  nw := fun k h1 h2 => by
    have h2' : k < w.n + 1 := h2
    by_cases q : k = w.n
    · rw [q, own_p]; exact h
    · rw [own_lt (by omega)]
      exact x.nw k h1 (by omega)
  hk := fun b hb => ⟨List.mem_filter.mpr ⟨(x.hk b hb).1, decide_eq_true fun q => s0 b hb (by rw [q]; exact h)⟩, (x.hk b hb).2⟩
  hn := fun b hb => x.hn b (List.mem_filter.mp hb).1
theorem SR.own {a : Addr} {c : Cell} (s : SR K w S) (h : a ∈ w.hid) (hc : CellR K (w.own a) a c) : SR K (w.own a) (S ++ [c]) where
  n := by rw [List.length_append, ← s.n]; rfl
  inj := fun i j hi hj e => by
    have hi' : i < w.n + 1 := hi
    have hj' : j < w.n + 1 := hj
    by_cases qi : i = w.n
    · by_cases qj : j = w.n
      · rw [qi, qj]
      · rw [qi, own_p, own_lt (by omega)] at e
        exact absurd e.symm ((s.hid a h).2 j (by omega))
    · by_cases qj : j = w.n
      · rw [qj, own_p, own_lt (by omega)] at e
        exact absurd e ((s.hid a h).2 i (by omega))
      · rw [own_lt (by omega), own_lt (by omega)] at e
        exact s.inj i j (by omega) (by omega) e
  hid := fun b hb => by
    have h1 := List.mem_filter.mp hb
    refine ⟨(s.hid b h1.1).1, fun k hk => ?_⟩
    have hk' : k < w.n + 1 := hk
    by_cases q : k = w.n
    · rw [q, own_p]
      exact fun z => of_decide_eq_true h1.2 z.symm
    · rw [own_lt (by omega)]
      exact (s.hid b h1.1).2 k (by omega)
  cell := fun k c' e => by
    by_cases q : k < S.length
    · rw [List.getElem?_append_left q] at e
      have lk : k < w.n := by rw [s.n]; exact q
      rw [own_lt lk]
      exact (s.cell k c' e).mono (mono_own h) rfl
    · rw [List.getElem?_append_right (Nat.not_lt.mp q)] at e
      have k0 : k = S.length := by
        by_cases z : k - S.length = 0
        · omega
        · rw [show k - S.length = (k - S.length - 1) + 1 by omega] at e
          simp at e
      rw [k0, Nat.sub_self] at e
      have e2 : c = c' := by simpa using e
      rw [← e2, k0, ← s.n, own_p]
      exact hc
/-- the store's data, read off cells from m on -/
def allD (f : R → Option D) : List R → Option (List D)
  | [] => some []
  | r :: rs => match f r, allD f rs with
    | some d, some ds => some (d :: ds)
    | _, _ => none
def toD (m : Nat) (S : Store) : Nat → R → Option D
  | _, .dat d => some d
  | 0, _ => none
  | f + 1, .own k => if k < m then none else match S[k]? with
    | some (.lst rs) => (allD (toD m S f) rs).map D.lst
    | some (.tup rs) => (allD (toD m S f) rs).map D.tup
    | some (.obj c ns rs) => (allD (toD m S f) rs).map (D.obj c ns)
    | none => none
  | _, .exc _ _ _ => none
theorem allD_ok {f : R → Option D} {m : Nat} (hf : ∀ r d v, f r = some d → Rel K w r v → Rep K (w.cut m) d v) : ∀ {rs : List R} {ds : List D} {vs : List V}, allD f rs = some ds → Rels K w rs vs → Reps K (w.cut m) ds vs
  | [], ds, vs, h, q => by
    cases h
    exact q
  | r :: rs, ds, vs, h, ⟨v, vr, e, h1, h2⟩ => by
    unfold allD at h
    cases e1 : f r with
    | none => rw [e1] at h; cases h
    | some d =>
      cases e2 : allD f rs with
      | none => rw [e1, e2] at h; cases h
      | some ds' =>
        rw [e1, e2] at h
        cases h
        exact ⟨v, vr, e, hf _ _ _ e1 h1, allD_ok hf e2 h2⟩
theorem toD_ok {m : Nat} (s : SR K w S) (h : m ≤ w.n) : ∀ (f : Nat) (r : R) (d : D) (v : V), toD m S f r = some d → Rel K w r v → Rep K (w.cut m) d v := by
  intro f
  induction f with
  | zero =>
    intro r d v e q
    cases r with
    | dat d' => cases e; exact Rep.imp (cut_keep h) _ _ q
    | own k => cases e
    | exc c ns l => cases e
  | succ f ih =>
    intro r d v e q
    cases r with
    | dat d' => cases e; exact Rep.imp (cut_keep h) _ _ q
    | exc c ns l => cases e
    | own k =>
      obtain ⟨hk, rfl⟩ := q
      have e1 : (if k < m then none else match S[k]? with
        | some (.lst rs) => (allD (toD m S f) rs).map D.lst
        | some (.tup rs) => (allD (toD m S f) rs).map D.tup
        | some (.obj c ns rs) => (allD (toD m S f) rs).map (D.obj c ns)
        | none => none) = some d := e
      by_cases lk : k < m
      · rw [if_pos lk] at e1; cases e1
      · rw [if_neg lk] at e1
        have nl : ¬ (w.cut m).Live (w.p k) := fun z => by
          rcases z with ⟨j, hj, z⟩ | z
          · have z' : w.p j = w.p k := z
            have hj' : j < m := hj
            have := s.inj j k (by omega) hk z'
            exact lk (by omega)
          · exact (s.hid _ z).2 k hk rfl
        obtain ⟨c, hc, hr⟩ := s.get hk
        rw [hc] at e1
        cases c with
        | lst rs =>
          obtain ⟨vs, h1, hz, h2⟩ := hr
          obtain ⟨ds, e2, e3⟩ := Option.map_eq_some_iff.mp e1
          rw [← e3]
          exact ⟨w.p k, vs, rfl, nl, h1, hz, allD_ok ih e2 h2⟩
        | tup rs =>
          obtain ⟨vs, h1, hz, h2⟩ := hr
          obtain ⟨ds, e2, e3⟩ := Option.map_eq_some_iff.mp e1
          rw [← e3]
          exact ⟨w.p k, vs, rfl, nl, h1, hz, allD_ok ih e2 h2⟩
        | obj c ns rs =>
          obtain ⟨dx, fs, h1, h2, h3⟩ := hr
          obtain ⟨ds, e2, e3⟩ := Option.map_eq_some_iff.mp e1
          rw [← e3]
          exact ⟨w.p k, dx, fs, rfl, nl, h1, h2, allD_ok ih e2 h3⟩
end
end MP
set_option Elab.async false
set_option linter.all false
set_option maxRecDepth 100000
set_option maxHeartbeats 4000000
/-! MPIR: the code as data (with what the text has besides), what it evaluates to. -/
namespace MP
open PySem PySem.Spec PyProof.Rows L2

inductive Bop where | add | sub | mul | fdiv | mod | pow
inductive Cop where | lt | le | gt | ge | eq | ne
inductive BTy where | int | bool | str | list | tuple
  deriving DecidableEq
inductive Lm where | append | pop
  deriving DecidableEq
inductive Bf where | len | sum | int | abs | max | min | tuple | list | all
  deriving DecidableEq
def BTy.nm : BTy → String | .int => "int" | .bool => "bool" | .str => "str" | .list => "list" | .tuple => "tuple"
def BTy.x : BTy → Str | .int => "int" | .bool => "bool" | .str => "str" | .list => "list" | .tuple => "tuple"
def Lm.x : Lm → Str | .append => "append" | .pop => "pop"
def Bf.x : Bf → Str | .len => "len" | .sum => "sum" | .int => "int" | .abs => "abs" | .max => "max" | .min => "min" | .tuple => "tuple" | .list => "list" | .all => "all"
def Bop.o : Bop → Operator
  | .add => .Add | .sub => .Sub | .mul => .Mult | .fdiv => .FloorDiv | .mod => .Mod | .pow => .Pow
def Cop.o : Cop → CmpOp
  | .lt => .Lt | .le => .LtE | .gt => .Gt | .ge => .GtE | .eq => .Eq | .ne => .NotEq

mutual
/-- expressions; m: a list that is made is to be a cell -/
inductive IE where
  | var (i : Nat) (x : Str) (p : Pos)
  | int (i : Int) (k : Nat) (p : Pos)
  | bl (b : Bool) (k : Nat) (p : Pos)
  | non (k : Nat) (p : Pos)
  | str (s : Str) (k : Nat) (p : Pos)
  | gint (i : Int) (x : Str) (p : Pos)
  | bin (m : Bool) (op : Bop) (a b : IE) (p : Pos)
  | neg (a : IE) (p : Pos)
  | cmp (op : Cop) (a b : IE) (p : Pos)
  | isN (n : Bool) (a : IE) (k : Nat) (p1 p : Pos)
  | not (a : IE) (p : Pos)
  | and (a : IE) (r : IEs) (p : Pos)
  | or (a : IE) (r : IEs) (p : Pos)
  | ifx (c a b : IE) (p : Pos)
  | lst (m : Bool) (es : IEs) (p : Pos)
  | tup (es : IEs) (k : Nat) (p : Pos)
  | ix (a i : IE) (p : Pos)
  | sl (m : Bool) (a : IE) (lo hi : IEs) (p2 p : Pos)
  | attr (a : IE) (c f : Str) (p : Pos)
  | call (f : Nat) (x : Str) (a : IE) (es : IEs) (p0 p : Pos)
  | callK (f : Nat) (x : Str) (a : IE) (es : IEs) (kw : IKs) (pm : List Nat) (p0 p : Pos)
  | callKK (f : Nat) (x : Str) (kw : IKs) (pm : List Nat) (p0 p : Pos)
  | bi (m : Bool) (f : Bf) (a : IE) (es : IEs) (p0 p : Pos)
  | gcd (lcm : Bool) (a b : IE) (p0 p : Pos)
  | make (m : Bool) (f : Nat) (c : Str) (a : IE) (es : IEs) (p0 p : Pos)
  | meth (f : Nat) (c : Str) (o : IE) (n : Str) (es : IEs) (p1 p : Pos)
  | callD (f : Nat) (x : Str) (a : IE) (es : IEs) (ds : List Int) (p0 p : Pos)
  | makeD (m : Bool) (f : Nat) (c : Str) (a : IE) (es : IEs) (ds : List Int) (p0 p : Pos)
  | opm (f : Nat) (c : Str) (op : Bop) (a b : IE) (p : Pos)
  | prop (f : Nat) (c : Str) (o : IE) (n : Str) (p : Pos)
  | chain (op op2 : Cop) (a b c : IE) (p : Pos)
  | inn (n : Bool) (a b : IE) (p : Pos)
  | lmeth (o : IE) (n : Lm) (es : IEs) (p1 p : Pos)
  | isT (a : IE) (T : BTy) (p1 p0 p : Pos)
  | isC (a : IE) (c : Str) (p1 p0 p : Pos)
  | xIs (i : Nat) (x : Str) (c : Str) (px p1 p0 p : Pos)
  | xAt (i : Nat) (x : Str) (f : Str) (px p : Pos)
  | lc (m : Bool) (e : IE) (t : IT) (it : II) (cs : IEs) (own : List (Str × Nat)) (sc : Scope) (p : Pos)
  | lc2 (m : Bool) (e : IE) (t : IT) (it : II) (cs : IEs) (t2 : IT) (it2 : II) (cs2 : IEs) (own : List (Str × Nat)) (vs2 : List Nat) (sc : Scope) (p : Pos)
inductive IEs where | nil | cons (e : IE) (r : IEs)
inductive IKs where | nil | cons (n : Str) (e : IE) (p : Pos) (r : IKs)
/-- targets: names -/
inductive IT where | one (i : Nat) (x : Str) (p : Pos) | many (l : List (Nat × Str × Pos)) (k : Nat) (p : Pos)
/-- what is walked -/
inductive II where
  | of (e : IE)
  | rng1 (a : IE) (p0 p : Pos)
  | rng2 (a b : IE) (p0 p : Pos)
  | enum (a : IE) (p0 p : Pos)
  | zip (a b : IE) (p0 p : Pos)
  | zip3 (a b c : IE) (p0 p : Pos)
end
mutual
inductive IS where
  | asg (t : IT) (e : IE) (p : Pos)
  | aug (i : Nat) (x : Str) (op : Bop) (e : IE) (px p : Pos)
  | setIx (a i e : IE) (ps p : Pos)
  | setAt (o : IE) (c f : Str) (e : IE) (ps p : Pos)
  | expr (e : IE) (p : Pos)
  | ret (e : IE) (p : Pos)
  | ite (c : IE) (a b : ISs) (p : Pos)
  | for_ (t : IT) (it : II) (b : ISs) (p : Pos)
  | while_ (c : IE) (b : ISs) (p : Pos)
  | raise (c : Str) (f : Option Nat) (a : IEs) (pn pc p : Pos)
  | pass (p : Pos)
  | brk (p : Pos)
  | cont (p : Pos)
  | try1 (b : ISs) (c : Str) (i : Nat) (n : Str) (s : ISs) (pc ph : Pos) (h : IHs) (p : Pos)
inductive ISs where | nil | cons (s : IS) (r : ISs)
/-- further clauses, without a name -/
inductive IHs where | nil | cons (c : Str) (s : ISs) (pc p : Pos) (r : IHs)
end

mutual
def IE.e : IE → Expr
  | .var _ x p => .Name x p
  | .int i k p => .Constant (.int i) k p
  | .bl b k p => .Constant (.bool b) k p
  | .non k p => .Constant .none k p
  | .str s k p => .Constant (.str s) k p
  | .gint _ x p => .Name x p
  | .bin _ op a b p => .BinOp a.e op.o b.e p
  | .neg a p => .UnaryOp .USub a.e p
  | .cmp op a b p => .Compare a.e [op.o] [b.e] p
  | .isN n a k p1 p => .Compare a.e [if n then .IsNot else .Is] [.Constant .none k p1] p
  | .not a p => .UnaryOp .Not a.e p
  | .and a r p => .BoolOp .And (a.e :: r.es) p
  | .or a r p => .BoolOp .Or (a.e :: r.es) p
  | .ifx c a b p => .IfExp c.e a.e b.e p
  | .lst _ es p => .List es.es p
  | .tup es k p => .Tuple es.es k p
  | .ix a i p => .Subscript a.e i.e p
  | .sl _ a lo hi p2 p => .Subscript a.e (.Slice lo.o hi.o none p2) p
  | .attr a _ f p => .Attribute a.e f p
  | .call _ x a es p0 p => .Call (.Name x p0) (a.e :: es.es) [] p
  | .callK _ x a es kw _ p0 p => .Call (.Name x p0) (a.e :: es.es) kw.ks p
  | .callKK _ x kw _ p0 p => .Call (.Name x p0) [] kw.ks p
  | .bi _ f a es p0 p => .Call (.Name f.x p0) (a.e :: es.es) [] p
  | .gcd l a b p0 p => .Call (.Name (if l then "lcm" else "gcd") p0) [a.e, b.e] [] p
  | .make _ _ c a es p0 p => .Call (.Name c p0) (a.e :: es.es) [] p
  | .meth _ _ o n es p1 p => .Call (.Attribute o.e n p1) es.es [] p
  | .callD _ x a es _ p0 p => .Call (.Name x p0) (a.e :: es.es) [] p
  | .makeD _ _ c a es _ p0 p => .Call (.Name c p0) (a.e :: es.es) [] p
  | .opm _ _ op a b p => .BinOp a.e op.o b.e p
  | .prop _ _ o n p => .Attribute o.e n p
  | .chain op op2 a b c p => .Compare a.e [op.o, op2.o] [b.e, c.e] p
  | .inn n a b p => .Compare a.e [if n then .NotIn else .In] [b.e] p
  | .lmeth o n es p1 p => .Call (.Attribute o.e n.x p1) es.es [] p
  | .isT a T p1 p0 p => .Call (.Name "isinstance" p0) [a.e, .Name T.x p1] [] p
  | .isC a c p1 p0 p => .Call (.Name "isinstance" p0) [a.e, .Name c p1] [] p
  | .xIs _ x c px p1 p0 p => .Call (.Name "isinstance" p0) [.Name x px, .Name c p1] [] p
  | .xAt _ x f px p => .Attribute (.Name x px) f p
  | .lc _ e t it cs _ sc p => .ListComp e.e [⟨t.e, it.e, cs.es, 0⟩] sc p
  | .lc2 _ e t it cs t2 it2 cs2 _ _ sc p => .ListComp e.e [⟨t.e, it.e, cs.es, 0⟩, ⟨t2.e, it2.e, cs2.es, 0⟩] sc p
def IEs.es : IEs → List Expr
  | .nil => []
  | .cons e r => e.e :: r.es
def IEs.o : IEs → Option Expr
  | .nil => none
  | .cons e _ => some e.e
def IKs.ks : IKs → List Keyword
  | .nil => []
  | .cons n e p r => ⟨some n, e.e, p⟩ :: r.ks
def IT.e : IT → Expr
  | .one _ x p => .Name x p
  | .many l k p => .Tuple (l.map fun q => .Name q.2.1 q.2.2) k p
def II.e : II → Expr
  | .of e => e.e
  | .rng1 a p0 p => .Call (.Name "range" p0) [a.e] [] p
  | .rng2 a b p0 p => .Call (.Name "range" p0) [a.e, b.e] [] p
  | .enum a p0 p => .Call (.Name "enumerate" p0) [a.e] [] p
  | .zip a b p0 p => .Call (.Name "zip" p0) [a.e, b.e] [] p
  | .zip3 a b c p0 p => .Call (.Name "zip" p0) [a.e, b.e, c.e] [] p
end
mutual
def IS.s : IS → Stmt
  | .asg t e p => .Assign [t.e] e.e p
  | .aug _ x op e px p => .AugAssign (.Name x px) op.o e.e p
  | .setIx a i e ps p => .Assign [.Subscript a.e i.e ps] e.e p
  | .setAt o _ f e ps p => .Assign [.Attribute o.e f ps] e.e p
  | .expr e p => .Expr e.e p
  | .ret e p => .Return (some e.e) p
  | .ite c a b p => .If c.e a.ss b.ss p
  | .for_ t it b p => .For t.e it.e b.ss [] p
  | .while_ c b p => .While c.e b.ss [] p
  | .raise c _ a pn pc p => .Raise (some (.Call (.Name c pn) a.es [] pc)) none p
  | .pass p => .Pass p
  | .brk p => .Break p
  | .cont p => .Continue p
  | .try1 b c _ n s pc ph h p => .Try b.ss (.ExceptHandler (some (.Name c pc)) (some n) s.ss ph :: h.hs) [] [] p
def ISs.ss : ISs → List Stmt
  | .nil => []
  | .cons s r => s.s :: r.ss
def IHs.hs : IHs → List ExceptHandler
  | .nil => []
  | .cons c s pc p r => .ExceptHandler (some (.Name c pc)) none s.ss p :: r.hs
end

/-! ### results -/
inductive Res (α : Type) where
  | ok (a : α) (S : Store)
  | exc (c : Str) (ns : List Str) (l : List D) (S : Store)
  | stuck
abbrev M (α : Type) := Store → Res α
def M.pure {α : Type} (a : α) : M α := fun S => .ok a S
def M.bind {α β : Type} (m : M α) (f : α → M β) : M β := fun S => match m S with
  | .ok a S' => f a S'
  | .exc c ns l S' => .exc c ns l S'
  | .stuck => .stuck
def M.stuck {α : Type} : M α := fun _ => .stuck
instance : Monad M where
  pure := M.pure
  bind := M.bind
def M.opt {α : Type} : Option α → M α
  | some a => M.pure a
  | none => M.stuck

def M.noX {α : Type} (m : M α) : M α := fun S => match m S with
  | .ok a S' => .ok a S'
  | _ => .stuck
/-! ### views -/
def itemsR (S : Store) : R → Option (List R)
  | .dat (.lst l) => some (l.map .dat)
  | .dat (.tup l) => some (l.map .dat)
  | .own k => match S[k]? with
    | some (.lst rs) => some rs
    | some (.tup rs) => some rs
    | _ => none
  | _ => none
def intsR : List R → Option (List Int)
  | [] => some []
  | .dat (.int i) :: r => (intsR r).map (i :: ·)
  | _ => none
def blsR : List R → Option (List Bool)
  | [] => some []
  | .dat (.bl i) :: r => (blsR r).map (i :: ·)
  | _ => none
def datsR : List R → Option (List D)
  | [] => some []
  | .dat d :: r => (datsR r).map (d :: ·)
  | _ => none
/-- a list that is made: data, or a cell -/
def mkL (m : Bool) (rs : List R) : M R := fun S => match m, datsR rs with
  | false, some ds => .ok (.dat (.lst ds)) S
  | _, _ => .ok (.own S.length) (S ++ [.lst rs])
def mkT (rs : List R) : M R := fun S => match datsR rs with
  | some ds => .ok (.dat (.tup ds)) S
  | none => .ok (.own S.length) (S ++ [.tup rs])
mutual
def py : D → Option PyData
  | .non => some .none
  | .bl b => some (.bool b)
  | .int i => some (.int i)
  | .str s => some (.str s)
  | .tup l => (pys l).map .tuple
  | .lst l => (pys l).map .list
  | .slst _ => none
  | .obj _ _ _ => none
def pys : List D → Option (List PyData)
  | [] => some []
  | d :: l => match py d, pys l with
    | some x, some xs => some (x :: xs)
    | _, _ => none
end
/-- == -/
def eqD (S : Store) (a b : R) : Option Bool := match a, b with
  | .dat (.int i), .dat (.int j) => some (decide (i = j))
  | .dat (.bl i), .dat (.bl j) => some (decide (i = j))
  | .dat (.str i), .dat (.str j) => some (decide (i = j))
  | .dat .non, .dat (.int _) => some false
  | .dat (.int _), .dat .non => some false
  | a, b => match toD 0 S 8 a, toD 0 S 8 b with
    | some d, some e => (match py d, py e with
      | some x, some y => if SeqAt.shaped x = true ∧ SeqAt.shaped y = true then some (PyData.eqv x y) else none
      | _, _ => none)
    | _, _ => none
def small (n : Nat) : Bool := decide (n ≤ 1000000)
def isTup : Store → R → Bool
  | _, .dat (.tup _) => true
  | S, .own k => match S[k]? with
    | some (.tup _) => true
    | _ => false
  | _, _ => false
/-- the items of a list, not of a tuple -/
def itemsL (S : Store) (r : R) : Option (List R) := if isTup S r = true then none else itemsR S r
def catL (m : Bool) (a b : R) : M R := fun S => match itemsL S a, itemsL S b with
  | some xs, some ys => if small (xs.length + ys.length) = true then mkL m (xs ++ ys) S else .stuck
  | _, _ => .stuck
def repL (m : Bool) (a : R) (k : Int) : M R := fun S => match itemsL S a with
  | some xs => if small (xs.length * k.toNat) = true ∧ k ≤ 1000000 ∧ -1000000 ≤ k then mkL m (List.replicate k.toNat xs).flatten S else .stuck
  | none => .stuck
def mulOk (i j : Int) : Bool := decide (i.natAbs.log2 + j.natAbs.log2 < 1000000)
def divOk (j : Int) : Bool := decide (0 < j ∧ j.natAbs.log2 < 9000)
def powOk (i j : Int) : Bool := decide (0 ≤ j ∧ (Builtin.Int.intBits i : Int) * j ≤ 2 ^ 27)
def binR (m : Bool) (op : Bop) (a b : R) : M R := match op, a, b with
  | .add, .dat (.int i), .dat (.int j) => M.pure (.dat (.int (i + j)))
  | .sub, .dat (.int i), .dat (.int j) => M.pure (.dat (.int (i - j)))
  | .mul, .dat (.int i), .dat (.int j) => if mulOk i j = true then M.pure (.dat (.int (i * j))) else M.stuck
  | .fdiv, .dat (.int i), .dat (.int j) => if divOk j = true then M.pure (.dat (.int (i / j))) else M.stuck
  | .mod, .dat (.int i), .dat (.int j) => if 0 < j then M.pure (.dat (.int (i % j))) else M.stuck
  | .pow, .dat (.int i), .dat (.int j) => if powOk i j = true then M.pure (.dat (.int (i ^ j.toNat))) else M.stuck
  | .add, a, b => catL m a b
  | .mul, a, .dat (.int k) => repL m a k
  | _, _, _ => M.stuck
def cmpR (op : Cop) (a b : R) : M R := fun S => match op, a, b with
  | .lt, .dat (.int i), .dat (.int j) => .ok (.dat (.bl (decide (i < j)))) S
  | .le, .dat (.int i), .dat (.int j) => .ok (.dat (.bl (decide (i ≤ j)))) S
  | .gt, .dat (.int i), .dat (.int j) => .ok (.dat (.bl (decide (j < i)))) S
  | .ge, .dat (.int i), .dat (.int j) => .ok (.dat (.bl (decide (j ≤ i)))) S
  | .eq, a, b => (match eqD S a b with
    | some c => .ok (.dat (.bl c)) S
    | none => .stuck)
  | .ne, a, b => (match eqD S a b with
    | some c => .ok (.dat (.bl (!c))) S
    | none => .stuck)
  | _, _, _ => .stuck
def atR (rs : List R) (i : Int) : Option R := atI rs i
def ixR (a i : R) : M R := fun S => match i, itemsR S a with
  | .dat (.int i), some rs => (match atR rs i with
    | some r => .ok r S
    | none => .stuck)
  | _, _ => .stuck
def cutR {α : Type} (xs : List α) (lo hi : Option Int) : List α := (xs.drop (HT.sIx xs.length 0 lo)).take (HT.sIx xs.length xs.length hi - HT.sIx xs.length 0 lo)
def slR (m : Bool) (a : R) (lo hi : Option Int) : M R := fun S => match a with
  | .dat (.slst l) => .ok (.dat (.lst (cutR l lo hi))) S
  | a => match itemsL S a with
    | some rs => mkL m (cutR rs lo hi) S
    | none => .stuck
def lookA {α : Type} (f : Str) : List Str → List α → Option α
  | n :: ns, d :: ds => if n = f then some d else lookA f ns ds
  | _, _ => none
def attrR (r : R) (c f : Str) : M R := fun S => match r with
  | .dat (.obj c' ns l) => if c' = c then (match lookA f ns l with
    | some d => .ok (.dat d) S
    | none => .stuck) else .stuck
  | .own k => (match S[k]? with
    | some (.obj c' ns rs) => if c' = c then (match lookA f ns rs with
      | some r => .ok r S
      | none => .stuck) else .stuck
    | _ => .stuck)
  | _ => .stuck
def maxI : List Int → Int
  | [] => 0
  | x :: xs => xs.foldl max x
def minI : List Int → Int
  | [] => 0
  | x :: xs => xs.foldl min x
def biR (m : Bool) (f : Bf) (rs : List R) : M R := fun S => match f, rs with
  | .int, [.dat (.int i)] => .ok (.dat (.int i)) S
  | .int, [.dat (.bl b)] => .ok (.dat (.int (if b then 1 else 0))) S
  | .abs, [.dat (.int i)] => .ok (.dat (.int (if i < 0 then -i else i))) S
  | .max, [.dat (.int i), .dat (.int j)] => .ok (.dat (.int (max i j))) S
  | .min, [.dat (.int i), .dat (.int j)] => .ok (.dat (.int (min i j))) S
  | .len, [a] => (match itemsR S a with
    | some xs => .ok (.dat (.int xs.length)) S
    | none => .stuck)
  | .sum, [a] => (match (itemsR S a).bind intsR with
    | some xs => .ok (.dat (.int xs.sum)) S
    | none => .stuck)
  | .max, [a] => (match (itemsL S a).bind intsR with
    | some (x :: xs) => .ok (.dat (.int (maxI (x :: xs)))) S
    | _ => .stuck)
  | .min, [a] => (match (itemsL S a).bind intsR with
    | some (x :: xs) => .ok (.dat (.int (minI (x :: xs)))) S
    | _ => .stuck)
  | .all, [a] => (match (itemsL S a).bind blsR with
    | some xs => .ok (.dat (.bl (xs.all id))) S
    | none => .stuck)
  | .tuple, [a] => if isTup S a = true then .ok a S else (match itemsR S a with
      | some xs => mkT xs S
      | none => .stuck)
  | .list, [a] => (match itemsR S a with
    | some xs => mkL m xs S
    | none => .stuck)
  | _, _ => .stuck
def gcdR (lcm : Bool) (a b : R) : M R := fun S => match a, b with
  | .dat (.int i), .dat (.int j) => if lcm then (if decide (i.natAbs.log2 < 9000 ∧ j.natAbs.log2 < 9000) then .ok (.dat (.int (Nat.lcm i.natAbs j.natAbs))) S else .stuck)
    else .ok (.dat (.int (Nat.gcd i.natAbs j.natAbs))) S
  | _, _ => .stuck
/-- the methods of lists that stand in a cell -/
def lmR (o : R) (n : Lm) (rs : List R) : M R := fun S => match o with
  | .own k => (match S[k]? with
    | some (.lst xs) => (match n, rs with
      | .pop, [] => (match xs[xs.length - 1]? with
          | some y => .ok y (S.set k (.lst xs.dropLast))
          | none => .stuck)
      | .append, [r] => if small xs.length = true then .ok (.dat .non) (S.set k (.lst (xs ++ [r]))) else .stuck
      | .pop, [.dat (.int i)] => if i = 0 then (match xs with
              | y :: ys => .ok y (S.set k (.lst ys))
              | [] => .stuck) else .stuck
      | _, _ => .stuck)
    | _ => .stuck)
  | _ => .stuck
def lmRecv (o : R) : M Unit := fun S => match o with
  | .own k => (match S[k]? with
    | some (.lst _) => .ok () S
    | _ => .stuck)
  | _ => .stuck
def tyR (S : Store) : R → Option BTy
  | .dat (.int _) => some .int
  | .dat (.bl _) => some .bool
  | .dat (.str _) => some .str
  | .dat (.lst _) => some .list
  | .dat (.tup _) => some .tuple
  | .own k => match S[k]? with
    | some (.lst _) => some .list
    | some (.tup _) => some .tuple
    | _ => none
  | _ => none
def isTy (t T : BTy) : Bool := decide (t = T) || (decide (t = .bool) && decide (T = .int))
/-! ### items, targets -/
inductive Itm where
  | one (r : R)
  | tup (rs : List R)
abbrev Gd := List (Nat × Cell)
open Classical in
/-- the lists that are walked stand as they stood -/
noncomputable def gdOk (S : Store) (g : Gd) : Bool := decide (∀ q ∈ g, S[q.1]? = some q.2)
def setM : List (Nat × Str × Pos) → List R → Env → Option Env
  | [], [], ρ => some ρ
  | q :: l, r :: rs, ρ => setM l rs (ρ.set q.1 (some r))
  | _, _, _ => none
def bindT (t : IT) (x : Itm) (ρ : Env) (S : Store) : Option Env := match t, x with
  | .one i _ _, .one r => some (ρ.set i (some r))
  | .many l _ _, .tup rs => setM l rs ρ
  | .many l _ _, .one (.dat (.tup ds)) => setM l (ds.map .dat) ρ
  | .many l _ _, .one (.own k) => (match S[k]? with
    | some (.tup rs) => setM l rs ρ
    | _ => none)
  | _, _ => none
def guardR (S : Store) : R → Gd
  | .own k => match S[k]? with
    | some c => [(k, c)]
    | none => []
  | _ => []
def wipeE (ρ : Env) : List Nat → Env
  | [] => ρ
  | v :: vs => (wipeE ρ vs).set v none
/-! ### calls -/
structure Calls where
  fn : Nat → List R → M R
  sub : Str → Str → Option Bool
  xf : Str → Str → Bool
  ins : Str → Str → Option Bool
/-- names of built-in types: an instance's class has none of them -/
def bNames : List Str := ["int", "bool", "str", "list", "tuple", "NoneType"]
def tyN (S : Store) : R → Option Str
  | .dat (.obj c _ _) => if c ∈ bNames then none else some c
  | .dat .non => some "NoneType"
  | .dat d => (tyR S (.dat d)).map BTy.x
  | .own k => (match S[k]? with
    | some (.obj c _ _) => if c ∈ bNames then none else some c
    | _ => (tyR S (.own k)).map BTy.x)
  | _ => none
def pick (pm : List Nat) (rs : List R) : Option (List R) := pm.mapM fun i => rs[i]?
noncomputable def lcLoop (g : Gd) (f : Itm → M (List R)) : List Itm → M (List R)
  | [] => fun S => if gdOk S g = true then .ok [] S else .stuck
  | x :: xs => M.bind (f x) fun a => M.bind (lcLoop g f xs) fun b => M.pure (a ++ b)
end MP
set_option Elab.async false
set_option linter.all false
set_option maxRecDepth 100000
set_option maxHeartbeats 4000000
/-! MPEval: what the code evaluates to. -/
namespace MP
open PySem PySem.Spec PyProof.Rows L2
noncomputable section
def truB : R → M Bool
  | .dat (.bl b) => M.pure b
  | _ => M.stuck
def optI : List R → M (Option Int)
  | [] => M.pure none
  | [.dat (.int i)] => M.pure (some i)
  | _ => M.stuck
def getV (ρ : Env) (i : Nat) : M R := match ρ[i]? with
  | some (some (.dat d)) => M.pure (.dat d)
  | some (some (.own k)) => M.pure (.own k)
  | _ => M.stuck
/-- isinstance(x, C), C an own class -/
def isCR (C : Calls) (r : R) (c : Str) : M R := fun S => match tyN S r with
  | some n => (match C.ins n c with
    | some b => .ok (.dat (.bl b)) S
    | none => .stuck)
  | none => .stuck
def isTR (r : R) (T : BTy) : M R := fun S => match r with
  | .dat .non => .ok (.dat (.bl false)) S
  | r => (match tyR S r with
    | some t => .ok (.dat (.bl (isTy t T))) S
    | none => .stuck)
def xIsR (C : Calls) (ρ : Env) (i : Nat) (c : Str) : M R := match ρ[i]? with
  | some (some (.exc c' _ _)) => (match C.sub c' c with
    | some b => M.pure (.dat (.bl b))
    | none => M.stuck)
  | _ => M.stuck
def xAtR (C : Calls) (ρ : Env) (i : Nat) (f : Str) : M R := match ρ[i]? with
  | some (some (.exc c ns l)) => if C.xf c f = true then (match lookA f ns l with
    | some d => M.pure (.dat d)
    | none => M.stuck) else M.stuck
  | _ => M.stuck
/-- a new instance, its __init__ -/
def makeR (C : Calls) (m : Bool) (f : Nat) (c : Str) (rs : List R) : M R := fun S => match C.fn f (.own S.length :: rs) (S ++ [.obj c [] []]) with
  | .ok (.dat .non) S' => if m = true then .ok (.own S.length) S' else
      (if (S'.take S.length).all (Cell.below S.length) = true ∧ S.length ≤ S'.length then (match toD S.length S' 8 (.own S.length) with
        | some d => .ok (.dat d) (S'.take S.length)
        | none => .stuck) else .stuck)
  | .exc c' ns l S' => .exc c' ns l S'
  | _ => .stuck
/-- an instance's method -/
def methR (C : Calls) (f : Nat) (c : Str) (rs : List R) : M R := fun S => match rs with
  | .dat (.obj c' _ _) :: _ => if c' = c then C.fn f rs S else .stuck
  | .own k :: _ => (match S[k]? with
    | some (.obj c' _ _) => if c' = c then C.fn f rs S else .stuck
    | _ => .stuck)
  | _ => .stuck
/-- an instance of the class -/
def objR {α : Type} (c : Str) (x : R) (m : M α) : M α := fun S => match x with
  | .dat (.obj c' _ _) => if c' = c then m S else .stuck
  | .own k => (match S[k]? with
    | some (.obj c' _ _) => if c' = c then m S else .stuck
    | _ => .stuck)
  | _ => .stuck
def zipI : List R → List R → List Itm
  | a :: as, b :: bs => .tup [a, b] :: zipI as bs
  | _, _ => []
def zipI3 : List R → List R → List R → List Itm
  | a :: as, b :: bs, c :: cs => .tup [a, b, c] :: zipI3 as bs cs
  | _, _, _ => []
def enumI : Nat → List R → List Itm
  | _, [] => []
  | n, a :: as => .tup [.dat (.int n), a] :: enumI (n + 1) as
def rngI (lo : Int) : Nat → List Itm
  | 0 => []
  | n + 1 => .one (.dat (.int lo)) :: rngI (lo + 1) n
def rngOk (i : Int) : Bool := decide (-1000000 ≤ i ∧ i ≤ 1000000)
def walkR (r : R) : M (List R) := fun S => match r, itemsR S r with
  | .dat (.lst _), some rs => .ok rs S
  | .dat (.tup _), some rs => .ok rs S
  | .own k, some rs => .ok rs S
  | _, _ => .stuck
def lcTurn (t : IT) (g : Gd) (cond : Env → M Bool) (el : Env → M (List R)) (ρ : Env) (x : Itm) : M (List R) := fun S =>
  if gdOk S g = true then (match bindT t x ρ S with
    | some ρ' => M.noX (M.bind (cond ρ') fun b => if b = true then el ρ' else M.pure []) S
    | none => .stuck) else .stuck
/-- what a comprehension has made -/
def lcOut (m : Bool) (l : List R) : M R := if small l.length = true then mkL m l else M.stuck
/-- x in xs: flat things (numbers, texts, truth values, None) -/
def flatD : D → Bool
  | .non => true
  | .bl _ => true
  | .int _ => true
  | .str _ => true
  | _ => false
def eqF : D → D → Option Bool
  | .int i, .int j => some (decide (i = j))
  | .str i, .str j => some (decide (i = j))
  | _, _ => none
/-- of one kind: numbers, or texts -/
def inF (x : D) : List R → Option Bool
  | [] => some false
  | .dat y :: r => (match eqF x y, inF x r with
    | some b, some c => some (b || c)
    | _, _ => none)
  | _ => none
def inR (n : Bool) (x y : R) : M R := fun S => match x, itemsR S y with
  | .dat d, some rs => if flatD d = true then (match inF d rs with
    | some b => .ok (.dat (.bl (if n then !b else b))) S
    | none => .stuck) else .stuck
  | _, _ => .stuck
/-- an instance of the class, without an attribute of its own of that name -/
def recvR (c n : Str) (x : R) : M Unit := fun S => match x with
  | .dat (.obj c' ns _) => if c' = c ∧ n ∉ ns then .ok () S else .stuck
  | .own k => (match S[k]? with
    | some (.obj c' ns _) => if c' = c ∧ n ∉ ns then .ok () S else .stuck
    | _ => .stuck)
  | _ => .stuck
def intsD (ds : List Int) : List R := ds.map fun i => .dat (.int i)
mutual
def evE (C : Calls) : IE → Env → M R
  | .var i _ _, ρ => getV ρ i
  | .int i _ _, _ => M.pure (.dat (.int i))
  | .bl b _ _, _ => M.pure (.dat (.bl b))
  | .non _ _, _ => M.pure (.dat .non)
  | .str s _ _, _ => M.pure (.dat (.str s))
  | .gint i _ _, _ => M.pure (.dat (.int i))
  | .bin m op a b _, ρ => M.bind (evE C a ρ) fun x => M.bind (evE C b ρ) fun y => binR m op x y
  | .neg a _, ρ => M.bind (evE C a ρ) fun x => match x with
    | .dat (.int i) => M.pure (.dat (.int (-i)))
    | _ => M.stuck
  | .cmp op a b _, ρ => M.bind (evE C a ρ) fun x => M.bind (evE C b ρ) fun y => cmpR op x y
  | .isN n a _ _ _, ρ => M.bind (evE C a ρ) fun x => match x with
    | .dat .non => M.pure (.dat (.bl (!n)))
    | .dat _ => M.pure (.dat (.bl n))
    | _ => M.stuck
  | .not a _, ρ => M.bind (M.bind (evE C a ρ) truB) fun b => M.pure (.dat (.bl (!b)))
  | .and a r _, ρ => match r with
    | .nil => evE C a ρ
    | .cons _ _ => M.bind (M.bind (evE C a ρ) truB) fun b => if b = true then evAnd C r ρ else M.pure (.dat (.bl false))
  | .or a r _, ρ => match r with
    | .nil => evE C a ρ
    | .cons _ _ => M.bind (M.bind (evE C a ρ) truB) fun b => if b = true then M.pure (.dat (.bl true)) else evOr C r ρ
  | .ifx c a b _, ρ => M.bind (M.bind (evE C c ρ) truB) fun t => if t = true then evE C a ρ else evE C b ρ
  | .lst m es _, ρ => M.bind (evEs C es ρ) (mkL m)
  | .tup es _ _, ρ => M.bind (evEs C es ρ) mkT
  | .ix a i _, ρ => M.bind (evE C a ρ) fun x => M.bind (evE C i ρ) fun y => ixR x y
  | .sl m a lo hi _ _, ρ => M.bind (evE C a ρ) fun x => M.bind (M.bind (evEs C lo ρ) optI) fun l => M.bind (M.bind (evEs C hi ρ) optI) fun h => slR m x l h
  | .attr a c f _, ρ => M.bind (evE C a ρ) fun x => attrR x c f
  | .call f _ a es _ _, ρ => M.bind (evE C a ρ) fun x => M.bind (evEs C es ρ) fun xs => C.fn f (x :: xs)
  | .callK f _ a es kw pm _ _, ρ => M.bind (evE C a ρ) fun x => M.bind (evEs C es ρ) fun xs => M.bind (evKs C kw ρ) fun ys => match pick pm (x :: xs ++ ys) with
    | some zs => C.fn f zs
    | none => M.stuck
  | .callKK f _ kw pm _ _, ρ => M.bind (evKs C kw ρ) fun ys => match pick pm ys with
    | some zs => C.fn f zs
    | none => M.stuck
  | .bi m f a es _ _, ρ => M.bind (evE C a ρ) fun x => M.bind (evEs C es ρ) fun xs => biR m f (x :: xs)
  | .gcd l a b _ _, ρ => M.bind (evE C a ρ) fun x => M.bind (evE C b ρ) fun y => gcdR l x y
  | .make m f c a es _ _, ρ => M.bind (evE C a ρ) fun x => M.bind (evEs C es ρ) fun xs => makeR C m f c (x :: xs)
  | .meth f c o n es _ _, ρ => M.bind (evE C o ρ) fun x => M.bind (recvR c n x) fun _ => M.bind (evEs C es ρ) fun xs => C.fn f (x :: xs)
  | .callD f _ a es ds _ _, ρ => M.bind (evE C a ρ) fun x => M.bind (evEs C es ρ) fun xs => C.fn f (x :: xs ++ intsD ds)
  | .makeD m f c a es ds _ _, ρ => M.bind (evE C a ρ) fun x => M.bind (evEs C es ρ) fun xs => makeR C m f c (x :: xs ++ intsD ds)
  | .opm f c _ a b _, ρ => M.bind (evE C a ρ) fun x => M.bind (evE C b ρ) fun y => objR c y (methR C f c [x, y])
  | .prop f c o _ _, ρ => M.bind (evE C o ρ) fun x => M.noX (methR C f c [x])
  | .chain op op2 a b c _, ρ => M.bind (evE C a ρ) fun x => M.bind (evE C b ρ) fun y => M.bind (M.bind (cmpR op x y) truB) fun t => if t = true then M.bind (evE C c ρ) fun z => cmpR op2 y z else M.pure (.dat (.bl false))
  | .inn n a b _, ρ => M.bind (evE C a ρ) fun x => M.bind (evE C b ρ) fun y => inR n x y
  | .lmeth o n es _ _, ρ => M.bind (evE C o ρ) fun x => M.bind (lmRecv x) fun _ => M.bind (evEs C es ρ) fun xs => lmR x n xs
  | .isT a T _ _ _, ρ => M.bind (evE C a ρ) fun x => isTR x T
  | .isC a c _ _ _, ρ => M.bind (evE C a ρ) fun x => isCR C x c
  | .xIs i _ c _ _ _ _, ρ => xIsR C ρ i c
  | .xAt i _ f _ _, ρ => xAtR C ρ i f
  | .lc m e t it cs own _ _, ρ => M.bind (evII C it ρ) fun q => M.bind (lcLoop q.2 (lcTurn t q.2 (fun ρ' => evTs C cs ρ') (fun ρ' => M.bind (evE C e ρ') fun r => M.pure [r]) (wipeE ρ (own.map (·.2)))) q.1) (lcOut m)
  | .lc2 m e t it cs t2 it2 cs2 own vs2 _ _, ρ => M.bind (evII C it ρ) fun q =>
      M.bind (lcLoop q.2 (lcTurn t q.2 (fun ρ' => evTs C cs ρ') (fun ρ' => M.bind (evII C it2 ρ') fun q2 =>
        lcLoop q2.2 (lcTurn t2 q2.2 (fun ρ2 => evTs C cs2 ρ2) (fun ρ2 => M.bind (evE C e ρ2) fun r => M.pure [r]) (wipeE ρ' vs2)) q2.1) (wipeE ρ (own.map (·.2)))) q.1) (lcOut m)
def evEs (C : Calls) : IEs → Env → M (List R)
  | .nil, _ => M.pure []
  | .cons e r, ρ => M.bind (evE C e ρ) fun x => M.bind (evEs C r ρ) fun xs => M.pure (x :: xs)
def evKs (C : Calls) : IKs → Env → M (List R)
  | .nil, _ => M.pure []
  | .cons _ e _ r, ρ => M.bind (evE C e ρ) fun x => M.bind (evKs C r ρ) fun xs => M.pure (x :: xs)
/-- the rest of and, or: values -/
def evAnd (C : Calls) : IEs → Env → M R
  | .nil, _ => M.stuck
  | .cons e r, ρ => match r with
    | .nil => evE C e ρ
    | .cons _ _ => M.bind (M.bind (evE C e ρ) truB) fun b => if b = true then evAnd C r ρ else M.pure (.dat (.bl false))
def evOr (C : Calls) : IEs → Env → M R
  | .nil, _ => M.stuck
  | .cons e r, ρ => match r with
    | .nil => evE C e ρ
    | .cons _ _ => M.bind (M.bind (evE C e ρ) truB) fun b => if b = true then M.pure (.dat (.bl true)) else evOr C r ρ
/-- a comprehension's ifs: none or one -/
def evTs (C : Calls) : IEs → Env → M Bool
  | .nil, _ => M.pure true
  | .cons e r, ρ => match r with
    | .nil => M.bind (evE C e ρ) truB
    | .cons _ _ => M.stuck
def evII (C : Calls) : II → Env → M (List Itm × Gd)
  | .of e, ρ => M.bind (evE C e ρ) fun x => M.bind (walkR x) fun rs => fun S => .ok (rs.map .one, guardR S x) S
  | .rng1 a _ _, ρ => M.bind (evE C a ρ) fun x => match x with
    | .dat (.int i) => if rngOk i = true then M.pure (rngI 0 i.toNat, []) else M.stuck
    | _ => M.stuck
  | .rng2 a b _ _, ρ => M.bind (evE C a ρ) fun x => M.bind (evE C b ρ) fun y => match x, y with
    | .dat (.int i), .dat (.int j) => if rngOk i = true ∧ rngOk j = true then M.pure (rngI i (j - i).toNat, []) else M.stuck
    | _, _ => M.stuck
  | .enum a _ _, ρ => M.bind (evE C a ρ) fun x => M.bind (walkR x) fun rs => fun S => .ok (enumI 0 rs, guardR S x) S
  | .zip a b _ _, ρ => M.bind (evE C a ρ) fun x => M.bind (evE C b ρ) fun y => M.bind (walkR x) fun rs => M.bind (walkR y) fun qs => fun S => .ok (zipI rs qs, guardR S x ++ guardR S y) S
  | .zip3 a b c _ _, ρ => M.bind (evE C a ρ) fun x => M.bind (evE C b ρ) fun y => M.bind (evE C c ρ) fun z => M.bind (walkR x) fun rs => M.bind (walkR y) fun qs => M.bind (walkR z) fun ts => fun S =>
      .ok (zipI3 rs qs ts, guardR S x ++ guardR S y ++ guardR S z) S
end

/-! ### statements -/
inductive Fl where
  | next | brk | cont
  | ret (r : R)
inductive SRes where
  | go (f : Fl) (ρ : Env) (S : Store)
  | exc (c : Str) (ns : List Str) (l : List D) (ρ : Env) (S : Store)
  | stuck
def SRes.of {α : Type} (ρ : Env) (r : Res α) (k : α → Store → SRes) : SRes := match r with
  | .ok a S => k a S
  | .exc c ns l S => .exc c ns l ρ S
  | .stuck => .stuck
def forL (t : IT) (g : Gd) (body : Env → Store → SRes) : List Itm → Env → Store → SRes
  | [], ρ, S => if gdOk S g = true then .go .next ρ S else .stuck
  | x :: xs, ρ, S => if gdOk S g = true then (match bindT t x ρ S with
    | some ρ1 => (match body ρ1 S with
      | .go .next ρ2 S2 => forL t g body xs ρ2 S2
      | .go .cont ρ2 S2 => forL t g body xs ρ2 S2
      | .go .brk ρ2 S2 => .go .next ρ2 S2
      | .go (.ret r) ρ2 S2 => .go (.ret r) ρ2 S2
      | .exc c ns l ρ2 S2 => .exc c ns l ρ2 S2
      | .stuck => .stuck)
    | none => .stuck) else .stuck
def whileN (c : Env → M Bool) (body : Env → Store → SRes) : Nat → Env → Store → Option SRes
  | 0, _, _ => none
  | n + 1, ρ, S => match c ρ S with
    | .ok true S1 => (match body ρ S1 with
      | .go .next ρ2 S2 => whileN c body n ρ2 S2
      | .go .cont ρ2 S2 => whileN c body n ρ2 S2
      | .go .brk ρ2 S2 => some (.go .next ρ2 S2)
      | .go (.ret r) ρ2 S2 => some (.go (.ret r) ρ2 S2)
      | .exc c ns l ρ2 S2 => some (.exc c ns l ρ2 S2)
      | .stuck => some .stuck)
    | .ok false S1 => some (.go .next ρ S1)
    | .exc c ns l S1 => some (.exc c ns l ρ S1)
    | .stuck => some .stuck
open Classical in
def whileX (c : Env → M Bool) (body : Env → Store → SRes) (ρ : Env) (S : Store) : SRes :=
  if h : ∃ n r, whileN c body n ρ S = some r then h.choose_spec.choose else .stuck
/-- a store by index, a field -/
def setIxR (a i v : R) : M Unit := fun S => match a, i with
  | .own k, .dat (.int i) => (match S[k]? with
    | some (.lst rs) => (match ixN rs.length i with
      | some j => .ok () (S.set k (.lst (rs.set j v)))
      | none => .stuck)
    | _ => .stuck)
  | _, _ => .stuck
def putN (f : Str) (v : R) : List Str → List R → List Str × List R
  | n :: ns, r :: rs => if n = f then (n :: ns, v :: rs) else (n :: (putN f v ns rs).1, r :: (putN f v ns rs).2)
  | ns, rs => (ns ++ [f], rs ++ [v])
def setAtR (o : R) (c f : Str) (v : R) : M Unit := fun S => match o with
  | .own k => (match S[k]? with
    | some (.obj c' ns rs) => if c' = c ∧ ns.length < 900 then .ok () (S.set k (.obj c (putN f v ns rs).1 (putN f v ns rs).2)) else .stuck
    | _ => .stuck)
  | _ => .stuck
/-- an exception's fields: each kept as it is, or by way of the module's own def _kept (here: numbers alone) -/
structure XC where
  fs : List (Str × Bool)
def kept1 (k : Bool) (r : R) : M R := if k = true then (match r with
    | .dat (.int i) => M.pure (.dat (.int i))
    | _ => M.stuck) else M.pure r
def keptAll : List (Str × Bool) → List R → M (List D)
  | [], [] => M.pure []
  | k :: ks, r :: rs => M.bind (kept1 k.2 r) fun x => match x with
    | .dat d => M.bind (keptAll ks rs) fun ds => M.pure (d :: ds)
    | _ => M.stuck
  | _, _ => M.stuck
structure CallsX extends Calls where
  xc : Str → Option XC
def raiseR (C : CallsX) (c : Str) (rs : List R) : M Unit := match C.xc c with
  | some X => M.bind (keptAll X.fs rs) fun ds => fun S => .exc c (X.fs.map (·.1)) ds S
  | none => M.stuck
def dropX (ρ : Env) : Env := ρ.map fun r => match r with
  | some (.exc _ _ _) => none
  | r => r
mutual
def evS (C : CallsX) : IS → Env → Store → SRes
  | .asg t e _, ρ, S => SRes.of ρ (evE C.toCalls e ρ S) fun r S1 => (match bindT t (.one r) ρ S1 with
    | some ρ1 => .go .next ρ1 S1
    | none => .stuck)
  | .aug i _ op e _ _, ρ, S => SRes.of ρ ((M.bind (getV ρ i) fun x => M.bind (evE C.toCalls e ρ) fun y => match x, y with
      | .dat (.int _), .dat (.int _) => binR false op x y
      | _, _ => M.stuck) S) fun r S1 => .go .next (ρ.set i (some r)) S1
  | .setIx a i e _ _, ρ, S => SRes.of ρ ((M.bind (evE C.toCalls e ρ) fun v => M.bind (evE C.toCalls a ρ) fun x => M.bind (evE C.toCalls i ρ) fun y => setIxR x y v) S) fun _ S1 => .go .next ρ S1
  | .setAt o c f e _ _, ρ, S => SRes.of ρ ((M.bind (evE C.toCalls e ρ) fun v => M.bind (evE C.toCalls o ρ) fun x => setAtR x c f v) S) fun _ S1 => .go .next ρ S1
  | .expr e _, ρ, S => SRes.of ρ (evE C.toCalls e ρ S) fun _ S1 => .go .next ρ S1
  | .ret e _, ρ, S => SRes.of ρ (evE C.toCalls e ρ S) fun r S1 => .go (.ret r) ρ S1
  | .ite c a b _, ρ, S => SRes.of ρ ((M.bind (evE C.toCalls c ρ) truB) S) fun t S1 => if t = true then evSs C a ρ S1 else evSs C b ρ S1
  | .for_ t it b _, ρ, S => SRes.of ρ (evII C.toCalls it ρ S) fun q S1 => forL t q.2 (fun ρ' S' => evSs C b ρ' S') q.1 ρ S1
  | .while_ c b _, ρ, S => whileX (fun ρ' => M.bind (evE C.toCalls c ρ') truB) (fun ρ' S' => evSs C b ρ' S') ρ S
  | .raise c _ a _ _ _, ρ, S => match C.xc c with
    | none => .stuck
    | some _ => SRes.of ρ ((M.bind (evEs C.toCalls a ρ) fun rs => raiseR C c rs) S) fun _ _ => .stuck
  | .pass _, ρ, S => .go .next ρ S
  | .brk _, ρ, S => .go .brk ρ S
  | .cont _, ρ, S => .go .cont ρ S
  | .try1 b c i _ s _ _ h _, ρ, S => match evSs C b ρ S with
    | .exc c' ns l ρ1 S1 => (match C.sub c' c with
      | some true => (match evSs C s (ρ1.set i (some (.exc c' ns l))) S1 with
        | .go f ρ2 S2 => .go f ((dropX ρ2).set i none) S2
        | _ => .stuck)
      | _ => .stuck)
    | r => r
def evSs (C : CallsX) : ISs → Env → Store → SRes
  | .nil, ρ, S => .go .next ρ S
  | .cons s r, ρ, S => match evS C s ρ S with
    | .go .next ρ1 S1 => evSs C r ρ1 S1
    | x => x
end
/-! ### functions -/
structure Fn where
  name : Str
  np : Nat
  N : List Str
  sc : Scope
  body : ISs
  /-- what it has made stays the caller's to change -/
  keep : Bool := false
structure Tab where
  fns : List Fn
  sub : Str → Str → Option Bool
  xf : Str → Str → Bool
  xc : Str → Option XC
  ins : Str → Str → Option Bool
/-- a call's end: the cells that were made are given up -/
def sealR (m : Nat) (r : R) (S : Store) : Res R := if (S.take m).all (Cell.below m) = true ∧ m ≤ S.length then (match r with
    | .own k => if k < m then .ok (.own k) (S.take m) else (match toD m S 8 (.own k) with
      | some d => .ok (.dat d) (S.take m)
      | none => .stuck)
    | .dat d => .ok (.dat d) (S.take m)
    | _ => .stuck) else .stuck
def sealS (m : Nat) : SRes → Res R
  | .go (.ret r) _ S => sealR m r S
  | .go .next _ S => sealR m (.dat .non) S
  | .exc c ns l _ S => if (S.take m).all (Cell.below m) = true ∧ m ≤ S.length then .exc c ns l (S.take m) else .stuck
  | _ => .stuck
/-- a call's end where the cells that were made are kept -/
def openS : SRes → Res R
  | .go (.ret r) _ S => (match r with
    | .exc _ _ _ => .stuck
    | r => .ok r S)
  | .go .next _ S => .ok (.dat .non) S
  | .exc c ns l _ S => .exc c ns l S
  | _ => .stuck
def sealF (k : Bool) (m : Nat) (x : SRes) : Res R := match k with
  | true => openS x
  | false => sealS m x
def start (F : Fn) (rs : List R) : Env := rs.map some ++ List.replicate (F.N.length - rs.length) none
def runF (C : CallsX) (F : Fn) (rs : List R) : M R := fun S => if rs.length = F.np then sealF F.keep S.length (evSs C F.body (start F rs) S) else .stuck
def callN (T : Tab) : Nat → Nat → List R → M R
  | 0, _, _ => M.stuck
  | n + 1, f, rs => match T.fns[f]? with
    | some F => runF ⟨⟨callN T n, T.sub, T.xf, T.ins⟩, T.xc⟩ F rs
    | none => M.stuck
def Tab.C (T : Tab) (n : Nat) : CallsX := ⟨⟨callN T n, T.sub, T.xf, T.ins⟩, T.xc⟩
end
end MP
set_option Elab.async false
set_option linter.all false
set_option maxRecDepth 100000
set_option maxHeartbeats 4000000
/-! MPRules: the hand layer's rules, told of the evaluation. -/
namespace MP
open PySem PySem.Spec PyProof.Rows L2

/-- an exception's own dict holds its fields -/
def ExcD (K : PySem.W.Frag) (w : Wd) (ns : List Str) (l : List D) (d : Option Addr) : Prop :=
  (ns = [] ∧ d = none) ∨ ∃ dd fs, d = some dd ∧ ¬ w.Live dd ∧ w.H dd = some (.xd fs) ∧ ∀ f x, lookA f ns l = some x → ∃ v, fs.lookup f = some v ∧ Rep K w x v
theorem ExcD.mono {K : PySem.W.Frag} {w w' : Wd} {ns : List Str} {l : List D} {d : Option Addr} (x : Mono w w') (h : ExcD K w ns l d) : ExcD K w' ns l d := by
  rcases h with h | ⟨dd, fs, e, nl, hd, hf⟩
  · exact .inl h
  · refine .inr ⟨dd, fs, e, (x.keep _ _ nl hd).1, (x.keep _ _ nl hd).2, fun f y hy => ?_⟩
    obtain ⟨v, h1, h2⟩ := hf f y hy
    exact ⟨v, h1, Rep.imp x.keep _ _ h2⟩
theorem ExcD.dict {K : PySem.W.Frag} {w : Wd} {ns : List Str} {l : List D} {d : Option Addr} (h : ExcD K w ns l d) : d = none ∨ ∃ dd fs, d = some dd ∧ w.H dd = some (.xd fs) := by
  rcases h with h | ⟨dd, fs, e, nl, hd, hf⟩
  · exact .inl h.2
  · exact .inr ⟨dd, fs, e, hd⟩
def Hop {α β : Type} (K : PySem.W.Frag) (rel : Wd → α → β → Prop) (E : XK) (w : Wd) (Q : β → Hp → Prop) : Res α → Prop
  | .ok a S' => ∀ w' v, Ext w w' → SR K w' S' → rel w' a v → Q v w'.H
  | .exc c ns l S' => ∀ w' d, Ext w w' → SR K w' S' → ExcD K w' ns l d → E (.ref (He.ga K c)) d w'.H
  | .stuck => False
section
variable {K : PySem.W.Frag} {α β γ δ : Type} {r1 : Wd → α → β → Prop} {r2 : Wd → γ → δ → Prop} {E : XK} {w w1 : Wd} {Q : δ → Hp → Prop} {Q1 : β → Hp → Prop} {m : M α} {f : α → M γ} {S : Store}
theorem Hop.ext {x : Res γ} (e : Ext w w1) (h : Hop K r2 E w Q x) : Hop K r2 E w1 Q x := by
  cases x with
  | ok a S' => exact fun w' v x s r => h w' v (e.trans x) s r
  | exc c ns l S' => exact fun w' d x s r => h w' d (e.trans x) s r
  | stuck => exact h
theorem Hop.bind (h : Hop K r2 E w Q (M.bind m f S)) (k : ∀ w1 a v S1, Ext w w1 → SR K w1 S1 → r1 w1 a v → Hop K r2 E w1 Q (f a S1) → Q1 v w1.H) : Hop K r1 E w Q1 (m S) := by
  unfold M.bind at h
  cases e : m S with
  | ok a S1 =>
    rw [e] at h
    exact fun w1 v x s r => k w1 a v S1 x s r (Hop.ext x h)
  | exc c ns l S1 =>
    rw [e] at h
    exact h
  | stuck =>
    rw [e] at h
    exact h
end
theorem bind_assoc {α β γ : Type} (m : M α) (f : α → M β) (g : β → M γ) : M.bind (M.bind m f) g = M.bind m fun a => M.bind (f a) g := by
  funext S
  unfold M.bind
  cases m S <;> rfl
theorem pure_bind {α β : Type} (a : α) (f : α → M β) : M.bind (M.pure a) f = f a := rfl

abbrev XR := Wd → Str → List Str → List D → V → Prop
def RelX (K : PySem.W.Frag) (xr : XR) (w : Wd) : R → V → Prop
  | .exc c ns l, v => xr w c ns l v
  | .dat d, v => Rel K w (.dat d) v
  | .own k, v => Rel K w (.own k) v
structure EnvR (K : PySem.W.Frag) (xr : XR) (w : Wd) (σ : St) (ρ : MP.Env) : Prop where
  len : ρ.length = σ.length
  get : ∀ (i : Nat) (r : R), ρ[i]? = some (some r) → ∃ v, σ[i]? = some (some v) ∧ RelX K xr w r v
def XR.Ok (xr : XR) : Prop := ∀ w w' c ns l v, Mono w w' → xr w c ns l v → xr w' c ns l v
theorem RelX.mono {K : PySem.W.Frag} {xr : XR} {w w' : Wd} (hx : xr.Ok) (x : Mono w w') : ∀ {r : R} {v : V}, RelX K xr w r v → RelX K xr w' r v
  | .exc _ _ _, _, h => hx _ _ _ _ _ _ x h
  | .dat _, _, h => Rel.mono (K := K) (r := .dat _) x h
  | .own _, _, h => Rel.mono (K := K) (r := .own _) x h
theorem Rel.toX {K : PySem.W.Frag} {xr : XR} {w : Wd} : ∀ {r : R} {v : V}, Rel K w r v → RelX K xr w r v
  | .exc _ _ _, _, h => h.elim
  | .dat _, _, h => h
  | .own _, _, h => h
section
variable {K : PySem.W.Frag} {xr : XR} {w w' : Wd} {σ : St} {ρ : MP.Env}
theorem EnvR.mono (e : EnvR K xr w σ ρ) (hx : xr.Ok) (x : Mono w w') : EnvR K xr w' σ ρ :=
  ⟨e.len, fun i r h => let ⟨v, h1, h2⟩ := e.get i r h; ⟨v, h1, h2.mono hx x⟩⟩
theorem EnvR.ext (e : EnvR K xr w σ ρ) (hx : xr.Ok) (x : Ext w w') : EnvR K xr w' σ ρ := e.mono hx x.mono
theorem EnvR.set {i : Nat} {r : R} {v : V} (e : EnvR K xr w σ ρ) (h : RelX K xr w r v) : EnvR K xr w (σ.set i (some v)) (ρ.set i (some r)) := by
  refine ⟨by rw [List.length_set, List.length_set]; exact e.len, fun j q hq => ?_⟩
  by_cases hj : i = j
  · subst hj
    by_cases hl : i < ρ.length
    · rw [List.getElem?_set_self hl] at hq
      cases hq
      exact ⟨v, by rw [List.getElem?_set_self (by rw [← e.len]; exact hl)], h⟩
    · rw [List.getElem?_eq_none (by rw [List.length_set]; omega)] at hq
      cases hq
  · rw [List.getElem?_set_ne hj] at hq
    obtain ⟨u, h1, h2⟩ := e.get j q hq
    exact ⟨u, by rw [List.getElem?_set_ne hj]; exact h1, h2⟩
theorem EnvR.unset {i : Nat} (e : EnvR K xr w σ ρ) : EnvR K xr w (σ.set i none) (ρ.set i none) := by
  refine ⟨by rw [List.length_set, List.length_set]; exact e.len, fun j q hq => ?_⟩
  by_cases hj : i = j
  · subst hj
    by_cases hl : i < ρ.length
    · rw [List.getElem?_set_self hl] at hq
      cases hq
    · rw [List.getElem?_eq_none (by rw [List.length_set]; omega)] at hq
      cases hq
  · rw [List.getElem?_set_ne hj] at hq
    obtain ⟨u, h1, h2⟩ := e.get j q hq
    exact ⟨u, by rw [List.getElem?_set_ne hj]; exact h1, h2⟩
theorem EnvR.wipe (e : EnvR K xr w σ ρ) : ∀ vs : List Nat, EnvR K xr w (L2.wipe σ vs) (wipeE ρ vs)
  | [] => e
  | v :: vs => (EnvR.wipe e vs).unset
end

def EOk (X : Cx) (xr : XR) (W : WX) (e : Expr) (m : MP.Env → M R) : Prop :=
  ∃ t, PE X e t ∧ ∀ σ w S ρ Q, EnvR X.K xr w σ ρ → SR X.K w S → Hop X.K (Rel X.K) (WE W σ) w Q (m ρ S) → t σ w.H Q
def TOk (X : Cx) (xr : XR) (W : WX) (e : Expr) (m : MP.Env → M Bool) : Prop :=
  ∃ t, PT X e t ∧ ∀ σ w S ρ Q, EnvR X.K xr w σ ρ → SR X.K w S → Hop X.K (fun _ b v => b = v) (WE W σ) w Q (m ρ S) → t σ w.H Q
def AOk (X : Cx) (xr : XR) (W : WX) (es : List Expr) (m : MP.Env → M (List R)) : Prop :=
  ∃ t, PA X es t ∧ ∀ σ w S ρ Q, EnvR X.K xr w σ ρ → SR X.K w S → Hop X.K (Rels X.K) (WE W σ) w Q (m ρ S) → t σ w.H Q

section
variable {X : Cx} {xr : XR} {W : WX} {a b : Expr} {ma mb : MP.Env → M R} {pos : Pos}
theorem hop_pure {α β : Type} {rel : Wd → α → β → Prop} {K : PySem.W.Frag} {E : XK} {w : Wd} {Q : β → Hp → Prop} {a : α} {v : β} {S : Store} (h : Hop K rel E w Q (M.pure a S)) (s : SR K w S) (r : rel w a v) : Q v w.H := h w v (Ext.refl w) s r
/-! ### names, constants -/
theorem e_var {i : Nat} {x : Str} (hN : X.N[i]? = some x) (hv : Vis X.env.scope x) (hd : (x == ("__debug__" : Str)) = false) (hcd : (x == ("__classdict__" : Str)) = false) : EOk X xr W (.Name x pos) (fun ρ => getV ρ i) := by
  refine ⟨_, pe_var hN hv hd hcd, fun σ w S ρ Q er sr h => ?_⟩
  unfold getV at h
  dsimp only at h
  cases e : ρ[i]? with
  | none => rw [e] at h; exact h.elim
  | some o =>
    cases o with
    | none => rw [e] at h; exact h.elim
    | some r =>
      obtain ⟨v, h1, h2⟩ := er.get i r e
      rw [e] at h
      cases r with
      | dat d => exact ⟨v, h1, hop_pure h sr h2⟩
      | own k => exact ⟨v, h1, hop_pure h sr h2⟩
      | exc c ns l => exact h.elim
theorem e_int {i : Int} {j : Nat} : EOk X xr W (.Constant (.int i) j pos) (fun _ => M.pure (.dat (.int i))) := ⟨_, pe_int, fun σ w S ρ Q er sr h => hop_pure h sr rfl⟩
theorem e_bl {i : Bool} {j : Nat} : EOk X xr W (.Constant (.bool i) j pos) (fun _ => M.pure (.dat (.bl i))) := ⟨_, pe_bl, fun σ w S ρ Q er sr h => hop_pure h sr rfl⟩
theorem e_non {j : Nat} : EOk X xr W (.Constant .none j pos) (fun _ => M.pure (.dat .non)) := ⟨_, pe_non, fun σ w S ρ Q er sr h => hop_pure h sr rfl⟩
theorem e_str {s : Str} {j : Nat} : EOk X xr W (.Constant (.str s) j pos) (fun _ => M.pure (.dat (.str s))) := ⟨_, pe_str, fun σ w S ρ Q er sr h => hop_pure h sr rfl⟩
theorem e_gint {x : Str} {i : Int} (hg : Gl X x) (hm : ∃ t, X.mg x = some (.int i t)) (hd : (x == ("__debug__" : Str)) = false) : EOk X xr W (.Name x pos) (fun _ => M.pure (.dat (.int i))) := by
  obtain ⟨t, hm⟩ := hm
  exact ⟨_, pe_glob (v := .int i) hg hm ⟨t, rfl⟩ hd, fun σ w S ρ Q er sr h => hop_pure h sr rfl⟩

/-! ### two operands -/
theorem e_bin2 {op : Operator} {r : R2} {f : R → R → M R} (hx : xr.Ok) (ho : OpR X (binaryOp op) r)
    (hr : ∀ w S x y u v E Q, SR X.K w S → Rel X.K w x u → Rel X.K w y v → Hop X.K (Rel X.K) E w Q (f x y S) → r u v w.H Q) (ha : EOk X xr W a ma) (hb : EOk X xr W b mb) :
    EOk X xr W (.BinOp a op b pos) (fun ρ => M.bind (ma ρ) fun x => M.bind (mb ρ) fun y => f x y) := by
  obtain ⟨ta, pa, qa⟩ := ha
  obtain ⟨tb, pb, qb⟩ := hb
  refine ⟨_, pe_op ho pa pb, fun σ w S ρ Q er sr h => qa σ w S ρ _ er sr (h.bind fun w1 x u S1 e1 s1 rx h1 => qb σ w1 S1 ρ _ (er.ext hx e1) s1 (h1.bind fun w2 y v S2 e2 s2 ry h2 => ?_))⟩
  exact hr w2 S2 x y u v _ Q s2 (rx.ext e2) ry h2
theorem e_cmp2 {op : CmpOp} {r : R2} {f : R → R → M R} (hx : xr.Ok) (ho : OpR X (compareOp op) r) (hm : behindInMarks op b = false)
    (hr : ∀ w S x y u v E Q, SR X.K w S → Rel X.K w x u → Rel X.K w y v → Hop X.K (Rel X.K) E w Q (f x y S) → r u v w.H Q) (ha : EOk X xr W a ma) (hb : EOk X xr W b mb) :
    EOk X xr W (.Compare a [op] [b] pos) (fun ρ => M.bind (ma ρ) fun x => M.bind (mb ρ) fun y => f x y) := by
  obtain ⟨ta, pa, qa⟩ := ha
  obtain ⟨tb, pb, qb⟩ := hb
  refine ⟨_, pe_cmpR ho pa pb hm, fun σ w S ρ Q er sr h => qa σ w S ρ _ er sr (h.bind fun w1 x u S1 e1 s1 rx h1 => qb σ w1 S1 ρ _ (er.ext hx e1) s1 (h1.bind fun w2 y v S2 e2 s2 ry h2 => ?_))⟩
  exact hr w2 S2 x y u v _ Q s2 (rx.ext e2) ry h2
theorem t_cmp2 {op : CmpOp} {r : R2} {f : R → R → M R} (hx : xr.Ok) (ho : OpR X (compareOp op) r) (hm : behindInMarks op b = false)
    (hr : ∀ w S x y u v E Q, SR X.K w S → Rel X.K w x u → Rel X.K w y v → Hop X.K (Rel X.K) E w Q (f x y S) → r u v w.H Q) (ha : EOk X xr W a ma) (hb : EOk X xr W b mb) :
    TOk X xr W (.Compare a [op] [b] pos) (fun ρ => M.bind (M.bind (ma ρ) fun x => M.bind (mb ρ) fun y => f x y) truB) := by
  obtain ⟨ta, pa, qa⟩ := ha
  obtain ⟨tb, pb, qb⟩ := hb
  refine ⟨_, pt_cmpR ho pa pb hm, fun σ w S ρ Q er sr h => ?_⟩
  dsimp only at h
  rw [bind_assoc] at h
  refine qa σ w S ρ _ er sr (h.bind fun w1 x u S1 e1 s1 rx h1 => ?_)
  rw [bind_assoc] at h1
  refine qb σ w1 S1 ρ _ (er.ext hx e1) s1 (h1.bind fun w2 y v S2 e2 s2 ry h2 => ?_)
  refine hr w2 S2 x y u v (WE W σ) _ s2 (rx.ext e2) ry (h2.bind (r1 := Rel X.K) fun w3 z zv S3 e3 s3 rz h3 => ?_)
  cases z with
  | dat d =>
    cases d with
    | bl c => exact ⟨c, rz, hop_pure h3 s3 rfl⟩
    | _ => exact h3.elim
  | _ => exact h3.elim
theorem OpR.or {f : Value → Value → Sem Value} {r r' : R2} (h : OpR X f r) (h' : OpR X f r') : OpR X f (fun x y H Q => r x y H Q ∨ r' x y H Q) := by
  intro pins s σ H x y v u Q I rx ry q
  rcases q with q | q
  · exact h pins s σ H x y v u Q I rx ry q
  · exact h' pins s σ H x y v u Q I rx ry q
/-- a value as a test -/
theorem t_val (ha : EOk X xr W a ma) (he : ∀ whole, isTrue a X.env whole = (do let v ← whole; standAt a.pos; holding [v] (truthy v))) : TOk X xr W a (fun ρ => M.bind (ma ρ) truB) := by
  obtain ⟨ta, pa, qa⟩ := ha
  refine ⟨_, pt_val pa he, fun σ w S ρ Q er sr h => qa σ w S ρ _ er sr (h.bind fun w1 z zv S1 e1 s1 rz h1 => ?_)⟩
  cases z with
  | dat d =>
    cases d with
    | bl c => exact ⟨c, rz, hop_pure h1 s1 rfl⟩
    | _ => exact h1.elim
  | _ => exact h1.elim
theorem e_isN {n : Bool} {k : Nat} {p1 : Pos} (ha : EOk X xr W a ma) : EOk X xr W (.Compare a [if n then .IsNot else .Is] [.Constant .none k p1] pos) (fun ρ => M.bind (ma ρ) fun x => match x with
    | .dat .non => M.pure (.dat (.bl (!n)))
    | .dat _ => M.pure (.dat (.bl n))
    | _ => M.stuck) := by
  obtain ⟨ta, pa, qa⟩ := ha
  have key : ∀ (x : R) (v : V) (w : Wd) (S : Store) (E : XK) (Q : VK), SR X.K w S → Rel X.K w x v → Hop X.K (Rel X.K) E w Q ((match x with
    | .dat .non => M.pure (.dat (.bl (!n)))
    | .dat _ => M.pure (.dat (.bl n))
    | _ => M.stuck : M R) S) → Q (.bl (if n then !decide (v = .non) else decide (v = .non))) w.H := by
    intro x v w S E Q s r h
    cases x with
    | dat d =>
      cases d with
      | non =>
        have e : v = .non := r
        subst e
        have q := hop_pure (v := V.bl (!n)) h s rfl
        cases n <;> exact q
      | bl b =>
        have e : v = .bl b := r
        subst e
        have q := hop_pure (v := V.bl n) h s rfl
        cases n <;> exact q
      | int b =>
        have e : v = .int b := r
        subst e
        have q := hop_pure (v := V.bl n) h s rfl
        cases n <;> exact q
      | str b =>
        have e : v = .str b := r
        subst e
        have q := hop_pure (v := V.bl n) h s rfl
        cases n <;> exact q
      | tup l =>
        obtain ⟨p, vs, e, _⟩ := r
        subst e
        have q := hop_pure (v := V.bl n) h s rfl
        cases n <;> exact q
      | lst l =>
        obtain ⟨p, vs, e, _⟩ := r
        subst e
        have q := hop_pure (v := V.bl n) h s rfl
        cases n <;> exact q
      | slst l =>
        obtain ⟨p, vs, e, _⟩ := r
        subst e
        have q := hop_pure (v := V.bl n) h s rfl
        cases n <;> exact q
      | obj c ns l =>
        obtain ⟨p, dx, fs, e, _⟩ := r
        subst e
        have q := hop_pure (v := V.bl n) h s rfl
        cases n <;> exact q
    | own k => exact h.elim
    | exc c ns l => exact h.elim
  cases n with
  | false => exact ⟨_, pe_cmp (pc_isN pa), fun σ w S ρ Q er sr h => qa σ w S ρ _ er sr (h.bind fun w1 x v S1 e1 s1 rx h1 => key x v w1 S1 _ Q s1 rx h1)⟩
  | true => exact ⟨_, pe_cmp (pc_notN pa), fun σ w S ρ Q er sr h => qa σ w S ρ _ er sr (h.bind fun w1 x v S1 e1 s1 rx h1 => key x v w1 S1 _ Q s1 rx h1)⟩
theorem e_neg (ha : EOk X xr W a ma) : EOk X xr W (.UnaryOp .USub a pos) (fun ρ => M.bind (ma ρ) fun x => match x with
    | .dat (.int i) => M.pure (.dat (.int (-i)))
    | _ => M.stuck) := by
  obtain ⟨ta, pa, qa⟩ := ha
  refine ⟨_, pe_un un_neg pa, fun σ w S ρ Q er sr h => qa σ w S ρ _ er sr (h.bind fun w1 x v S1 e1 s1 rx h1 => ?_)⟩
  cases x with
  | dat d =>
    cases d with
    | int i => exact ⟨i, rx, hop_pure h1 s1 rfl⟩
    | _ => exact h1.elim
  | _ => exact h1.elim
/-! ### not, and, or, if -/
theorem t_not {m : MP.Env → M Bool} (ha : TOk X xr W a m) : TOk X xr W (.UnaryOp .Not a pos) (fun ρ => M.bind (M.bind (m ρ) fun b => M.pure (.dat (.bl (!b)))) truB) := by
  obtain ⟨ta, pa, qa⟩ := ha
  refine ⟨_, pt_not pa, fun σ w S ρ Q er sr h => ?_⟩
  dsimp only at h
  rw [bind_assoc] at h
  refine qa σ w S ρ _ er sr (h.bind fun w1 b v S1 e1 s1 rb h1 => ?_)
  have e : b = v := rb
  subst e
  exact hop_pure (rel := fun _ b v => b = v) h1 s1 rfl
end
end MP
set_option Elab.async false
set_option linter.all false
set_option maxRecDepth 100000
set_option maxHeartbeats 4000000
/-! MPLists: lists, tuples, what is read off them. -/
namespace MP
open PySem PySem.Spec PyProof.Rows L2
section
variable {K : PySem.W.Frag} {w w' : Wd} {S : Store}
theorem Rels.length : ∀ {rs : List R} {vs : List V}, Rels K w rs vs → rs.length = vs.length
  | [], _, h => by
    have e : _ = [] := h
    rw [e]
    rfl
  | _ :: _, _, ⟨v, r, e, _, h2⟩ => by
    rw [e, List.length_cons, List.length_cons, Rels.length h2]
theorem Rels.get : ∀ {rs : List R} {vs : List V} {i : Nat} {r : R}, Rels K w rs vs → rs[i]? = some r → ∃ v, vs[i]? = some v ∧ Rel K w r v
  | [], _, i, _, _, e => by simp at e
  | _ :: _, _, 0, _, ⟨v, r, e, h1, h2⟩, q => by
    simp at q
    subst q e
    exact ⟨v, rfl, h1⟩
  | _ :: _, _, i + 1, _, ⟨v, r, e, h1, h2⟩, q => by
    subst e
    obtain ⟨u, e1, e2⟩ := Rels.get (i := i) h2 (by simpa using q)
    exact ⟨u, by simpa using e1, e2⟩
theorem Rels.append : ∀ {rs qs : List R} {vs us : List V}, Rels K w rs vs → Rels K w qs us → Rels K w (rs ++ qs) (vs ++ us)
  | [], _, _, _, h, q => by
    have e : _ = [] := h
    rw [e]
    exact q
  | _ :: _, _, _, _, ⟨v, r, e, h1, h2⟩, q => by
    subst e
    exact ⟨v, _, rfl, h1, Rels.append h2 q⟩
theorem Rels.take : ∀ {rs : List R} {vs : List V} (n : Nat), Rels K w rs vs → Rels K w (rs.take n) (vs.take n)
  | _, _, 0, _ => by simp [Rels]
  | [], _, n + 1, h => by
    have e : _ = [] := h
    rw [e]
    exact rfl
  | _ :: _, _, n + 1, ⟨v, r, e, h1, h2⟩ => by
    subst e
    exact ⟨v, _, rfl, h1, Rels.take n h2⟩
theorem Rels.drop : ∀ {rs : List R} {vs : List V} (n : Nat), Rels K w rs vs → Rels K w (rs.drop n) (vs.drop n)
  | _, _, 0, h => h
  | [], _, n + 1, h => by
    have e : _ = [] := h
    rw [e]
    exact rfl
  | _ :: _, _, n + 1, ⟨v, r, e, h1, h2⟩ => by
    subst e
    exact Rels.drop n h2
theorem Rels.set {r : R} {v : V} (q : Rel K w r v) : ∀ {rs : List R} {vs : List V} (i : Nat), Rels K w rs vs → Rels K w (rs.set i r) (vs.set i v)
  | [], _, i, h => by
    have e : _ = [] := h
    rw [e]
    exact rfl
  | _ :: _, _, 0, ⟨_, u, e, h1, h2⟩ => by
    subst e
    exact ⟨v, u, rfl, q, h2⟩
  | _ :: _, _, i + 1, ⟨_, u, e, h1, h2⟩ => by
    subst e
    exact ⟨_, _, rfl, h1, Rels.set q i h2⟩
theorem Rels.dropLast {rs : List R} {vs : List V} (h : Rels K w rs vs) : Rels K w rs.dropLast vs.dropLast := by
  rw [List.dropLast_eq_take, List.dropLast_eq_take, ← h.length]
  exact h.take _
theorem Rels.rep {rs : List R} {vs : List V} (h : Rels K w rs vs) : ∀ n : Nat, Rels K w (List.replicate n rs).flatten (List.replicate n vs).flatten
  | 0 => rfl
  | n + 1 => by
    rw [List.replicate_succ, List.replicate_succ, List.flatten_cons, List.flatten_cons]
    exact h.append (Rels.rep h n)
theorem Rels.one {r : R} {v : V} (h : Rel K w r v) : Rels K w [r] [v] := ⟨v, [], rfl, h, rfl⟩
theorem Rels.dats : ∀ {rs : List R} {ds : List D} {vs : List V}, datsR rs = some ds → Rels K w rs vs → Reps K w ds vs
  | [], ds, vs, e, h => by
    cases e
    exact h
  | .dat d :: r, ds, vs, e, ⟨v, u, e1, h1, h2⟩ => by
    obtain ⟨ds', e2, e3⟩ := Option.map_eq_some_iff.mp (show (datsR r).map (d :: ·) = some ds from e)
    subst e3
    exact ⟨v, u, e1, h1, Rels.dats e2 h2⟩
  | .own _ :: _, _, _, e, _ => by cases e
  | .exc _ _ _ :: _, _, _, e, _ => by cases e
theorem Reps.dat : ∀ {ds : List D} {vs : List V}, Reps K w ds vs → Rels K w (ds.map R.dat) vs
  | [], _, h => h
  | _ :: _, _, ⟨v, u, e, h1, h2⟩ => ⟨v, u, e, h1, Reps.dat h2⟩
theorem Rels.ints : ∀ {rs : List R} {ns : List Int} {vs : List V}, intsR rs = some ns → Rels K w rs vs → vs = ns.map V.int
  | [], ns, vs, e, h => by
    cases e
    exact h
  | .dat (.int i) :: r, ns, vs, e, ⟨v, u, e1, h1, h2⟩ => by
    obtain ⟨ns', e2, e3⟩ := Option.map_eq_some_iff.mp (show (intsR r).map (i :: ·) = some ns from e)
    subst e3 e1
    have e4 : v = .int i := h1
    rw [e4, Rels.ints e2 h2]
    rfl
  | .dat .non :: _, _, _, e, _ => by cases e
  | .dat (.bl _) :: _, _, _, e, _ => by cases e
  | .dat (.str _) :: _, _, _, e, _ => by cases e
  | .dat (.tup _) :: _, _, _, e, _ => by cases e
  | .dat (.lst _) :: _, _, _, e, _ => by cases e
  | .dat (.slst _) :: _, _, _, e, _ => by cases e
  | .dat (.obj _ _ _) :: _, _, _, e, _ => by cases e
  | .own _ :: _, _, _, e, _ => by cases e
  | .exc _ _ _ :: _, _, _, e, _ => by cases e
theorem Rels.bls : ∀ {rs : List R} {ns : List Bool} {vs : List V}, blsR rs = some ns → Rels K w rs vs → vs = ns.map V.bl
  | [], ns, vs, e, h => by
    cases e
    exact h
  | .dat (.bl i) :: r, ns, vs, e, ⟨v, u, e1, h1, h2⟩ => by
    obtain ⟨ns', e2, e3⟩ := Option.map_eq_some_iff.mp (show (blsR r).map (i :: ·) = some ns from e)
    subst e3 e1
    have e4 : v = .bl i := h1
    rw [e4, Rels.bls e2 h2]
    rfl
  | .dat .non :: _, _, _, e, _ => by cases e
  | .dat (.int _) :: _, _, _, e, _ => by cases e
  | .dat (.str _) :: _, _, _, e, _ => by cases e
  | .dat (.tup _) :: _, _, _, e, _ => by cases e
  | .dat (.lst _) :: _, _, _, e, _ => by cases e
  | .dat (.slst _) :: _, _, _, e, _ => by cases e
  | .dat (.obj _ _ _) :: _, _, _, e, _ => by cases e
  | .own _ :: _, _, _, e, _ => by cases e
  | .exc _ _ _ :: _, _, _, e, _ => by cases e
/-- what has items -/
theorem items_ok (s : SR K w S) {x : R} {v : V} {rs : List R} (r : Rel K w x v) (h : itemsR S x = some rs) :
    ∃ a vs, v = .ref a ∧ (w.H a = some (.lst vs) ∨ w.H a = some (.tup vs)) ∧ vs.length ≤ sizeLine ∧ Rels K w rs vs := by
  cases x with
  | dat d =>
    cases d with
    | lst l =>
      obtain ⟨a, vs, e, n, h1, hz, h2⟩ := r
      cases h
      exact ⟨a, vs, e, .inl h1, hz, h2.dat⟩
    | tup l =>
      obtain ⟨a, vs, e, n, h1, hz, h2⟩ := r
      cases h
      exact ⟨a, vs, e, .inr h1, hz, h2.dat⟩
    | _ => cases h
  | own k =>
    obtain ⟨hk, e⟩ := r
    obtain ⟨c, hc, hr⟩ := s.get hk
    have h : (match S[k]? with
      | some (.lst rs) => some rs
      | some (.tup rs) => some rs
      | _ => none) = some rs := h
    rw [hc] at h
    cases c with
    | lst qs =>
      cases h
      obtain ⟨vs, h1, hz, h2⟩ := hr
      exact ⟨_, vs, e, .inl h1, hz, h2⟩
    | tup qs =>
      cases h
      obtain ⟨vs, h1, hz, h2⟩ := hr
      exact ⟨_, vs, e, .inr h1, hz, h2⟩
    | obj c ns qs => cases h
  | exc c ns l => cases h
/-- .. and is no tuple -/
theorem items_lst (s : SR K w S) {x : R} {v : V} {rs : List R} (r : Rel K w x v) (h0 : itemsL S x = some rs) :
    ∃ a vs, v = .ref a ∧ w.H a = some (.lst vs) ∧ vs.length ≤ sizeLine ∧ Rels K w rs vs := by
  unfold itemsL at h0
  by_cases ht : isTup S x = true
  · rw [if_pos ht] at h0
    cases h0
  · rw [if_neg ht] at h0
    obtain ⟨a, vs, e, q, hz, h2⟩ := items_ok s r h0
    refine ⟨a, vs, e, ?_, hz, h2⟩
    rcases q with q | q
    · exact q
    · exfalso
      apply ht
      cases x with
      | dat d =>
        cases d with
        | lst l =>
          obtain ⟨b, us, e2, _, h3, _⟩ := r
          rw [e] at e2
          cases e2
          rw [q] at h3
          cases h3
        | tup l => rfl
        | _ => cases h0
      | own k =>
        obtain ⟨hk, e2⟩ := r
        obtain ⟨c, hc, hr⟩ := s.get hk
        rw [e] at e2
        cases e2
        show (match S[k]? with
          | some (.tup _) => true
          | _ => false) = true
        rw [hc]
        cases c with
        | lst qs =>
          obtain ⟨us, h3, _⟩ := hr
          rw [q] at h3
          cases h3
        | tup qs => rfl
        | obj c ns qs =>
          obtain ⟨dx, fs, h3, _⟩ := hr
          rw [q] at h3
          cases h3
      | exc c ns l => cases h0
theorem items_sq (s : SR K w S) {x : R} {v : V} {rs : List R} (r : Rel K w x v) (h : itemsR S x = some rs) :
    ∃ a vs, v = .ref a ∧ (SqL K w.H a vs ∨ SqT K w.H a vs) ∧ vs.length ≤ sizeLine ∧ Rels K w rs vs := by
  obtain ⟨a, vs, e, q, hz, h2⟩ := items_ok s r h
  refine ⟨a, vs, e, ?_, hz, h2⟩
  rcases q with q | q
  · exact .inl (.of q)
  · exact .inr (.of q)
/-- a new list -/
theorem mkL_ok {m : Bool} {rs : List R} {vs : List V} {E : XK} {Q : VK} (s : SR K w S) (hz : vs.length ≤ sizeLine) (h2 : Rels K w rs vs) (h : Hop K (Rel K) E w Q (mkL m rs S)) (p : Addr) (hp : w.H p = none) : Q (.ref p) (upd w.H p (.lst vs)) := by
  have dat : ∀ ds, datsR rs = some ds → Hop K (Rel K) E w Q (.ok (.dat (.lst ds)) S) → Q (.ref p) (upd w.H p (.lst vs)) := fun ds hd h => by
    have x := ext_new (o := .lst vs) s hp
    exact h (w.new p (.lst vs)) (.ref p) x (s.new hp) ⟨p, vs, rfl, nlive_new s hp, new_same, hz, (Rels.dats hd h2).ext x⟩
  have cel : Hop K (Rel K) E w Q (.ok (.own S.length) (S ++ [.lst rs])) → Q (.ref p) (upd w.H p (.lst vs)) := fun h => by
    have x := ext_push (o := .lst vs) s hp
    have s' := s.push (o := .lst vs) (c := .lst rs) hp ⟨vs, upd_same, hz, h2.ext x⟩
    exact h (w.push p (.lst vs)) (.ref p) x s' ⟨by show S.length < w.n + 1; rw [s.n]; exact Nat.lt_succ_self _, by rw [← s.n]; exact congrArg V.ref push_p.symm⟩
  unfold mkL at h
  cases m with
  | true => exact cel h
  | false =>
    cases e : datsR rs with
    | none =>
      rw [e] at h
      exact cel h
    | some ds =>
      rw [e] at h
      exact dat ds e h
theorem mkT_ok {rs : List R} {vs : List V} {E : XK} {Q : VK} (s : SR K w S) (hz : vs.length ≤ sizeLine) (h2 : Rels K w rs vs) (h : Hop K (Rel K) E w Q (mkT rs S)) (p : Addr) (hp : w.H p = none) : Q (.ref p) (upd w.H p (.tup vs)) := by
  unfold mkT at h
  cases e : datsR rs with
  | none =>
    rw [e] at h
    have x := ext_push (o := .tup vs) s hp
    have s' := s.push (o := .tup vs) (c := .tup rs) hp ⟨vs, upd_same, hz, h2.ext x⟩
    exact h (w.push p (.tup vs)) (.ref p) x s' ⟨by show S.length < w.n + 1; rw [s.n]; exact Nat.lt_succ_self _, by rw [← s.n]; exact congrArg V.ref push_p.symm⟩
  | some ds =>
    rw [e] at h
    have x := ext_new (o := .tup vs) s hp
    exact h (w.new p (.tup vs)) (.ref p) x (s.new hp) ⟨p, vs, rfl, nlive_new s hp, new_same, hz, (Rels.dats e h2).ext x⟩
theorem line_small {n : Nat} (h : small n = true) : n ≤ 1000000 := of_decide_eq_true h
theorem line_eq : sizeLine = 16777216 := sizeLine_eq

/-! ### operators -/
variable {X : Cx}
theorem dat_int {i : Int} {v : V} (r : Rel K w (.dat (.int i)) v) : v = .int i := r
/-- + -/
theorem binadd_ok (m : Bool) : ∀ (w : Wd) (S : Store) (x y : R) (u v : V) (E : XK) (Q : VK), SR X.K w S → Rel X.K w x u → Rel X.K w y v → Hop X.K (Rel X.K) E w Q (binR m .add x y S) →
    (rI0 (fun i j => .int (i + j)) u v w.H Q ∨ rCat u v w.H Q) := by
  intro w S x y u v E Q s rx ry h
  have cat : Hop X.K (Rel X.K) E w Q (catL m x y S) → rCat u v w.H Q := fun h => by
    unfold catL at h
    cases ex : itemsL S x with
    | none =>
      rw [ex] at h
      exact h.elim
    | some xs =>
      cases ey : itemsL S y with
      | none =>
        rw [ex, ey] at h
        exact h.elim
      | some ys =>
        rw [ex, ey] at h
        have hh : Hop X.K (Rel X.K) E w Q (if small (xs.length + ys.length) = true then mkL m (xs ++ ys) S else .stuck) := h
        obtain ⟨a, vs, e1, h1, z1, q1⟩ := items_lst s rx ex
        obtain ⟨b, us, e2, h2, z2, q2⟩ := items_lst s ry ey
        by_cases hs : small (xs.length + ys.length) = true
        · rw [if_pos hs] at hh
          have l1 := q1.length
          have l2 := q2.length
          have l3 := line_small hs
          have l4 := line_eq
          have z : vs.length + us.length ≤ sizeLine := by omega
          exact ⟨a, b, vs, us, e1, e2, h1, h2, z, fun p hp => mkL_ok s (by rw [List.length_append]; exact z) (q1.append q2) hh p hp⟩
        · rw [if_neg hs] at hh
          exact hh.elim
  cases x with
  | dat d =>
    cases d with
    | int i =>
      cases y with
      | dat e =>
        cases e with
        | int j => exact .inl ⟨i, j, rx, ry, hop_pure h s rfl⟩
        | _ => exact .inr (cat h)
      | _ => exact .inr (cat h)
    | _ => exact .inr (cat h)
  | _ => exact .inr (cat h)
theorem mulOk_ok {i j : Int} (h : mulOk i j = true) : CMulW i j := by
  unfold mulOk at h
  have z := of_decide_eq_true h
  exact z
theorem divOk_ok {j : Int} (i : Int) (h : divOk j = true) : CDivW i j := by
  unfold divOk at h
  have z := of_decide_eq_true h
  exact z
def CPowW (i j : Int) : Prop := 0 ≤ j ∧ (Builtin.Int.intBits i : Int) * j ≤ 2 ^ 27
theorem powOk_ok {i j : Int} (h : powOk i j = true) : CPowW i j := by
  unfold powOk at h
  have z := of_decide_eq_true h
  exact z
/-- * of ints, of a list -/
theorem op_mulAny : OpR X (binaryOp .Mult) (fun x y H Q => rI CMulW (fun i j => .int (i * j)) x y H Q ∨ rRep x y H Q) := OpR.or op_mulW op_rep
theorem op_addAny : OpR X (binaryOp .Add) (fun x y H Q => rI0 (fun i j => .int (i + j)) x y H Q ∨ rCat x y H Q) := OpR.or op_add op_cat
theorem binmul_ok (m : Bool) : ∀ (w : Wd) (S : Store) (x y : R) (u v : V) (E : XK) (Q : VK), SR X.K w S → Rel X.K w x u → Rel X.K w y v → Hop X.K (Rel X.K) E w Q (binR m .mul x y S) →
    (rI CMulW (fun i j => .int (i * j)) u v w.H Q ∨ rRep u v w.H Q) := by
  intro w S x y u v E Q s rx ry h
  have rep : ∀ k : Int, y = .dat (.int k) → Hop X.K (Rel X.K) E w Q (repL m x k S) → rRep u v w.H Q := fun k hy h => by
    unfold repL at h
    cases ex : itemsL S x with
    | none =>
      rw [ex] at h
      exact h.elim
    | some xs =>
      rw [ex] at h
      have hh : Hop X.K (Rel X.K) E w Q (if small (xs.length * k.toNat) = true ∧ k ≤ 1000000 ∧ -1000000 ≤ k then mkL m (List.replicate k.toNat xs).flatten S else .stuck) := h
      obtain ⟨a, vs, e1, h1, z1, q1⟩ := items_lst s rx ex
      by_cases hs : small (xs.length * k.toNat) = true ∧ k ≤ 1000000 ∧ -1000000 ≤ k
      · rw [if_pos hs] at hh
        have l1 := q1.length
        have l3 := line_small hs.1
        have l4 := line_eq
        have z : vs.length * k.toNat ≤ sizeLine := by rw [← l1]; omega
        refine ⟨a, k, vs, e1, by rw [hy] at ry; exact ry, h1, by omega, by omega, z, fun p hp => mkL_ok s ?_ (q1.rep _) hh p hp⟩
        rw [List.length_flatten, List.map_replicate, List.sum_replicate_nat, Nat.mul_comm]
        exact z
      · rw [if_neg hs] at hh
        exact hh.elim
  cases y with
  | dat e =>
    cases e with
    | int j =>
      cases x with
      | dat d =>
        cases d with
        | int i =>
          have hh : Hop X.K (Rel X.K) E w Q ((if mulOk i j = true then M.pure (.dat (.int (i * j))) else M.stuck : M R) S) := h
          by_cases hm : mulOk i j = true
          · rw [if_pos hm] at hh
            exact .inl ⟨i, j, rx, ry, mulOk_ok hm, hop_pure hh s rfl⟩
          · rw [if_neg hm] at hh
            exact hh.elim
        | _ => exact .inr (rep j rfl h)
      | _ => exact .inr (rep j rfl h)
    | _ =>
      cases x with
      | dat d => cases d <;> exact h.elim
      | _ => exact h.elim
  | _ =>
    cases x with
    | dat d => cases d <;> exact h.elim
    | _ => exact h.elim
/-- the ops of ints alone -/
theorem bin_int {op : Bop} {C : Int → Int → Prop} {g : Int → Int → Int} {m : Bool} (hn : ∀ x y, (∀ i j, x = .dat (.int i) → y ≠ .dat (.int j)) → binR m op x y = M.stuck)
    (hi : ∀ i j S, binR m op (.dat (.int i)) (.dat (.int j)) S ≠ .stuck → C i j ∧ binR m op (.dat (.int i)) (.dat (.int j)) S = .ok (.dat (.int (g i j))) S) :
    ∀ (w : Wd) (S : Store) (x y : R) (u v : V) (E : XK) (Q : VK), SR X.K w S → Rel X.K w x u → Rel X.K w y v → Hop X.K (Rel X.K) E w Q (binR m op x y S) → rI C (fun i j => .int (g i j)) u v w.H Q := by
  intro w S x y u v E Q s rx ry h
  have key : ∀ i j, x = .dat (.int i) → y = .dat (.int j) → rI C (fun i j => .int (g i j)) u v w.H Q := fun i j ex ey => by
    rw [ex] at rx h
    rw [ey] at ry h
    have ns : binR m op (.dat (.int i)) (.dat (.int j)) S ≠ .stuck := fun z => by
      rw [z] at h
      exact h
    obtain ⟨c, e⟩ := hi i j S ns
    rw [e] at h
    exact ⟨i, j, rx, ry, c, h w (.int (g i j)) (Ext.refl w) s rfl⟩
  by_cases hx : ∃ i, x = .dat (.int i)
  · obtain ⟨i, ex⟩ := hx
    by_cases hy : ∃ j, y = .dat (.int j)
    · obtain ⟨j, ey⟩ := hy
      exact key i j ex ey
    · rw [hn x y fun _ j _ ey => hy ⟨j, ey⟩] at h
      exact h.elim
  · rw [hn x y fun i _ ex => absurd ⟨i, ex⟩ hx] at h
    exact h.elim
theorem notint {α : Prop} {x y : R} (h : ∀ i j, x = .dat (.int i) → y ≠ .dat (.int j)) {i j : Int} (ex : x = .dat (.int i)) (ey : y = .dat (.int j)) : α := absurd ey (h i j ex)
theorem binsub_ok (m : Bool) : ∀ (w : Wd) (S : Store) (x y : R) (u v : V) (E : XK) (Q : VK), SR X.K w S → Rel X.K w x u → Rel X.K w y v → Hop X.K (Rel X.K) E w Q (binR m .sub x y S) → rI (fun _ _ => True) (fun i j => .int (i - j)) u v w.H Q :=
  bin_int (fun x y hn => by
    cases x with
    | dat d => cases d with
      | int i => cases y with
        | dat e => cases e with
          | int j => exact notint hn rfl rfl
          | _ => rfl
        | _ => rfl
      | _ => rfl
    | _ => rfl) fun i j S _ => ⟨trivial, rfl⟩
theorem bindiv_ok (m : Bool) : ∀ (w : Wd) (S : Store) (x y : R) (u v : V) (E : XK) (Q : VK), SR X.K w S → Rel X.K w x u → Rel X.K w y v → Hop X.K (Rel X.K) E w Q (binR m .fdiv x y S) → rI CDivW (fun i j => .int (i / j)) u v w.H Q :=
  bin_int (fun x y hn => by
    cases x with
    | dat d => cases d with
      | int i => cases y with
        | dat e => cases e with
          | int j => exact notint hn rfl rfl
          | _ => rfl
        | _ => rfl
      | _ => rfl
    | _ => rfl) fun i j S hs => by
      have hh : (if divOk j = true then M.pure (.dat (.int (i / j))) else M.stuck : M R) S ≠ .stuck := hs
      by_cases hm : divOk j = true
      · exact ⟨divOk_ok i hm, by show (if divOk j = true then M.pure (.dat (.int (i / j))) else M.stuck : M R) S = _; rw [if_pos hm]; rfl⟩
      · rw [if_neg hm] at hh
        exact absurd rfl hh
theorem binmod_ok (m : Bool) : ∀ (w : Wd) (S : Store) (x y : R) (u v : V) (E : XK) (Q : VK), SR X.K w S → Rel X.K w x u → Rel X.K w y v → Hop X.K (Rel X.K) E w Q (binR m .mod x y S) → rI (fun _ j => 0 < j) (fun i j => .int (i % j)) u v w.H Q :=
  bin_int (fun x y hn => by
    cases x with
    | dat d => cases d with
      | int i => cases y with
        | dat e => cases e with
          | int j => exact notint hn rfl rfl
          | _ => rfl
        | _ => rfl
      | _ => rfl
    | _ => rfl) fun i j S hs => by
      have hh : (if 0 < j then M.pure (.dat (.int (i % j))) else M.stuck : M R) S ≠ .stuck := hs
      by_cases hm : 0 < j
      · exact ⟨hm, by show (if 0 < j then M.pure (.dat (.int (i % j))) else M.stuck : M R) S = _; rw [if_pos hm]; rfl⟩
      · rw [if_neg hm] at hh
        exact absurd rfl hh
theorem op_powW : OpR X (binaryOp .Pow) (rI CPowW fun i j => .int (i ^ j.toNat)) := opI fun _ _ _ _ _ _ _ hc q => pow_int hc.1 hc.2 q
theorem binpow_ok (m : Bool) : ∀ (w : Wd) (S : Store) (x y : R) (u v : V) (E : XK) (Q : VK), SR X.K w S → Rel X.K w x u → Rel X.K w y v → Hop X.K (Rel X.K) E w Q (binR m .pow x y S) → rI CPowW (fun i j => .int (i ^ j.toNat)) u v w.H Q :=
  bin_int (fun x y hn => by
    cases x with
    | dat d => cases d with
      | int i => cases y with
        | dat e => cases e with
          | int j => exact notint hn rfl rfl
          | _ => rfl
        | _ => rfl
      | _ => rfl
    | _ => rfl) fun i j S hs => by
      have hh : (if powOk i j = true then M.pure (.dat (.int (i ^ j.toNat))) else M.stuck : M R) S ≠ .stuck := hs
      by_cases hm : powOk i j = true
      · exact ⟨powOk_ok hm, by show (if powOk i j = true then M.pure (.dat (.int (i ^ j.toNat))) else M.stuck : M R) S = _; rw [if_pos hm]; rfl⟩
      · rw [if_neg hm] at hh
        exact absurd rfl hh
theorem rI_I0 {g : Int → Int → V} {x y : V} {H : Hp} {Q : VK} (h : rI (fun _ _ => True) g x y H Q) : rI0 g x y H Q := by
  obtain ⟨i, j, e1, e2, _, q⟩ := h
  exact ⟨i, j, e1, e2, q⟩
/-! ### == -/
mutual
theorem dp_of : ∀ (d : D) (v : V) (x : PyData), Rep K w d v → py d = some x → Dp K w.H v x
  | .non, v, x, r, e => by
    cases e
    have e1 : v = .non := r
    subst e1
    exact .non
  | .bl b, v, x, r, e => by
    cases e
    have e1 : v = .bl b := r
    subst e1
    exact .bl b
  | .int b, v, x, r, e => by
    cases e
    have e1 : v = .int b := r
    subst e1
    exact .int b
  | .str b, v, x, r, e => by
    cases e
    have e1 : v = .str b := r
    subst e1
    exact .str b
  | .tup l, v, x, r, e => by
    obtain ⟨a, vs, e1, _, h1, _, h2⟩ := r
    obtain ⟨xs, e2, e3⟩ := Option.map_eq_some_iff.mp (show (pys l).map PyData.tuple = some x from e)
    subst e1 e3
    exact .tup (.of h1) (dps_of l vs xs h2 e2)
  | .lst l, v, x, r, e => by
    obtain ⟨a, vs, e1, _, h1, _, h2⟩ := r
    obtain ⟨xs, e2, e3⟩ := Option.map_eq_some_iff.mp (show (pys l).map PyData.list = some x from e)
    subst e1 e3
    exact .lst (.of h1) (dps_of l vs xs h2 e2)
  | .slst _, _, _, _, e => by cases e
  | .obj _ _ _, _, _, _, e => by cases e
theorem dps_of : ∀ (l : List D) (vs : List V) (xs : List PyData), Reps K w l vs → pys l = some xs → DpAll K w.H vs xs
  | [], vs, xs, r, e => by
    cases e
    have e1 : vs = [] := r
    subst e1
    exact .nil
  | d :: l, vs, xs, r, e => by
    obtain ⟨v, u, e1, h1, h2⟩ := r
    subst e1
    have e' : (match py d, pys l with
      | some x, some xs => some (x :: xs)
      | _, _ => none) = some xs := e
    cases e2 : py d with
    | none => rw [e2] at e'; cases e'
    | some y =>
      cases e3 : pys l with
      | none => rw [e2, e3] at e'; cases e'
      | some ys =>
        rw [e2, e3] at e'
        cases e'
        exact .cons (dp_of d v y h1 e2) (dps_of l u ys h2 e3)
end
/-- what == tells, as the hand layer's two rules have it -/
theorem eqD_ok (s : SR K w S) {x y : R} {u v : V} {c : Bool} (rx : Rel K w x u) (ry : Rel K w y v) (h : eqD S x y = some c) :
    (scal u v = true ∧ decide (u = v) = c) ∨ ∃ d e, Dp K w.H u d ∧ Dp K w.H v e ∧ SeqAt.shaped d = true ∧ SeqAt.shaped e = true ∧ PyData.eqv d e = c := by
  have gen : (match toD 0 S 8 x, toD 0 S 8 y with
    | some d, some e => (match py d, py e with
      | some x, some y => if SeqAt.shaped x = true ∧ SeqAt.shaped y = true then some (PyData.eqv x y) else none
      | _, _ => none)
    | _, _ => none) = some c → ∃ d e, Dp K w.H u d ∧ Dp K w.H v e ∧ SeqAt.shaped d = true ∧ SeqAt.shaped e = true ∧ PyData.eqv d e = c := fun h => by
    cases e1 : toD 0 S 8 x with
    | none => rw [e1] at h; cases h
    | some d =>
      cases e2 : toD 0 S 8 y with
      | none => rw [e1, e2] at h; cases h
      | some e =>
        rw [e1, e2] at h
        have h : (match py d, py e with
          | some x, some y => if SeqAt.shaped x = true ∧ SeqAt.shaped y = true then some (PyData.eqv x y) else none
          | _, _ => none) = some c := h
        cases e3 : py d with
        | none => rw [e3] at h; cases h
        | some a =>
          cases e4 : py e with
          | none => rw [e3, e4] at h; cases h
          | some b =>
            rw [e3, e4] at h
            have h : (if SeqAt.shaped a = true ∧ SeqAt.shaped b = true then some (PyData.eqv a b) else none) = some c := h
            by_cases hs : SeqAt.shaped a = true ∧ SeqAt.shaped b = true
            · rw [if_pos hs] at h
              have p1 := dp_of d u a (toD_ok s (Nat.zero_le _) 8 x d u e1 rx) e3
              have p2 := dp_of e v b (toD_ok s (Nat.zero_le _) 8 y e v e2 ry) e4
              exact ⟨a, b, p1, p2, hs.1, hs.2, Option.some.inj h⟩
            · rw [if_neg hs] at h
              cases h
  have fin : ∀ {b : Bool}, scal u v = true → decide (u = v) = b → some b = some c → (scal u v = true ∧ decide (u = v) = c) := fun h1 h2 h3 => ⟨h1, h2.trans (Option.some.inj h3)⟩
  cases x with
  | dat d =>
    cases d with
    | int i =>
      have e1 : u = .int i := rx
      subst e1
      cases y with
      | dat e =>
        cases e with
        | int j =>
          have e2 : v = .int j := ry
          subst e2
          exact .inl (fin rfl (by simp) h)
        | non =>
          have e2 : v = .non := ry
          subst e2
          exact .inl (fin rfl (by simp) h)
        | _ => exact .inr (gen h)
      | _ => exact .inr (gen h)
    | bl i =>
      have e1 : u = .bl i := rx
      subst e1
      cases y with
      | dat e =>
        cases e with
        | bl j =>
          have e2 : v = .bl j := ry
          subst e2
          exact .inl (fin rfl (by simp) h)
        | _ => exact .inr (gen h)
      | _ => exact .inr (gen h)
    | str i =>
      have e1 : u = .str i := rx
      subst e1
      cases y with
      | dat e =>
        cases e with
        | str j =>
          have e2 : v = .str j := ry
          subst e2
          exact .inl (fin rfl (by simp) h)
        | _ => exact .inr (gen h)
      | _ => exact .inr (gen h)
    | non =>
      have e1 : u = .non := rx
      subst e1
      cases y with
      | dat e =>
        cases e with
        | int j =>
          have e2 : v = .int j := ry
          subst e2
          exact .inl (fin rfl (by simp) h)
        | _ => exact .inr (gen h)
      | _ => exact .inr (gen h)
    | _ => exact .inr (gen h)
  | _ => exact .inr (gen h)
theorem op_eqAny (hu : X.A.units + 64 < cLine) : OpR X (compareOp .Eq) (fun x y H Q => rEq x y H Q ∨ rEqD X.K x y H Q) := OpR.or op_eq (op_eqD hu)
theorem op_neAny (hu : X.A.units + 64 < cLine) : OpR X (compareOp .NotEq) (fun x y H Q => rNe x y H Q ∨ rNeD X.K x y H Q) := OpR.or op_ne (op_neD hu)
theorem cmpeq_ok : ∀ (w : Wd) (S : Store) (x y : R) (u v : V) (E : XK) (Q : VK), SR X.K w S → Rel X.K w x u → Rel X.K w y v → Hop X.K (Rel X.K) E w Q (cmpR .eq x y S) → (rEq u v w.H Q ∨ rEqD X.K u v w.H Q) := by
  intro w S x y u v E Q s rx ry h
  have hh : Hop X.K (Rel X.K) E w Q (match eqD S x y with
    | some c => .ok (.dat (.bl c)) S
    | none => .stuck) := by
    unfold cmpR at h
    cases x with
    | dat d => cases d <;> exact h
    | _ => exact h
  cases e : eqD S x y with
  | none => rw [e] at hh; exact hh.elim
  | some c =>
    rw [e] at hh
    have q := hh w (.bl c) (Ext.refl w) s rfl
    rcases eqD_ok s rx ry e with ⟨h1, h2⟩ | ⟨d, e, h1, h2, h3, h4, h5⟩
    · exact .inl ⟨h1, by rw [h2]; exact q⟩
    · exact .inr ⟨d, e, h1, h2, h3, h4, by rw [h5]; exact q⟩
theorem cmpne_ok : ∀ (w : Wd) (S : Store) (x y : R) (u v : V) (E : XK) (Q : VK), SR X.K w S → Rel X.K w x u → Rel X.K w y v → Hop X.K (Rel X.K) E w Q (cmpR .ne x y S) → (rNe u v w.H Q ∨ rNeD X.K u v w.H Q) := by
  intro w S x y u v E Q s rx ry h
  have hh : Hop X.K (Rel X.K) E w Q (match eqD S x y with
    | some c => .ok (.dat (.bl (!c))) S
    | none => .stuck) := by
    unfold cmpR at h
    cases x with
    | dat d => cases d <;> exact h
    | _ => exact h
  cases e : eqD S x y with
  | none => rw [e] at hh; exact hh.elim
  | some c =>
    rw [e] at hh
    have q := hh w (.bl (!c)) (Ext.refl w) s rfl
    rcases eqD_ok s rx ry e with ⟨h1, h2⟩ | ⟨d, e, h1, h2, h3, h4, h5⟩
    · exact .inl ⟨h1, by rw [h2]; exact q⟩
    · exact .inr ⟨d, e, h1, h2, h3, h4, by rw [h5]; exact q⟩
/-- <, <=, >, >= -/
theorem cmp_int {op : Cop} {g : Int → Int → Bool} (hn : ∀ x y S, (∀ i j, x = .dat (.int i) → y ≠ .dat (.int j)) → cmpR op x y S = .stuck) (hi : ∀ i j S, cmpR op (.dat (.int i)) (.dat (.int j)) S = .ok (.dat (.bl (g i j))) S) :
    ∀ (w : Wd) (S : Store) (x y : R) (u v : V) (E : XK) (Q : VK), SR X.K w S → Rel X.K w x u → Rel X.K w y v → Hop X.K (Rel X.K) E w Q (cmpR op x y S) → rI0 (fun i j => .bl (g i j)) u v w.H Q := by
  intro w S x y u v E Q s rx ry h
  by_cases hx : ∃ i j, x = .dat (.int i) ∧ y = .dat (.int j)
  · obtain ⟨i, j, ex, ey⟩ := hx
    rw [ex] at rx h
    rw [ey] at ry h
    rw [hi] at h
    exact ⟨i, j, rx, ry, h w (.bl (g i j)) (Ext.refl w) s rfl⟩
  · rw [hn x y S fun i j ex ey => hx ⟨i, j, ex, ey⟩] at h
    exact h.elim
theorem cmpR_n (op : Cop) (h1 : op ≠ .eq) (h2 : op ≠ .ne) (x y : R) (S : Store) (hn : ∀ i j, x = .dat (.int i) → y ≠ .dat (.int j)) : cmpR op x y S = .stuck := by
  cases op with
  | eq => exact absurd rfl h1
  | ne => exact absurd rfl h2
  | _ =>
    cases x with
    | dat d => cases d with
      | int i => cases y with
        | dat e => cases e with
          | int j => exact absurd rfl (hn i j rfl)
          | _ => rfl
        | _ => rfl
      | _ => rfl
    | _ => rfl
end
end MP
set_option Elab.async false
set_option linter.all false
set_option maxRecDepth 100000
set_option maxHeartbeats 4000000
/-! MPBuilt: subscripts, fields, built-in functions, methods of lists. -/
namespace MP
open PySem PySem.Spec PyProof.Rows L2
section
variable {K : PySem.W.Frag} {w w' : Wd} {S : Store} {X : Cx}
theorem ixAny : IxR X (fun x y H Q => rIxL X.K x y H Q ∨ rIxT X.K x y H Q) := ix_list.or ix_tup
theorem Rels.at {rs : List R} {vs : List V} {i : Int} {r : R} (h : Rels K w rs vs) (e : atI rs i = some r) : ∃ v, atI vs i = some v ∧ Rel K w r v := by
  unfold atI at e ⊢
  rw [h.length] at e
  cases q : ixN vs.length i with
  | none => rw [q] at e; cases e
  | some j =>
    rw [q] at e
    obtain ⟨v, e1, e2⟩ := h.get (show rs[j]? = some r from e)
    exact ⟨v, e1, e2⟩
theorem ix_ok : ∀ (w : Wd) (S : Store) (x y : R) (u v : V) (E : XK) (Q : VK), SR X.K w S → Rel X.K w x u → Rel X.K w y v → Hop X.K (Rel X.K) E w Q (ixR x y S) → (rIxL X.K u v w.H Q ∨ rIxT X.K u v w.H Q) := by
  intro w S x y u v E Q s rx ry h
  unfold ixR at h
  cases y with
  | dat d =>
    cases d with
    | int i =>
      cases e : itemsR S x with
      | none => rw [e] at h; exact h.elim
      | some rs =>
        rw [e] at h
        have hh : Hop X.K (Rel X.K) E w Q (match atR rs i with
          | some r => .ok r S
          | none => .stuck) := h
        obtain ⟨a, vs, e1, q, hz, h2⟩ := items_ok s rx e
        cases e2 : atR rs i with
        | none => rw [e2] at hh; exact hh.elim
        | some r =>
          rw [e2] at hh
          obtain ⟨z, e3, e4⟩ := h2.at e2
          have fin := hh w z (Ext.refl w) s e4
          rcases q with q | q
          · exact .inl ⟨a, vs, i, z, e1, ry, .of q, e3, fin⟩
          · exact .inr ⟨a, vs, i, z, e1, ry, .of q, e3, fin⟩
    | _ => exact h.elim
  | _ => exact h.elim
theorem Rels.cut' {rs : List R} {vs : List V} (h : Rels K w rs vs) (lo hi : Option Int) : Rels K w (cutR rs lo hi) (cutV vs lo hi) := by
  unfold cutR cutV
  rw [h.length]
  exact (h.drop _).take _
theorem Reps.toRels {ds : List D} {vs : List V} : Rels K w (ds.map R.dat) vs → Reps K w ds vs := by
  induction ds generalizing vs with
  | nil => exact id
  | cons d l ih => exact fun ⟨v, u, e, h1, h2⟩ => ⟨v, u, e, h1, ih h2⟩
theorem cut_map {α β : Type} (f : α → β) (l : List α) (lo hi : Option Int) : cutR (l.map f) lo hi = (cutR l lo hi).map f := by
  unfold cutR
  rw [List.length_map, List.map_take, List.map_drop]
theorem sl_ok (m : Bool) (lo hi : Option Int) : ∀ (w : Wd) (S : Store) (x : R) (u : V) (E : XK) (Q : VK), SR X.K w S → Rel X.K w x u → Hop X.K (Rel X.K) E w Q (slR m x lo hi S) → rSlL X.K u lo hi w.H Q := by
  intro w S x u E Q s rx h
  have gen : Hop X.K (Rel X.K) E w Q (match itemsL S x with
    | some rs => mkL m (cutR rs lo hi) S
    | none => .stuck) → rSlL X.K u lo hi w.H Q := fun h => by
    cases e : itemsL S x with
    | none => rw [e] at h; exact h.elim
    | some rs =>
      rw [e] at h
      obtain ⟨a, vs, e1, q, hz, h2⟩ := items_lst s rx e
      exact ⟨a, vs, e1, .of q, fun p hp => mkL_ok s (Nat.le_trans (cutV_length _ _ _) hz) (h2.cut' lo hi) h p hp⟩
  cases x with
  | dat d =>
    cases d with
    | slst l =>
      obtain ⟨a, vs, e1, q, hz, h2⟩ := rx
      have h2' := (Reps.dat h2).cut' lo hi
      rw [cut_map] at h2'
      refine ⟨a, vs, e1, ?_, fun p hp => ?_⟩
      · rcases q with ⟨_, q | ⟨o, q⟩⟩ | q
        · exact .inl (.inl q)
        · exact .inl (.inr ⟨o, q⟩)
        · exact .inr q
      · have x := ext_new (o := .lst (cutV vs lo hi)) s hp
        exact h (w.new p (.lst (cutV vs lo hi))) (.ref p) x (s.new hp) ⟨p, _, rfl, nlive_new s hp, new_same, Nat.le_trans (cutV_length _ _ _) hz, (Reps.toRels h2').ext x⟩
    | _ => exact gen h
  | _ => exact gen h
/-! ### fields -/
theorem lookup_at : ∀ {fs : List (Str × V)} {j : Nat} {f : Str} {v : V}, (fs.map (·.1))[j]? = some f → (fs.map (·.1)).Nodup → (fs.map (·.2))[j]? = some v → fs.lookup f = some v
  | [], j, _, _, h, _, _ => by simp at h
  | (g, x) :: r, 0, f, v, h, _, h2 => by
    simp at h h2
    subst h h2
    simp [List.lookup]
  | (g, x) :: r, j + 1, f, v, h, nd, h2 => by
    rw [List.map_cons, List.nodup_cons] at nd
    have h' : (r.map (·.1))[j]? = some f := by simpa using h
    have h2' : (r.map (·.2))[j]? = some v := by simpa using h2
    have ne : f ≠ g := fun e => nd.1 (by rw [← e]; exact List.mem_of_getElem? h')
    rw [lookup_put, if_neg ne]
    exact lookup_at h' nd.2 h2'
/-! ### built-in functions -/
theorem cr_sumT (hc : X.calm = true) : CallR X (.builtin "sum") (fun vs H Q => ∃ (a : Addr) (ns : List Int), vs = [V.ref a] ∧ SqT X.K H a (ns.map V.int) ∧ Q (.int ns.sum) H) := by
  intro pins s σ H vs us Q I r h
  obtain ⟨a, ns, rfl, hs, q⟩ := h
  obtain ⟨its, rv, hl, _⟩ := I.tuple hs
  rw [Vals.ref1 r]
  have hi : IntsAre its ns := rv.ints
  obtain ⟨xs, ex⟩ := hi.allInts.items
  have hn : numsOf (intItems xs).toList = ns := by rw [← ex]; exact hi.numsOf
  rw [nums_intItems] at hn
  have ht : s.heap.IsTuple a (intItems xs) := by
    rw [← ex]
    exact hl
  refine PySem.W.ktm_sumG (I.ok.hd hc) ht fun h' tk t' hk => ⟨.int ns.sum, H, I.kept hk, ⟨t', ?_⟩, q⟩
  rw [preSum_eq, List.take_of_length_le (by simp), hn]
theorem cr_sumAny (hc : X.calm = true) : CallR X (.builtin "sum") (fun vs H Q => rSum X.K vs H Q ∨ ∃ (a : Addr) (ns : List Int), vs = [V.ref a] ∧ SqT X.K H a (ns.map V.int) ∧ Q (.int ns.sum) H) := CallR.or (cr_sum hc) (cr_sumT hc)
theorem log_wide {n : Nat} (h : n.log2 < 9000) : (max 1 n).log2 / 30 + 1 ≤ 450 := by
  have : (max 1 n).log2 < 9000 := by
    rcases Nat.le_total 1 n with q | q
    · rw [Nat.max_eq_right q]; exact h
    · rw [Nat.max_eq_left q]; decide
  omega
theorem log_max {n m : Nat} (h : n.log2 < 9000) (h' : m.log2 < 9000) : (max n m).log2 / 30 + 1 ≤ 450 := by
  have : (max n m).log2 < 9000 := by
    rcases Nat.le_total n m with q | q
    · rw [Nat.max_eq_right q]; exact h'
    · rw [Nat.max_eq_left q]; exact h
  omega
theorem lt_log {n k : Nat} (h : n.log2 < k) : n < 2 ^ k := by
  by_cases e : n = 0
  · rw [e]; exact Nat.two_pow_pos k
  · exact (Nat.log2_lt e).mp h
theorem cr_lcm : CallR X (.builtin "math.lcm") (fun vs H Q => ∃ a b : Int, vs = [.int a, .int b] ∧ a.natAbs.log2 < 9000 ∧ b.natAbs.log2 < 9000 ∧ Q (.int ((Nat.lcm a.natAbs b.natAbs : Nat) : Int)) H) := by
  intro pins s σ H vs us Q I r h
  obtain ⟨a, b, rfl, ha, hb, q⟩ := h
  obtain ⟨t, u, rfl⟩ := Vals.int2 r
  have e1 : (Nat.lcm 1 a.natAbs).lcm b.natAbs = Nat.lcm a.natAbs b.natAbs := by rw [Nat.lcm_one_left]
  have hz : ((((Nat.lcm 1 a.natAbs).lcm b.natAbs : Nat) : Int)).natAbs.log2 < bitsLine := by
    rw [e1, Int.natAbs_natCast]
    have l1 := lt_log ha
    have l2 := lt_log hb
    have l3 : Nat.lcm a.natAbs b.natAbs < 2 ^ 18000 := by
      have : Nat.lcm a.natAbs b.natAbs ≤ a.natAbs * b.natAbs := by
        unfold Nat.lcm
        exact Nat.div_le_self _ _
      refine Nat.lt_of_le_of_lt this ?_
      have : a.natAbs * b.natAbs < 2 ^ 9000 * 2 ^ 9000 := Nat.mul_lt_mul_of_lt_of_le l1 (Nat.le_of_lt l2) (Nat.two_pow_pos _)
      rw [← Nat.pow_add] at this
      exact this
    have l4 : (Nat.lcm a.natAbs b.natAbs).log2 < 18000 := by
      by_cases e0 : Nat.lcm a.natAbs b.natAbs = 0
      · rw [e0]; decide
      · exact (Nat.log2_lt e0).mpr l3
    show (Nat.lcm a.natAbs b.natAbs).log2 < 2 ^ 27
    omega
  have g := PySem.W.mg_run_lcm a t b u (Nat.not_lt.mpr (log_wide ha)) (Nat.not_lt.mpr (log_max ha hb)) hz
  refine PySem.call_function_meets PySem.W.MGF.kind_lcm PySem.W.MGF.plain_lcm PySem.W.MGF.entry_lcm (PySem.W.MGF.args_lcm _ _) g.meets ?_
  exact ⟨.int _, H, I.tok _, ⟨_, by rw [e1]⟩, q⟩
end
end MP
set_option Elab.async false
set_option linter.all false
set_option maxRecDepth 100000
set_option maxHeartbeats 4000000
/-! MPExpr: each form of expression. -/
namespace MP
open PySem PySem.Spec PyProof.Rows L2
section
variable {X : Cx} {xr : XR} {W : WX} {a b e : Expr} {es : List Expr} {ma mb : MP.Env → M R} {ms : MP.Env → M (List R)} {pos p p0 p1 p2 : Pos}
/-! ### argument lists -/
theorem a_nil : AOk X xr W [] (fun _ => M.pure []) := ⟨_, pa_nil, fun σ w S ρ Q er sr h => hop_pure h sr rfl⟩
theorem a_cons (hx : xr.Ok) (ha : EOk X xr W e ma) (hr : AOk X xr W es ms) (hs : starEach (e :: es) X.env = (false, eval e X.env) :: starEach es X.env) :
    AOk X xr W (e :: es) (fun ρ => M.bind (ma ρ) fun x => M.bind (ms ρ) fun xs => M.pure (x :: xs)) := by
  obtain ⟨ta, pa, qa⟩ := ha
  obtain ⟨ts, ps, qs⟩ := hr
  refine ⟨_, pa_cons pa ps hs, fun σ w S ρ Q er sr h => qa σ w S ρ _ er sr (h.bind fun w1 x u S1 e1 s1 rx h1 => qs σ w1 S1 ρ _ (er.ext hx e1) s1 (h1.bind fun w2 xs us S2 e2 s2 rs h2 => ?_))⟩
  exact hop_pure h2 s2 ⟨u, us, rfl, rx.ext e2, rs⟩
/-! ### displays -/
theorem e_lst (m : Bool) (hs : AOk X xr W es ms) (hl : ∀ ρ S rs S', ms ρ S = .ok rs S' → rs.length ≤ 1000) : EOk X xr W (.List es pos) (fun ρ => M.bind (ms ρ) (mkL m)) := by
  obtain ⟨ts, ps, qs⟩ := hs
  refine ⟨_, pe_lst ps, fun σ w S ρ Q er sr h => ?_⟩
  have h' : Hop X.K (Rel X.K) (WE W σ) w Q (M.bind (M.bind (ms ρ) fun rs => fun S' => if rs.length ≤ 1000 then .ok rs S' else .stuck) (mkL m) S) := by
    have e : M.bind (M.bind (ms ρ) fun rs => fun S' => if rs.length ≤ 1000 then Res.ok rs S' else .stuck) (mkL m) S = M.bind (ms ρ) (mkL m) S := by
      unfold M.bind
      cases q : ms ρ S with
      | ok rs S' =>
        have := hl ρ S rs S' q
        simp only [if_pos this]
      | _ => rfl
    rw [e]
    exact h
  rw [bind_assoc] at h'
  refine qs σ w S ρ _ er sr (h'.bind fun w1 rs us S1 e1 s1 rr h1 => ?_)
  unfold M.bind at h1
  by_cases hz : rs.length ≤ 1000
  · simp only [if_pos hz] at h1
    have l := rr.length
    have z : us.length ≤ sizeLine := by
      have := line_eq
      omega
    exact ⟨z, fun q hq => mkL_ok s1 z rr h1 q hq⟩
  · simp only [if_neg hz] at h1
    exact h1.elim
theorem e_tup {k : Nat} (hs : AOk X xr W es ms) (hl : ∀ ρ S rs S', ms ρ S = .ok rs S' → rs.length ≤ 1000) : EOk X xr W (.Tuple es k pos) (fun ρ => M.bind (ms ρ) mkT) := by
  obtain ⟨ts, ps, qs⟩ := hs
  refine ⟨_, pe_tup ps, fun σ w S ρ Q er sr h => ?_⟩
  have h' : Hop X.K (Rel X.K) (WE W σ) w Q (M.bind (M.bind (ms ρ) fun rs => fun S' => if rs.length ≤ 1000 then .ok rs S' else .stuck) mkT S) := by
    have e : M.bind (M.bind (ms ρ) fun rs => fun S' => if rs.length ≤ 1000 then Res.ok rs S' else .stuck) mkT S = M.bind (ms ρ) mkT S := by
      unfold M.bind
      cases q : ms ρ S with
      | ok rs S' =>
        have := hl ρ S rs S' q
        simp only [if_pos this]
      | _ => rfl
    rw [e]
    exact h
  rw [bind_assoc] at h'
  refine qs σ w S ρ _ er sr (h'.bind fun w1 rs us S1 e1 s1 rr h1 => ?_)
  unfold M.bind at h1
  by_cases hz : rs.length ≤ 1000
  · simp only [if_pos hz] at h1
    have l := rr.length
    have z : us.length ≤ sizeLine := by
      have := line_eq
      omega
    exact ⟨z, fun q hq => mkT_ok s1 z rr h1 q hq⟩
  · simp only [if_neg hz] at h1
    exact h1.elim
/-! ### subscripts -/
theorem e_ix (hx : xr.Ok) (hs : PlainIx b) (ha : EOk X xr W a ma) (hb : EOk X xr W b mb) : EOk X xr W (.Subscript a b pos) (fun ρ => M.bind (ma ρ) fun x => M.bind (mb ρ) fun y => ixR x y) := by
  obtain ⟨ta, pa, qa⟩ := ha
  obtain ⟨tb, pb, qb⟩ := hb
  refine ⟨_, pe_ix ixAny pa pb hs, fun σ w S ρ Q er sr h => qa σ w S ρ _ er sr (h.bind fun w1 x u S1 e1 s1 rx h1 => qb σ w1 S1 ρ _ (er.ext hx e1) s1 (h1.bind fun w2 y v S2 e2 s2 ry h2 => ?_))⟩
  exact ix_ok w2 S2 x y u v _ Q s2 (rx.ext e2) ry h2
def POk (X : Cx) (xr : XR) (W : WX) (o : Option Expr) (m : MP.Env → M (Option Int)) : Prop :=
  ∃ t, PO X o t ∧ ∀ σ w S ρ Q, EnvR X.K xr w σ ρ → SR X.K w S → Hop X.K (fun _ a v => a = v) (WE W σ) w Q (m ρ S) → t σ w.H Q
theorem o_none : POk X xr W none (fun _ => M.pure none) := ⟨_, po_none, fun σ w S ρ Q er sr h => hop_pure (rel := fun _ a v => a = v) h sr rfl⟩
theorem o_some (ha : EOk X xr W a ma) : POk X xr W (some a) (fun ρ => M.bind (ma ρ) fun x => optI [x]) := by
  obtain ⟨ta, pa, qa⟩ := ha
  refine ⟨_, po_some pa, fun σ w S ρ Q er sr h => qa σ w S ρ _ er sr (h.bind fun w1 x u S1 e1 s1 rx h1 => ?_)⟩
  cases x with
  | dat d =>
    cases d with
    | int i => exact ⟨i, rx, hop_pure (rel := fun _ a v => a = v) h1 s1 rfl⟩
    | _ => exact h1.elim
  | _ => exact h1.elim
theorem e_sl (m : Bool) (hx : xr.Ok) {lo hi : Option Expr} {ml mh : MP.Env → M (Option Int)} (ha : EOk X xr W a ma) (hl : POk X xr W lo ml) (hh : POk X xr W hi mh) :
    EOk X xr W (.Subscript a (.Slice lo hi none p2) pos) (fun ρ => M.bind (ma ρ) fun x => M.bind (ml ρ) fun l => M.bind (mh ρ) fun h => slR m x l h) := by
  obtain ⟨ta, pa, qa⟩ := ha
  obtain ⟨tl, pl, ql⟩ := hl
  obtain ⟨th, ph, qh⟩ := hh
  refine ⟨_, pe_slice sl_list pa pl ph, fun σ w S ρ Q er sr h => qa σ w S ρ _ er sr (h.bind fun w1 x u S1 e1 s1 rx h1 => ql σ w1 S1 ρ _ (er.ext hx e1) s1 (h1.bind fun w2 l l' S2 e2 s2 rl h2 =>
    qh σ w2 S2 ρ _ ((er.ext hx e1).ext hx e2) s2 (h2.bind fun w3 r r' S3 e3 s3 rr h3 => ?_)))⟩
  have el : l = l' := rl
  have eh : r = r' := rr
  subst el eh
  exact sl_ok m l r w3 S3 x u _ Q s3 ((rx.ext e2).ext e3) h3
/-! ### calls of built-ins -/
theorem e_bi {id : String} {x : Str} {r : List V → Hp → VK → Prop} {f : List R → M R} (hx : xr.Ok) (hc : CallR X (.builtin id) r) (hg : Gl X x) (hm : X.mg x = none) (hv : bootBuiltins x = some (.builtin id)) (hn : x ≠ "__name__") (hdb : (x == ("__debug__" : Str)) = false)
    (he : starEach (e :: es) X.env = (false, eval e X.env) :: starEach es X.env) (hpl : (backTo pos (starEach es X.env)).any (·.1) = false) (ha : EOk X xr W e ma) (hs : AOk X xr W es ms)
    (hr : ∀ w S xs vs E Q, SR X.K w S → Rels X.K w xs vs → Hop X.K (Rel X.K) E w Q (f xs S) → r vs w.H Q) :
    EOk X xr W (.Call (.Name x p) (e :: es) [] pos) (fun ρ => M.bind (ma ρ) fun x => M.bind (ms ρ) fun xs => f (x :: xs)) := by
  obtain ⟨ta, pa, qa⟩ := ha
  obtain ⟨ts, ps, qs⟩ := hs
  refine ⟨_, pe_callB hc hg hm hv (pa_cons pa ps he) hn hdb he hpl, fun σ w S ρ Q er sr h => qa σ w S ρ _ er sr (h.bind fun w1 x u S1 e1 s1 rx h1 => qs σ w1 S1 ρ _ (er.ext hx e1) s1 (h1.bind fun w2 xs us S2 e2 s2 rs h2 => ?_))⟩
  exact hr w2 S2 (x :: xs) (u :: us) _ Q s2 ⟨u, us, rfl, rx.ext e2, rs⟩ h2
theorem e_biT {id : String} {x : Str} {r : List V → Hp → VK → Prop} {f : List R → M R} (hx : xr.Ok) (hc : CallR X (.type id) r) (hg : Gl X x) (hm : X.mg x = none) (hv : bootBuiltins x = some (.type id)) (hn : x ≠ "__name__") (hdb : (x == ("__debug__" : Str)) = false)
    (he : starEach (e :: es) X.env = (false, eval e X.env) :: starEach es X.env) (hpl : (backTo pos (starEach es X.env)).any (·.1) = false) (ha : EOk X xr W e ma) (hs : AOk X xr W es ms)
    (hr : ∀ w S xs vs E Q, SR X.K w S → Rels X.K w xs vs → Hop X.K (Rel X.K) E w Q (f xs S) → r vs w.H Q) :
    EOk X xr W (.Call (.Name x p) (e :: es) [] pos) (fun ρ => M.bind (ma ρ) fun x => M.bind (ms ρ) fun xs => f (x :: xs)) := by
  obtain ⟨ta, pa, qa⟩ := ha
  obtain ⟨ts, ps, qs⟩ := hs
  refine ⟨_, pe_callTy hc hg hm hv (pa_cons pa ps he) hn hdb he hpl, fun σ w S ρ Q er sr h => qa σ w S ρ _ er sr (h.bind fun w1 x u S1 e1 s1 rx h1 => qs σ w1 S1 ρ _ (er.ext hx e1) s1 (h1.bind fun w2 xs us S2 e2 s2 rs h2 => ?_))⟩
  exact hr w2 S2 (x :: xs) (u :: us) _ Q s2 ⟨u, us, rfl, rx.ext e2, rs⟩ h2
theorem hop_ok {α β : Type} {rel : Wd → α → β → Prop} {K : PySem.W.Frag} {E : XK} {w : Wd} {Q : β → Hp → Prop} {a : α} {v : β} {S : Store} (h : Hop K rel E w Q (.ok a S)) (s : SR K w S) (r : rel w a v) : Q v w.H := h w v (Ext.refl w) s r
theorem one_of {K : PySem.W.Frag} {w : Wd} {x : R} {xs : List R} {vs : List V} (h : Rels K w (x :: xs) vs) : ∃ v us, vs = v :: us ∧ Rel K w x v ∧ Rels K w xs us := h
theorem nil_of {K : PySem.W.Frag} {w : Wd} {vs : List V} (h : Rels K w [] vs) : vs = [] := h
theorem intsR_cons {x : R} {xs : List R} {ns : List Int} (h : intsR (x :: xs) = some ns) : ∃ i is, ns = i :: is := by
  cases x with
  | dat d =>
    cases d with
    | int i =>
      obtain ⟨is, _, e⟩ := Option.map_eq_some_iff.mp (show (intsR xs).map (i :: ·) = some ns from h)
      exact ⟨i, is, e.symm⟩
    | _ => cases h
  | _ => cases h
/-- len -/
theorem len_ok (m : Bool) : ∀ (w : Wd) (S : Store) (xs : List R) (vs : List V) (E : XK) (Q : VK), SR X.K w S → Rels X.K w xs vs → Hop X.K (Rel X.K) E w Q (biR m .len xs S) → (∃ p ys, vs = [.ref p] ∧ (SqL X.K w.H p ys ∨ SqT X.K w.H p ys) ∧ Q (.int ys.length) w.H) := by
  intro w S xs vs E Q s r h
  match xs, r, h with
  | [], _, h => exact h.elim
  | [x], r, h =>
    obtain ⟨v, us, e1, r1, r2⟩ := one_of r
    have e2 := nil_of r2
    subst e1 e2
    have hh : Hop X.K (Rel X.K) E w Q (match itemsR S x with
      | some xs => .ok (.dat (.int xs.length)) S
      | none => .stuck) := h
    cases e : itemsR S x with
    | none => rw [e] at hh; exact hh.elim
    | some rs =>
      rw [e] at hh
      obtain ⟨a, ys, e3, q, hz, h2⟩ := items_sq s r1 e
      exact ⟨a, ys, by rw [e3], q, hop_ok hh s (by rw [← h2.length]; rfl)⟩
  | _ :: _ :: _, _, h => exact h.elim
theorem sum_ok (m : Bool) : ∀ (w : Wd) (S : Store) (xs : List R) (vs : List V) (E : XK) (Q : VK), SR X.K w S → Rels X.K w xs vs → Hop X.K (Rel X.K) E w Q (biR m .sum xs S) →
    (rSum X.K vs w.H Q ∨ ∃ (a : Addr) (ns : List Int), vs = [V.ref a] ∧ SqT X.K w.H a (ns.map V.int) ∧ Q (.int ns.sum) w.H) := by
  intro w S xs vs E Q s r h
  match xs, r, h with
  | [], _, h => exact h.elim
  | [x], r, h =>
    obtain ⟨v, us, e1, r1, r2⟩ := one_of r
    have e2 := nil_of r2
    subst e1 e2
    have hh : Hop X.K (Rel X.K) E w Q (match (itemsR S x).bind intsR with
      | some xs => .ok (.dat (.int xs.sum)) S
      | none => .stuck) := h
    cases e : itemsR S x with
    | none => rw [e] at hh; exact hh.elim
    | some rs =>
      cases e4 : intsR rs with
      | none =>
        rw [e] at hh
        simp only [Option.bind_some, e4] at hh
        exact hh.elim
      | some ns =>
        rw [e] at hh
        simp only [Option.bind_some, e4] at hh
        obtain ⟨a, ys, e3, q, hz, h2⟩ := items_sq s r1 e
        have e5 := h2.ints e4
        subst e5
        rcases q with q | q
        · exact .inl ⟨a, ns, by rw [e3], q, hop_ok hh s rfl⟩
        · exact .inr ⟨a, ns, by rw [e3], q, hop_ok hh s rfl⟩
  | _ :: _ :: _, _, h => exact h.elim
theorem abs_ok (m : Bool) : ∀ (w : Wd) (S : Store) (xs : List R) (vs : List V) (E : XK) (Q : VK), SR X.K w S → Rels X.K w xs vs → Hop X.K (Rel X.K) E w Q (biR m .abs xs S) → (∃ i, vs = [.int i] ∧ Q (.int (if i < 0 then -i else i)) w.H) := by
  intro w S xs vs E Q s r h
  match xs, r, h with
  | [], _, h => exact h.elim
  | [x], r, h =>
    obtain ⟨v, us, e1, r1, r2⟩ := one_of r
    have e2 := nil_of r2
    subst e1 e2
    cases x with
    | dat d =>
      cases d with
      | int i =>
        have e3 : v = .int i := r1
        subst e3
        exact ⟨i, rfl, hop_ok h s rfl⟩
      | _ => exact h.elim
    | _ => exact h.elim
  | x :: _ :: _, _, h =>
    cases x with
    | dat d => cases d <;> exact h.elim
    | _ => exact h.elim
theorem int_ok (m : Bool) : ∀ (w : Wd) (S : Store) (xs : List R) (vs : List V) (E : XK) (Q : VK), SR X.K w S → Rels X.K w xs vs → Hop X.K (Rel X.K) E w Q (biR m .int xs S) → ((∃ i, vs = [.int i] ∧ Q (.int i) w.H) ∨ ∃ k, vs = [.bl k] ∧ Q (.int (if k then 1 else 0)) w.H) := by
  intro w S xs vs E Q s r h
  match xs, r, h with
  | [], _, h => exact h.elim
  | [x], r, h =>
    obtain ⟨v, us, e1, r1, r2⟩ := one_of r
    have e2 := nil_of r2
    subst e1 e2
    cases x with
    | dat d =>
      cases d with
      | int i =>
        have e3 : v = .int i := r1
        subst e3
        exact .inl ⟨i, rfl, hop_ok h s rfl⟩
      | bl i =>
        have e3 : v = .bl i := r1
        subst e3
        exact .inr ⟨i, rfl, hop_ok h s rfl⟩
      | _ => exact h.elim
    | _ => exact h.elim
  | x :: _ :: _, _, h =>
    cases x with
    | dat d => cases d <;> exact h.elim
    | _ => exact h.elim
theorem foldl_max (l : List Int) : ∀ a : Int, l.foldl max a = a ∨ l.foldl max a ∈ l := by
  induction l with
  | nil => exact fun a => .inl rfl
  | cons x l ih =>
    intro a
    rw [List.foldl_cons]
    rcases ih (max a x) with h | h
    · rw [h]
      rcases Int.le_total a x with q | q
      · rw [Int.max_eq_right q]; exact .inr List.mem_cons_self
      · rw [Int.max_eq_left q]; exact .inl rfl
    · exact .inr (List.mem_cons_of_mem _ h)
theorem foldl_max_le (l : List Int) : ∀ a : Int, a ≤ l.foldl max a ∧ ∀ y ∈ l, y ≤ l.foldl max a := by
  induction l with
  | nil => exact fun a => ⟨Int.le_refl _, fun y h => absurd h (by simp)⟩
  | cons x l ih =>
    intro a
    rw [List.foldl_cons]
    obtain ⟨h1, h2⟩ := ih (max a x)
    refine ⟨Int.le_trans (Int.le_max_left a x) h1, fun y hy => ?_⟩
    rcases List.mem_cons.mp hy with e | e
    · rw [e]; exact Int.le_trans (Int.le_max_right a x) h1
    · exact h2 y e
theorem foldl_min (l : List Int) : ∀ a : Int, l.foldl min a = a ∨ l.foldl min a ∈ l := by
  induction l with
  | nil => exact fun a => .inl rfl
  | cons x l ih =>
    intro a
    rw [List.foldl_cons]
    rcases ih (min a x) with h | h
    · rw [h]
      rcases Int.le_total a x with q | q
      · rw [Int.min_eq_left q]; exact .inl rfl
      · rw [Int.min_eq_right q]; exact .inr List.mem_cons_self
    · exact .inr (List.mem_cons_of_mem _ h)
theorem foldl_min_le (l : List Int) : ∀ a : Int, l.foldl min a ≤ a ∧ ∀ y ∈ l, l.foldl min a ≤ y := by
  induction l with
  | nil => exact fun a => ⟨Int.le_refl _, fun y h => absurd h (by simp)⟩
  | cons x l ih =>
    intro a
    rw [List.foldl_cons]
    obtain ⟨h1, h2⟩ := ih (min a x)
    refine ⟨Int.le_trans h1 (Int.min_le_left a x), fun y hy => ?_⟩
    rcases List.mem_cons.mp hy with e | e
    · rw [e]; exact Int.le_trans h1 (Int.min_le_right a x)
    · exact h2 y e
theorem max_mem {l : List Int} {m : Int} (hm : m ∈ l) (hb : ∀ y ∈ l, y ≤ m) : maxI l = m := by
  cases l with
  | nil => cases hm
  | cons x l =>
    obtain ⟨h1, h2⟩ := foldl_max_le l x
    have up : m ≤ maxI (x :: l) := by
      rcases List.mem_cons.mp hm with e | e
      · rw [e]; exact h1
      · exact h2 m e
    have dn : maxI (x :: l) ≤ m := by
      rcases foldl_max l x with e | e
      · show l.foldl max x ≤ m
        rw [e]; exact hb x List.mem_cons_self
      · exact hb _ (List.mem_cons_of_mem _ e)
    exact Int.le_antisymm dn up
theorem min_mem {l : List Int} {m : Int} (hm : m ∈ l) (hb : ∀ y ∈ l, m ≤ y) : minI l = m := by
  cases l with
  | nil => cases hm
  | cons x l =>
    obtain ⟨h1, h2⟩ := foldl_min_le l x
    have up : minI (x :: l) ≤ m := by
      rcases List.mem_cons.mp hm with e | e
      · rw [e]; exact h1
      · exact h2 m e
    have dn : m ≤ minI (x :: l) := by
      rcases foldl_min l x with e | e
      · show m ≤ l.foldl min x
        rw [e]; exact hb x List.mem_cons_self
      · exact hb _ (List.mem_cons_of_mem _ e)
    exact Int.le_antisymm up dn
theorem cr_maxAny (hc : X.calm = true) : CallR X (.builtin "max") (fun xs H Q => (∃ i j, xs = [.int i, .int j] ∧ Q (.int (if j > i then j else i)) H) ∨ rMax X.K xs H Q) := CallR.or (call_max2 hc) (cr_max hc)
theorem cr_minAny (hc : X.calm = true) : CallR X (.builtin "min") (fun xs H Q => (∃ i j, xs = [.int i, .int j] ∧ Q (.int (if j < i then j else i)) H) ∨ rMin X.K xs H Q) := CallR.or (call_min2 hc) (cr_min hc)
theorem max_ok (m : Bool) : ∀ (w : Wd) (S : Store) (xs : List R) (vs : List V) (E : XK) (Q : VK), SR X.K w S → Rels X.K w xs vs → Hop X.K (Rel X.K) E w Q (biR m .max xs S) →
    ((∃ i j, vs = [.int i, .int j] ∧ Q (.int (if j > i then j else i)) w.H) ∨ rMax X.K vs w.H Q) := by
  intro w S xs vs E Q s r h
  match xs, r, h with
  | [], _, h => exact h.elim
  | [x], r, h =>
    obtain ⟨v, us, e1, r1, r2⟩ := one_of r
    have e2 := nil_of r2
    subst e1 e2
    have hh : Hop X.K (Rel X.K) E w Q (match (itemsL S x).bind intsR with
      | some (x :: xs) => .ok (.dat (.int (maxI (x :: xs)))) S
      | _ => .stuck) := by
      cases x with
      | dat d => cases d <;> exact h
      | _ => exact h
    cases e : itemsL S x with
    | none => rw [e] at hh; exact hh.elim
    | some rs =>
      cases e4 : intsR rs with
      | none =>
        rw [e] at hh
        simp only [Option.bind_some, e4] at hh
        exact hh.elim
      | some ns =>
        rw [e] at hh
        simp only [Option.bind_some, e4] at hh
        cases ns with
        | nil => exact hh.elim
        | cons n ns =>
          obtain ⟨a, ys, e3, q, hz, h2⟩ := items_lst s r1 e
          have e5 := h2.ints e4
          subst e5
          exact .inr ⟨a, n :: ns, by rw [e3], .of q, by simp, fun k hk hb => by rw [← max_mem hk hb]; exact hop_ok hh s rfl⟩
  | [x, y], r, h =>
    obtain ⟨v, us, e1, r1, r2⟩ := one_of r
    obtain ⟨v2, us2, e3, r3, r4⟩ := one_of r2
    have e2 := nil_of r4
    subst e1 e3 e2
    cases x with
    | dat d =>
      cases d with
      | int i =>
        cases y with
        | dat e =>
          cases e with
          | int j =>
            have e3 : v = .int i := r1
            have e4 : v2 = .int j := r3
            subst e3 e4
            have q : Q (.int (max i j)) w.H := hop_ok h s rfl
            refine .inl ⟨i, j, rfl, ?_⟩
            have e : (if j > i then j else i) = max i j := by
              by_cases z : j > i
              · rw [if_pos z]; omega
              · rw [if_neg z]; omega
            rw [e]
            exact q
          | _ => exact h.elim
        | _ => exact h.elim
      | _ => exact h.elim
    | _ => exact h.elim
  | x :: y :: _ :: _, _, h =>
    cases x with
    | dat d =>
      cases d with
      | int i =>
        cases y with
        | dat d => cases d <;> exact h.elim
        | _ => exact h.elim
      | _ => exact h.elim
    | _ => exact h.elim
theorem min_ok (m : Bool) : ∀ (w : Wd) (S : Store) (xs : List R) (vs : List V) (E : XK) (Q : VK), SR X.K w S → Rels X.K w xs vs → Hop X.K (Rel X.K) E w Q (biR m .min xs S) →
    ((∃ i j, vs = [.int i, .int j] ∧ Q (.int (if j < i then j else i)) w.H) ∨ rMin X.K vs w.H Q) := by
  intro w S xs vs E Q s r h
  match xs, r, h with
  | [], _, h => exact h.elim
  | [x], r, h =>
    obtain ⟨v, us, e1, r1, r2⟩ := one_of r
    have e2 := nil_of r2
    subst e1 e2
    have hh : Hop X.K (Rel X.K) E w Q (match (itemsL S x).bind intsR with
      | some (x :: xs) => .ok (.dat (.int (minI (x :: xs)))) S
      | _ => .stuck) := by
      cases x with
      | dat d => cases d <;> exact h
      | _ => exact h
    cases e : itemsL S x with
    | none => rw [e] at hh; exact hh.elim
    | some rs =>
      cases e4 : intsR rs with
      | none =>
        rw [e] at hh
        simp only [Option.bind_some, e4] at hh
        exact hh.elim
      | some ns =>
        rw [e] at hh
        simp only [Option.bind_some, e4] at hh
        cases ns with
        | nil => exact hh.elim
        | cons n ns =>
          obtain ⟨a, ys, e3, q, hz, h2⟩ := items_lst s r1 e
          have e5 := h2.ints e4
          subst e5
          exact .inr ⟨a, n :: ns, by rw [e3], .of q, by simp, fun k hk hb => by rw [← min_mem hk hb]; exact hop_ok hh s rfl⟩
  | [x, y], r, h =>
    obtain ⟨v, us, e1, r1, r2⟩ := one_of r
    obtain ⟨v2, us2, e3, r3, r4⟩ := one_of r2
    have e2 := nil_of r4
    subst e1 e3 e2
    cases x with
    | dat d =>
      cases d with
      | int i =>
        cases y with
        | dat e =>
          cases e with
          | int j =>
            have e3 : v = .int i := r1
            have e4 : v2 = .int j := r3
            subst e3 e4
            have q : Q (.int (min i j)) w.H := hop_ok h s rfl
            refine .inl ⟨i, j, rfl, ?_⟩
            have e : (if j < i then j else i) = min i j := by
              by_cases z : j < i
              · rw [if_pos z]; omega
              · rw [if_neg z]; omega
            rw [e]
            exact q
          | _ => exact h.elim
        | _ => exact h.elim
      | _ => exact h.elim
    | _ => exact h.elim
  | x :: y :: _ :: _, _, h =>
    cases x with
    | dat d =>
      cases d with
      | int i =>
        cases y with
        | dat d => cases d <;> exact h.elim
        | _ => exact h.elim
      | _ => exact h.elim
    | _ => exact h.elim
theorem all_ok (m : Bool) : ∀ (w : Wd) (S : Store) (xs : List R) (vs : List V) (E : XK) (Q : VK), SR X.K w S → Rels X.K w xs vs → Hop X.K (Rel X.K) E w Q (biR m .all xs S) → rAll X.K vs w.H Q := by
  intro w S xs vs E Q s r h
  match xs, r, h with
  | [], _, h => exact h.elim
  | [x], r, h =>
    obtain ⟨v, us, e1, r1, r2⟩ := one_of r
    have e2 := nil_of r2
    subst e1 e2
    have hh : Hop X.K (Rel X.K) E w Q (match (itemsL S x).bind blsR with
      | some xs => .ok (.dat (.bl (xs.all id))) S
      | none => .stuck) := h
    cases e : itemsL S x with
    | none => rw [e] at hh; exact hh.elim
    | some rs =>
      cases e4 : blsR rs with
      | none =>
        rw [e] at hh
        simp only [Option.bind_some, e4] at hh
        exact hh.elim
      | some ns =>
        rw [e] at hh
        simp only [Option.bind_some, e4] at hh
        obtain ⟨a, ys, e3, q, hz, h2⟩ := items_lst s r1 e
        have e5 := h2.bls e4
        subst e5
        exact ⟨a, ns, by rw [e3], .of q, hop_ok hh s rfl⟩
  | _ :: _ :: _, _, h => exact h.elim
theorem list_ok (m : Bool) : ∀ (w : Wd) (S : Store) (xs : List R) (vs : List V) (E : XK) (Q : VK), SR X.K w S → Rels X.K w xs vs → Hop X.K (Rel X.K) E w Q (biR m .list xs S) → (∃ p ys, vs = [.ref p] ∧ (SqL X.K w.H p ys ∨ SqT X.K w.H p ys) ∧ ∀ l, w.H l = none → Q (.ref l) (upd w.H l (.lst ys))) := by
  intro w S xs vs E Q s r h
  match xs, r, h with
  | [], _, h => exact h.elim
  | [x], r, h =>
    obtain ⟨v, us, e1, r1, r2⟩ := one_of r
    have e2 := nil_of r2
    subst e1 e2
    have hh : Hop X.K (Rel X.K) E w Q (match itemsR S x with
      | some xs => mkL m xs S
      | none => .stuck) := h
    cases e : itemsR S x with
    | none => rw [e] at hh; exact hh.elim
    | some rs =>
      rw [e] at hh
      obtain ⟨a, ys, e3, q, hz, h2⟩ := items_sq s r1 e
      exact ⟨a, ys, by rw [e3], q, fun l hl => mkL_ok s hz h2 hh l hl⟩
  | _ :: _ :: _, _, h => exact h.elim
theorem tuple_ok (m : Bool) : ∀ (w : Wd) (S : Store) (xs : List R) (vs : List V) (E : XK) (Q : VK), SR X.K w S → Rels X.K w xs vs → Hop X.K (Rel X.K) E w Q (biR m .tuple xs S) →
    (∃ p ys, vs = [.ref p] ∧ ((SqL X.K w.H p ys ∧ ∀ l, w.H l = none → Q (.ref l) (upd w.H l (.tup ys))) ∨ (SqT X.K w.H p ys ∧ Q (.ref p) w.H))) := by
  intro w S xs vs E Q s r h
  match xs, r, h with
  | [], _, h => exact h.elim
  | [x], r, h =>
    obtain ⟨v, us, e1, r1, r2⟩ := one_of r
    have e2 := nil_of r2
    subst e1 e2
    have hh : Hop X.K (Rel X.K) E w Q (if isTup S x = true then .ok x S else (match itemsR S x with
      | some xs => mkT xs S
      | none => .stuck)) := h
    by_cases ht : isTup S x = true
    · rw [if_pos ht] at hh
      have it : ∃ rs, itemsR S x = some rs := by
        cases x with
        | dat d => cases d with
          | tup l => exact ⟨_, rfl⟩
          | _ => cases ht
        | own k =>
          have ht' : (match S[k]? with
            | some (.tup _) => true
            | _ => false) = true := ht
          cases e : S[k]? with
          | none => rw [e] at ht'; cases ht'
          | some c =>
            rw [e] at ht'
            cases c with
            | tup rs => exact ⟨rs, by unfold itemsR; simp only [e]⟩
            | _ => cases ht'
        | exc c ns l => cases ht
      obtain ⟨rs, e⟩ := it
      obtain ⟨a, ys, e3, q, hz, h2⟩ := items_ok s r1 e
      have q2 : w.H a = some (.tup ys) := by
        rcases q with q | q
        · exfalso
          cases x with
          | dat d => cases d with
            | tup l =>
              obtain ⟨b, us, e4, _, h3, _⟩ := r1
              rw [e3] at e4
              cases e4
              rw [q] at h3
              cases h3
            | _ => cases ht
          | own k =>
            have ht' : (match S[k]? with
              | some (.tup _) => true
              | _ => false) = true := ht
            obtain ⟨hk, e4⟩ := r1
            obtain ⟨c, hc, hr⟩ := s.get hk
            rw [hc] at ht'
            rw [e3] at e4
            cases e4
            cases c with
            | tup rs =>
              obtain ⟨us, h3, _⟩ := hr
              rw [q] at h3
              cases h3
            | _ => cases ht'
          | exc c ns l => cases ht
        · exact q
      exact ⟨a, ys, by rw [e3], .inr ⟨.of q2, hop_ok hh s (by rw [← e3]; exact r1)⟩⟩
    · rw [if_neg ht] at hh
      cases e : itemsR S x with
      | none => rw [e] at hh; exact hh.elim
      | some rs =>
        rw [e] at hh
        have e0 : itemsL S x = some rs := by unfold itemsL; rw [if_neg ht]; exact e
        obtain ⟨a, ys, e3, q, hz, h2⟩ := items_lst s r1 e0
        exact ⟨a, ys, by rw [e3], .inl ⟨.of q, fun l hl => mkT_ok s hz h2 hh l hl⟩⟩
  | _ :: _ :: _, _, h => exact h.elim
end
end MP
set_option Elab.async false
set_option linter.all false
set_option maxRecDepth 100000
set_option maxHeartbeats 4000000
/-! MPCall: fields, methods of lists, isinstance, calls. -/
namespace MP
open PySem PySem.Spec PyProof.Rows L2
section
variable {K : PySem.W.Frag} {w w' : Wd}
theorem look_dat : ∀ {ns : List Str} {l : List D} {fs : List (Str × V)} {f : Str} {d : D}, lookA f ns l = some d → fs.map (·.1) = ns → Reps K w l (fs.map (·.2)) → ∃ v, fs.lookup f = some v ∧ Rep K w d v
  | [], l, fs, f, d, h, _, _ => by
    cases l <;> cases h
  | n :: ns, [], fs, f, d, h, _, _ => by cases h
  | n :: ns, x :: l, fs, f, d, h, e, r => by
    cases fs with
    | nil => cases e
    | cons q fs =>
      obtain ⟨g, v⟩ := q
      rw [List.map_cons] at e r
      injection e with e1 e2
      obtain ⟨v', u, e3, r1, r2⟩ := r
      injection e3 with e4 e5
      subst e1 e4 e5
      have h' : (if g = f then some x else lookA f ns l) = some d := h
      rw [lookup_put]
      by_cases z : g = f
      · rw [if_pos z] at h'
        cases h'
        rw [if_pos z.symm]
        exact ⟨v, rfl, r1⟩
      · rw [if_neg z] at h'
        rw [if_neg fun q => z q.symm]
        exact look_dat h' e2 r2
theorem look_rel : ∀ {ns : List Str} {l : List R} {fs : List (Str × V)} {f : Str} {d : R}, lookA f ns l = some d → fs.map (·.1) = ns → Rels K w l (fs.map (·.2)) → ∃ v, fs.lookup f = some v ∧ Rel K w d v
  | [], l, fs, f, d, h, _, _ => by
    cases l <;> cases h
  | n :: ns, [], fs, f, d, h, _, _ => by cases h
  | n :: ns, x :: l, fs, f, d, h, e, r => by
    cases fs with
    | nil => cases e
    | cons q fs =>
      obtain ⟨g, v⟩ := q
      rw [List.map_cons] at e r
      injection e with e1 e2
      obtain ⟨v', u, e3, r1, r2⟩ := r
      injection e3 with e4 e5
      subst e1 e4 e5
      have h' : (if g = f then some x else lookA f ns l) = some d := h
      rw [lookup_put]
      by_cases z : g = f
      · rw [if_pos z] at h'
        cases h'
        rw [if_pos z.symm]
        exact ⟨v, rfl, r1⟩
      · rw [if_neg z] at h'
        rw [if_neg fun q => z q.symm]
        exact look_rel h' e2 r2
end
section
variable {X : Cx} {xr : XR} {W : WX} {a b e : Expr} {es : List Expr} {ma mb : MP.Env → M R} {ms : MP.Env → M (List R)} {pos p p0 p1 p2 : Pos}
theorem attr_ok {c f : Str} (cl : Cls X.K (He.ga X.K c)) (na : NoAttr X.K (He.ga X.K c) f) : ∀ (w : Wd) (S : Store) (x : R) (u : V) (E : XK) (Q : VK), SR X.K w S → Rel X.K w x u → Hop X.K (Rel X.K) E w Q (attrR x c f S) →
    (∃ a C dx fs v, u = .ref a ∧ w.H a = some (.ins C dx fs) ∧ Cls X.K C ∧ NoAttr X.K C f ∧ fs.lookup f = some v ∧ Q v w.H) := by
  intro w S x u E Q s r h
  cases x with
  | dat d =>
    cases d with
    | obj c' ns l =>
      obtain ⟨a, dx, fs, e1, _, h1, h2, h3⟩ := r
      have hh : Hop X.K (Rel X.K) E w Q (if c' = c then (match lookA f ns l with
        | some d => .ok (.dat d) S
        | none => .stuck) else .stuck) := h
      by_cases z : c' = c
      · rw [if_pos z] at hh
        subst z
        cases q : lookA f ns l with
        | none => rw [q] at hh; exact hh.elim
        | some d =>
          rw [q] at hh
          obtain ⟨v, e2, e3⟩ := look_dat q h2 h3
          exact ⟨a, _, dx, fs, v, e1, h1, cl, na, e2, hop_ok hh s e3⟩
      · rw [if_neg z] at hh
        exact hh.elim
    | _ => exact h.elim
  | own k =>
    obtain ⟨hk, e1⟩ := r
    obtain ⟨cc, hc, hr⟩ := s.get hk
    unfold attrR at h
    cases cc with
    | obj c' ns rs =>
      obtain ⟨dx, fs, h1, h2, h3⟩ := hr
      simp only [hc] at h
      by_cases z : c' = c
      · rw [if_pos z] at h
        subst z
        cases q : lookA f ns rs with
        | none => rw [q] at h; exact h.elim
        | some d =>
          rw [q] at h
          obtain ⟨v, e2, e3⟩ := look_rel q h2 h3
          exact ⟨_, _, dx, fs, v, e1, h1, cl, na, e2, hop_ok h s e3⟩
      · rw [if_neg z] at h
        exact h.elim
    | lst rs => simp only [hc] at h; exact h.elim
    | tup rs => simp only [hc] at h; exact h.elim
  | exc c ns l => exact r.elim
theorem e_attr {c f : Str} (cl : Cls X.K (He.ga X.K c)) (na : NoAttr X.K (He.ga X.K c) f) (hb : attributeBase a f X.env (eval a X.env) = eval a X.env) (ha : EOk X xr W a ma) : EOk X xr W (.Attribute a f pos) (fun ρ => M.bind (ma ρ) fun x => attrR x c f) := by
  obtain ⟨ta, pa, qa⟩ := ha
  exact ⟨_, pe_fld pa hb, fun σ w S ρ Q er sr h => qa σ w S ρ _ er sr (h.bind fun w1 x u S1 e1 s1 rx h1 => attr_ok cl na w1 S1 x u _ Q s1 rx h1)⟩
/-! ### gcd, lcm -/
theorem e_gcd (hx : xr.Ok) {x : Str} (hg : Gl X x) (hm : X.mg x = some (.builtin "math.gcd")) (hdb : (x == ("__debug__" : Str)) = false) (he : starEach [a, b] X.env = (false, eval a X.env) :: starEach [b] X.env) (he2 : starEach [b] X.env = (false, eval b X.env) :: starEach [] X.env)
    (hpl : (backTo pos (starEach [b] X.env)).any (·.1) = false) (ha : EOk X xr W a ma) (hb : EOk X xr W b mb) : EOk X xr W (.Call (.Name x p0) [a, b] [] pos) (fun ρ => M.bind (ma ρ) fun x => M.bind (mb ρ) fun y => gcdR false x y) := by
  obtain ⟨ta, pa, qa⟩ := ha
  obtain ⟨tb, pb, qb⟩ := hb
  refine ⟨_, pe_callBfun cr_gcd hg hm (pa_cons pa (pa_cons pb pa_nil he2) he) hdb he hpl, fun σ w S ρ Q er sr h => qa σ w S ρ _ er sr (h.bind fun w1 x u S1 e1 s1 rx h1 => qb σ w1 S1 ρ _ (er.ext hx e1) s1 (h1.bind fun w2 y v S2 e2 s2 ry h2 => ?_))⟩
  cases x with
  | dat d =>
    cases d with
    | int i =>
      cases y with
      | dat d =>
        cases d with
        | int j =>
          have e3 : u = .int i := rx
          have e4 : v = .int j := ry
          subst e3 e4
          exact ⟨i, j, rfl, hop_ok h2 s2 rfl⟩
        | _ => exact h2.elim
      | _ => exact h2.elim
    | _ => exact h2.elim
  | _ => exact h2.elim
theorem e_lcm (hx : xr.Ok) {x : Str} (hg : Gl X x) (hm : X.mg x = some (.builtin "math.lcm")) (hdb : (x == ("__debug__" : Str)) = false) (he : starEach [a, b] X.env = (false, eval a X.env) :: starEach [b] X.env) (he2 : starEach [b] X.env = (false, eval b X.env) :: starEach [] X.env)
    (hpl : (backTo pos (starEach [b] X.env)).any (·.1) = false) (ha : EOk X xr W a ma) (hb : EOk X xr W b mb) : EOk X xr W (.Call (.Name x p0) [a, b] [] pos) (fun ρ => M.bind (ma ρ) fun x => M.bind (mb ρ) fun y => gcdR true x y) := by
  obtain ⟨ta, pa, qa⟩ := ha
  obtain ⟨tb, pb, qb⟩ := hb
  refine ⟨_, pe_callBfun cr_lcm hg hm (pa_cons pa (pa_cons pb pa_nil he2) he) hdb he hpl, fun σ w S ρ Q er sr h => qa σ w S ρ _ er sr (h.bind fun w1 x u S1 e1 s1 rx h1 => qb σ w1 S1 ρ _ (er.ext hx e1) s1 (h1.bind fun w2 y v S2 e2 s2 ry h2 => ?_))⟩
  cases x with
  | dat d =>
    cases d with
    | int i =>
      cases y with
      | dat d =>
        cases d with
        | int j =>
          have e3 : u = .int i := rx
          have e4 : v = .int j := ry
          subst e3 e4
          have hh : Hop X.K (Rel X.K) (WE W σ) w2 Q ((if decide (i.natAbs.log2 < 9000 ∧ j.natAbs.log2 < 9000) then .ok (.dat (.int (Nat.lcm i.natAbs j.natAbs))) S2 else .stuck : Res R)) := h2
          by_cases z : decide (i.natAbs.log2 < 9000 ∧ j.natAbs.log2 < 9000) = true
          · rw [if_pos z] at hh
            have z2 := of_decide_eq_true z
            exact ⟨i, j, rfl, z2.1, z2.2, hop_ok hh s2 rfl⟩
          · rw [if_neg z] at hh
            exact hh.elim
        | _ => exact h2.elim
      | _ => exact h2.elim
    | _ => exact h2.elim
  | _ => exact h2.elim
/-! ### methods of lists -/
theorem lm_at {K : PySem.W.Frag} {w : Wd} {S : Store} {x : R} {u : V} {E : XK} {Q : VK} {n : Lm} {rs : List R} (s : SR K w S) (r : Rel K w x u) (h : Hop K (Rel K) E w Q (lmR x n rs S)) :
    ∃ k xs vs, x = .own k ∧ k < w.n ∧ u = .ref (w.p k) ∧ S[k]? = some (.lst xs) ∧ w.H (w.p k) = some (.lst vs) ∧ vs.length ≤ sizeLine ∧ Rels K w xs vs := by
  cases x with
  | dat d => exact h.elim
  | exc c ns l => exact h.elim
  | own k =>
    obtain ⟨hk, e1⟩ := r
    obtain ⟨c, hc, hr⟩ := s.get hk
    unfold lmR at h
    cases c with
    | lst xs =>
      obtain ⟨vs, h1, hz, h2⟩ := hr
      exact ⟨k, xs, vs, rfl, hk, e1, hc, h1, hz, h2⟩
    | tup xs => simp only [hc] at h; exact h.elim
    | obj c ns xs => simp only [hc] at h; exact h.elim
theorem put_lst {K : PySem.W.Frag} {w : Wd} {S : Store} {k : Nat} {rs : List R} {vs : List V} (s : SR K w S) (hk : k < w.n) (hz : vs.length ≤ sizeLine) (h : Rels K w rs vs) : SR K (w.put k (.lst vs)) (S.set k (.lst rs)) :=
  s.put hk ⟨vs, upd_same, hz, h.ext (ext_put s hk)⟩
theorem lm_recv {K : PySem.W.Frag} {β : Type} {rel : Wd → Unit → β → Prop} {w : Wd} {S : Store} {x : R} {u : V} {E : XK} {Q : β → Hp → Prop} (s : SR K w S) (r : Rel K w x u) (h : Hop K rel E w Q (lmRecv x S)) : tyV K "list" u w.H := by
  unfold lmRecv at h
  cases x with
  | dat d => exact h.elim
  | exc c ns l => exact h.elim
  | own k =>
    obtain ⟨hk, e1⟩ := r
    obtain ⟨c, hc, hr⟩ := s.get hk
    subst e1
    cases c with
    | lst xs =>
      obtain ⟨vs, h1, _⟩ := hr
      exact .inl ⟨rfl, vs, .of h1⟩
    | tup xs => simp only [hc] at h; exact h.elim
    | obj c ns xs => simp only [hc] at h; exact h.elim
theorem lm_next {γ δ : Type} {K : PySem.W.Frag} {rel : Wd → γ → δ → Prop} {w : Wd} {S : Store} {x : R} {u : V} {E : XK} {Q : δ → Hp → Prop} {f : Unit → M γ} (s : SR K w S) (r : Rel K w x u) (h : Hop K rel E w Q (M.bind (lmRecv x) f S)) : tyV K "list" u w.H ∧ Hop K rel E w Q (f () S) := by
  have q := h.bind (r1 := fun _ (_ : Unit) (_ : Unit) => True) (Q1 := fun _ H => True) fun _ _ _ _ _ _ _ _ => trivial
  refine ⟨lm_recv s r q, ?_⟩
  unfold M.bind lmRecv at h
  cases x with
  | dat d => exact h.elim
  | exc c ns l => exact h.elim
  | own k =>
    cases e : S[k]? with
    | none => simp only [e] at h; exact h.elim
    | some c =>
      cases c with
      | lst xs => simp only [e] at h; exact h
      | tup xs => simp only [e] at h; exact h.elim
      | obj c ns xs => simp only [e] at h; exact h.elim
theorem seqIndex_zero (n : Nat) : seqIndex? 0 (n + 1) = some 0 := by
  unfold seqIndex?
  have h1 : ¬ ((0 : Int) < 0) := by omega
  simp only [if_neg h1]
  split
  · rfl
  · rename_i z
    exact absurd (by rw [Bool.and_eq_true, decide_eq_true_iff, decide_eq_true_iff]; omega) z
def LmOk (K : PySem.W.Frag) (n : Lm) (r : V → List V → Hp → VK → Prop) : Prop := ∀ (w : Wd) (S : Store) (x : R) (u : V) (rs : List R) (vs : List V) (E : XK) (Q : VK), SR K w S → Rel K w x u → Rels K w rs vs → Hop K (Rel K) E w Q (lmR x n rs S) → r u vs w.H Q
theorem append_ok {K : PySem.W.Frag} : ∀ (w : Wd) (S : Store) (x : R) (u : V) (rs : List R) (vs : List V) (E : XK) (Q : VK), SR K w S → Rel K w x u → Rels K w rs vs → Hop K (Rel K) E w Q (lmR x .append rs S) → rAppend u vs w.H Q := by
  intro w S x u rs ws E Q s r rr h
  obtain ⟨k, xs, vs, ex, hk, eu, hc, h3, hz, h4⟩ := lm_at s r h
  subst ex
  unfold lmR at h
  simp only [hc] at h
  match rs, rr, h with
  | [], _, h => exact h.elim
  | [y], ⟨v, r2, e, ry, e2⟩, h =>
    have e2' : r2 = [] := e2
    subst e2' e
    dsimp only at h
    by_cases z : small xs.length = true
    · rw [if_pos z] at h
      have l1 := h4.length
      have l2 := line_small z
      have l3 := line_eq
      refine ⟨_, vs, v, eu, rfl, h3, by omega, ?_⟩
      exact h (w.put k (.lst (vs ++ [v]))) .non (ext_put s hk) (put_lst s hk (by rw [List.length_append]; simp only [List.length_cons, List.length_nil]; omega) (h4.append (.one ry))) rfl
    · rw [if_neg z] at h
      exact h.elim
  | _ :: _ :: _, _, h => exact h.elim
theorem pop_ok {K : PySem.W.Frag} : ∀ (w : Wd) (S : Store) (x : R) (u : V) (E : XK) (Q : VK), SR K w S → Rel K w x u → Hop K (Rel K) E w Q (lmR x .pop [] S) → rPop u [] w.H Q := by
  intro w S x u E Q s r h
  obtain ⟨k, xs, vs, ex, hk, eu, hc, h3, hz, h4⟩ := lm_at s r h
  subst ex
  unfold lmR at h
  simp only [hc] at h
  have l1 := h4.length
  cases e : xs[xs.length - 1]? with
  | none => simp only [e] at h; exact h.elim
  | some y =>
    simp only [e] at h
    obtain ⟨v, e2, ry⟩ := h4.get e
    refine ⟨_, vs, v, eu, rfl, h3, by rw [← l1]; exact e2, ?_⟩
    exact h (w.put k (.lst vs.dropLast)) v (ext_put s hk) (put_lst s hk (by rw [List.length_dropLast]; omega) h4.dropLast) (ry.ext (ext_put s hk))
theorem popAt_ok {K : PySem.W.Frag} : ∀ (w : Wd) (S : Store) (x : R) (u : V) (rs : List R) (ws : List V) (E : XK) (Q : VK), SR K w S → Rel K w x u → rs ≠ [] → Rels K w rs ws → Hop K (Rel K) E w Q (lmR x .pop rs S) → rPopAt u ws w.H Q := by
  intro w S x u rs ws E Q s r ne rr h
  obtain ⟨k, xs, vs, ex, hk, eu, hc, h3, hz, h4⟩ := lm_at s r h
  subst ex
  unfold lmR at h
  simp only [hc] at h
  cases rs with
  | nil => exact (ne rfl).elim
  | cons y ys =>
    cases ys with
    | cons y2 ys =>
      cases y with
      | dat d => cases d <;> exact h.elim
      | own k => exact h.elim
      | exc c ns l => exact h.elim
    | nil =>
      obtain ⟨v, r2, e, ry, e2⟩ := rr
      have e2' : r2 = [] := e2
      subst e2' e
      cases y with
      | own k => exact h.elim
      | exc c ns l => exact h.elim
      | dat d =>
        cases d with
        | int i =>
          have ey : v = .int i := ry
          subst ey
          dsimp only at h
          by_cases z : i = 0
          · rw [if_pos z] at h
            subst z
            cases xs with
            | nil => exact h.elim
            | cons y ys =>
              obtain ⟨v, vr, e, q1, q2⟩ := h4
              subst e
              have hz' : vr.length + 1 ≤ sizeLine := hz
              refine ⟨_, _, 0, 0, v, eu, rfl, h3, by decide, by decide, ?_, rfl, ?_⟩
              · exact seqIndex_zero vr.length
              · exact h (w.put k (.lst vr)) v (ext_put s hk) (put_lst s hk (by omega) q2) (q1.ext (ext_put s hk))
          · rw [if_neg z] at h
            exact h.elim
        | _ => exact h.elim
theorem e_lm {n : Str} {m : Lm} {id : String} {r : V → List V → Hp → VK → Prop} (hx : xr.Ok) (slot : Slot "list" n id) (hty : typeOf (.builtin id) = pure (.type "method_descriptor")) (hm : MtR X id r)
    (hr : ∀ (w : Wd) (S : Store) (x : R) (u : V) (rs : List R) (vs : List V) (E : XK) (Q : VK), SR X.K w S → Rel X.K w x u → rs ≠ [] → Rels X.K w rs vs → Hop X.K (Rel X.K) E w Q (lmR x m rs S) → r u vs w.H Q)
    (hne : ∀ ρ S r S', ms ρ S = .ok r S' → r ≠ [])
    (hbase : attributeBase a n X.env (eval a X.env) = eval a X.env)
    (hfew : ((backTo pos (starEach (b :: es) X.env)).all (fun x => !x.1) && (backToKw pos (keywordEach [] X.env)).all (fun x => x.1.isSome) && decide ((b :: es).length + ([] : List Keyword).length + (if ([] : List Keyword).isEmpty then 0 else 1) < 30)) = true)
    (hline : (p1.endLine == pos.line) = true) (hs : starEach (b :: es) X.env = (false, eval b X.env) :: starEach es X.env) (hplain : (backTo pos (starEach es X.env)).any (·.1) = false) (ha : EOk X xr W a ma) (hb : AOk X xr W (b :: es) ms) :
    EOk X xr W (.Call (.Attribute a n p1) (b :: es) [] pos) (fun ρ => M.bind (ma ρ) fun x => M.bind (lmRecv x) fun _ => M.bind (ms ρ) fun ys => lmR x m ys) := by
  obtain ⟨ta, pa, qa⟩ := ha
  obtain ⟨tb, pb, qb⟩ := hb
  refine ⟨_, pe_bm PySem.F.plainAttrs_list slot hty hm pa pb hbase hfew hline hs hplain, fun σ w S ρ Q er sr h => qa σ w S ρ _ er sr (h.bind fun w1 x u S1 e1 s1 rx h1 => ?_)⟩
  obtain ⟨ty, h2⟩ := lm_next s1 rx h1
  refine ⟨ty, qb σ w1 S1 ρ _ (er.ext hx e1) s1 ?_⟩
  unfold M.bind at h2
  cases e : ms ρ S1 with
  | stuck => simp only [e] at h2; exact h2.elim
  | exc c ns l S2 => simp only [e] at h2; exact h2
  | ok rs S2 =>
    simp only [e] at h2
    exact fun w2 vs e2 s2 ry => hr w2 S2 x u rs vs _ Q s2 (rx.ext e2) (hne _ _ _ _ e) ry (h2.ext e2)
theorem e_lm0 {n : Str} {m : Lm} {id : String} {r : V → List V → Hp → VK → Prop} (slot : Slot "list" n id) (hty : typeOf (.builtin id) = pure (.type "method_descriptor")) (hm : MtR X id r)
    (hr : ∀ (w : Wd) (S : Store) (x : R) (u : V) (E : XK) (Q : VK), SR X.K w S → Rel X.K w x u → Hop X.K (Rel X.K) E w Q (lmR x m [] S) → r u [] w.H Q)
    (hbase : attributeBase a n X.env (eval a X.env) = eval a X.env)
    (hline : (p1.endLine == pos.line) = true) (ha : EOk X xr W a ma) :
    EOk X xr W (.Call (.Attribute a n p1) [] [] pos) (fun ρ => M.bind (ma ρ) fun x => M.bind (lmRecv x) fun _ => lmR x m []) := by
  obtain ⟨ta, pa, qa⟩ := ha
  refine ⟨_, pe_bm0 PySem.F.plainAttrs_list slot hty hm pa hbase hline, fun σ w S ρ Q er sr h => qa σ w S ρ _ er sr (h.bind fun w1 x u S1 e1 s1 rx h1 => ?_)⟩
  obtain ⟨ty, h2⟩ := lm_next s1 rx h1
  exact ⟨ty, hr w1 S1 x u _ Q s1 rx h2⟩
end
end MP
set_option Elab.async false
set_option linter.all false
set_option maxRecDepth 100000
set_option maxHeartbeats 4000000
/-! MPCall2: and, or, if; isinstance; calls of the text's own defs and classes. -/
namespace MP
open PySem PySem.Spec PyProof.Rows L2
def WOk (X : Cx) (xr : XR) (W : WX) (e : Expr) (m : MP.Env → M Bool) : Prop :=
  ∃ t, PW X e t ∧ ∀ σ w S ρ Q, EnvR X.K xr w σ ρ → SR X.K w S → Hop X.K (fun _ b v => b = v) (WE W σ) w Q (m ρ S) → t σ w.H Q
theorem WOk.t {X : Cx} {xr : XR} {W : WX} {e : Expr} {m : MP.Env → M Bool} (h : WOk X xr W e m) : TOk X xr W e m := by
  obtain ⟨t, p, q⟩ := h
  exact ⟨t, p.pt, q⟩
theorem hop_truB {K : PySem.W.Frag} {E : XK} {w : Wd} {Q : Bool → Hp → Prop} {S : Store} {m : M R} {P : V → Hp → Prop} (h : Hop K (fun _ b v => b = v) E w Q (M.bind m truB S)) (hp : ∀ b (w' : Wd), Q b w'.H → P (.bl b) w'.H) : Hop K (Rel K) E w P (m S) := by
  refine h.bind fun w1 r v S1 e1 s1 rr h1 => ?_
  unfold truB at h1
  cases r with
  | own k => exact h1.elim
  | exc c ns l => exact h1.elim
  | dat d =>
    cases d with
    | bl b =>
      have e : v = .bl b := rr
      subst e
      exact hp b w1 (h1 w1 b (Ext.refl _) s1 rfl)
    | _ => exact h1.elim
theorem truB_bl (b : Bool) : M.bind (M.pure (.dat (.bl b))) truB = M.pure b := rfl
section
variable {X : Cx} {xr : XR} {W : WX} {a b c e o : Expr} {es rest : List Expr} {ma mb mc : MP.Env → M R} {mt : MP.Env → M Bool} {ms : MP.Env → M (List R)} {pos p p0 p1 p2 : Pos}
/-! ### and, or -/
theorem w_one {op : BoolOp} (ha : TOk X xr W a mt) : WOk X xr W (.BoolOp op [a] pos) mt := by
  obtain ⟨t, pt, q⟩ := ha
  cases op with
  | And => exact ⟨t, pw_and1 pt, q⟩
  | Or => exact ⟨t, pw_or1 pt, q⟩
theorem w_and (hx : xr.Ok) (ha : TOk X xr W a mt) (hb : WOk X xr W (.BoolOp .And (b :: rest) pos) (fun ρ => M.bind (mb ρ) truB)) :
    WOk X xr W (.BoolOp .And (a :: b :: rest) pos) (fun ρ => M.bind (M.bind (mt ρ) fun t => if t = true then mb ρ else M.pure (.dat (.bl false))) truB) := by
  obtain ⟨t, pa, qa⟩ := ha
  obtain ⟨u, pb, qb⟩ := hb
  refine ⟨_, pw_and pa pb, fun σ w S ρ Q er sr h => ?_⟩
  dsimp only at h
  rw [bind_assoc] at h
  refine qa σ w S ρ _ er sr (h.bind fun w1 d v S1 e1 s1 rd h1 => ?_)
  have e : d = v := rd
  subst e
  cases d with
  | true => exact qb σ w1 S1 ρ Q (er.ext hx e1) s1 h1
  | false => exact h1 w1 false (Ext.refl _) s1 rfl
theorem w_or (hx : xr.Ok) (ha : TOk X xr W a mt) (hb : WOk X xr W (.BoolOp .Or (b :: rest) pos) (fun ρ => M.bind (mb ρ) truB)) :
    WOk X xr W (.BoolOp .Or (a :: b :: rest) pos) (fun ρ => M.bind (M.bind (mt ρ) fun t => if t = true then M.pure (.dat (.bl true)) else mb ρ) truB) := by
  obtain ⟨t, pa, qa⟩ := ha
  obtain ⟨u, pb, qb⟩ := hb
  refine ⟨_, pw_or pa pb, fun σ w S ρ Q er sr h => ?_⟩
  dsimp only at h
  rw [bind_assoc] at h
  refine qa σ w S ρ _ er sr (h.bind fun w1 d v S1 e1 s1 rd h1 => ?_)
  have e : d = v := rd
  subst e
  cases d with
  | true => exact h1 w1 true (Ext.refl _) s1 rfl
  | false => exact qb σ w1 S1 ρ Q (er.ext hx e1) s1 h1
/-- as values -/
theorem e_one {op : BoolOp} (ha : EOk X xr W a ma) : EOk X xr W (.BoolOp op [a] pos) ma := by
  obtain ⟨t, pt, q⟩ := ha
  exact ⟨t, pe_one pt, q⟩
theorem e_and (hx : xr.Ok) (ha : EOk X xr W a ma) (hb : EOk X xr W (.BoolOp .And (b :: rest) pos) mb) :
    EOk X xr W (.BoolOp .And (a :: b :: rest) pos) (fun ρ => M.bind (M.bind (ma ρ) truB) fun t => if t = true then mb ρ else M.pure (.dat (.bl false))) := by
  obtain ⟨t, pa, qa⟩ := ha
  obtain ⟨u, pb, qb⟩ := hb
  refine ⟨_, pe_and pa pb, fun σ w S ρ Q er sr h => ?_⟩
  refine qa σ w S ρ _ er sr (hop_truB (Q := fun d H => if d = true then u σ H Q else Q (.bl false) H) (h.bind fun w1 d v S1 e1 s1 rd h1 => ?_) fun d w1 q => ⟨d, rfl, q⟩)
  have e : d = v := rd
  subst e
  cases d with
  | true => exact qb σ w1 S1 ρ Q (er.ext hx e1) s1 h1
  | false => exact h1 w1 _ (Ext.refl _) s1 rfl
theorem e_or (hx : xr.Ok) (ha : EOk X xr W a ma) (hb : EOk X xr W (.BoolOp .Or (b :: rest) pos) mb) :
    EOk X xr W (.BoolOp .Or (a :: b :: rest) pos) (fun ρ => M.bind (M.bind (ma ρ) truB) fun t => if t = true then M.pure (.dat (.bl true)) else mb ρ) := by
  obtain ⟨t, pa, qa⟩ := ha
  obtain ⟨u, pb, qb⟩ := hb
  refine ⟨_, pe_or pa pb, fun σ w S ρ Q er sr h => ?_⟩
  refine qa σ w S ρ _ er sr (hop_truB (Q := fun d H => if d = true then Q (.bl true) H else u σ H Q) (h.bind fun w1 d v S1 e1 s1 rd h1 => ?_) fun d w1 q => ⟨d, rfl, q⟩)
  have e : d = v := rd
  subst e
  cases d with
  | true => exact h1 w1 _ (Ext.refl _) s1 rfl
  | false => exact qb σ w1 S1 ρ Q (er.ext hx e1) s1 h1
theorem e_not (ha : EOk X xr W a ma) : EOk X xr W (.UnaryOp .Not a pos) (fun ρ => M.bind (M.bind (ma ρ) truB) fun t => M.pure (.dat (.bl (!t)))) := by
  obtain ⟨t, pa, qa⟩ := ha
  refine ⟨_, pe_not pa, fun σ w S ρ Q er sr h => ?_⟩
  refine qa σ w S ρ _ er sr (hop_truB (Q := fun d H => Q (.bl (!d)) H) (h.bind fun w1 d v S1 e1 s1 rd h1 => ?_) fun d w1 q => ⟨d, rfl, q⟩)
  have e : d = v := rd
  subst e
  exact h1 w1 _ (Ext.refl _) s1 rfl
theorem e_ifx (hx : xr.Ok) (hc : TOk X xr W c mt) (ha : EOk X xr W a ma) (hb : EOk X xr W b mb) : EOk X xr W (.IfExp c a b pos) (fun ρ => M.bind (mt ρ) fun t => if t = true then ma ρ else mb ρ) := by
  obtain ⟨t, pc, qc⟩ := hc
  obtain ⟨ta, pa, qa⟩ := ha
  obtain ⟨tb, pb, qb⟩ := hb
  refine ⟨_, pe_ifExp pc pa pb, fun σ w S ρ Q er sr h => qc σ w S ρ _ er sr (h.bind fun w1 d v S1 e1 s1 rd h1 => ?_)⟩
  have e : d = v := rd
  subst e
  cases d with
  | true => exact qa σ w1 S1 ρ Q (er.ext hx e1) s1 h1
  | false => exact qb σ w1 S1 ρ Q (er.ext hx e1) s1 h1
theorem t_isN {n : Bool} {k : Nat} (ha : EOk X xr W a ma) : TOk X xr W (.Compare a [if n then .IsNot else .Is] [.Constant .none k p1] pos) (fun ρ => M.bind (M.bind (ma ρ) fun x => match x with
    | .dat .non => M.pure (.dat (.bl (!n)))
    | .dat _ => M.pure (.dat (.bl n))
    | _ => M.stuck) truB) := by
  obtain ⟨ta, pa, qa⟩ := ha
  have key : ∀ (x : R) (v : V) (w : Wd) (S : Store) (E : XK) (Q : Bool → Hp → Prop), SR X.K w S → Rel X.K w x v → Hop X.K (fun _ b v => b = v) E w Q (M.bind (match x with
    | .dat .non => M.pure (.dat (.bl (!n)))
    | .dat _ => M.pure (.dat (.bl n))
    | _ => M.stuck : M R) truB S) → Q (if n then !decide (v = .non) else decide (v = .non)) w.H := by
    intro x v w S E Q s r h
    cases x with
    | own k => exact h.elim
    | exc c ns l => exact h.elim
    | dat d =>
      have nn : ∀ {u : V}, d ≠ .non → v = u → u ≠ .non → Q (if n then !decide (v = .non) else decide (v = .non)) w.H := by
        intro u hd e hu
        subst e
        have q : Q n w.H := by cases d <;> first | exact (hd rfl).elim | exact h w n (Ext.refl _) s rfl
        rw [decide_eq_false hu]
        cases n <;> exact q
      cases d with
      | non =>
        have e : v = .non := r
        subst e
        have q : Q (!n) w.H := h w (!n) (Ext.refl _) s rfl
        cases n <;> exact q
      | bl b => exact nn (fun z => nomatch z) (show v = .bl b from r) (fun z => nomatch z)
      | int b => exact nn (fun z => nomatch z) (show v = .int b from r) (fun z => nomatch z)
      | str b => exact nn (fun z => nomatch z) (show v = .str b from r) (fun z => nomatch z)
      | tup l => obtain ⟨p, vs, e, _⟩ := r; exact nn (fun z => nomatch z) e (fun z => nomatch z)
      | lst l => obtain ⟨p, vs, e, _⟩ := r; exact nn (fun z => nomatch z) e (fun z => nomatch z)
      | slst l => obtain ⟨p, vs, e, _⟩ := r; exact nn (fun z => nomatch z) e (fun z => nomatch z)
      | obj c ns l => obtain ⟨p, dx, fs, e, _⟩ := r; exact nn (fun z => nomatch z) e (fun z => nomatch z)
  cases n with
  | false =>
    refine ⟨_, pt_cmp (pc_isN pa), fun σ w S ρ Q er sr h => ?_⟩
    dsimp only at h
    rw [bind_assoc] at h
    exact qa σ w S ρ _ er sr (h.bind fun w1 x v S1 e1 s1 rx h1 => ⟨_, rfl, key x v w1 S1 _ Q s1 rx h1⟩)
  | true =>
    refine ⟨_, pt_cmp (pc_notN pa), fun σ w S ρ Q er sr h => ?_⟩
    dsimp only at h
    rw [bind_assoc] at h
    exact qa σ w S ρ _ er sr (h.bind fun w1 x v S1 e1 s1 rx h1 => ⟨_, rfl, key x v w1 S1 _ Q s1 rx h1⟩)
/-! ### isinstance of a built-in type -/
theorem ty_at {K : PySem.W.Frag} {w : Wd} {S : Store} {x : R} {u : V} {t : BTy} (s : SR K w S) (r : Rel K w x u) (h : tyR S x = some t) : TyX K w.H u (.type t.nm) := by
  cases x with
  | exc c ns l => cases h
  | own k =>
    obtain ⟨hk, e1⟩ := r
    obtain ⟨c, hc, hr⟩ := s.get hk
    subst e1
    unfold tyR at h
    cases c with
    | obj c ns rs => simp only [hc] at h; cases h
    | lst rs =>
      simp only [hc] at h
      cases h
      obtain ⟨vs, h1, _⟩ := hr
      exact .base (.lst h1)
    | tup rs =>
      simp only [hc] at h
      cases h
      obtain ⟨vs, h1, _⟩ := hr
      exact .base (.tup h1)
  | dat d =>
    cases d with
    | non => cases h
    | slst l => cases h
    | obj c ns l => cases h
    | bl b => cases h; cases (show u = .bl b from r); exact .base (.bl b)
    | int b => cases h; cases (show u = .int b from r); exact .base (.int b)
    | str b => cases h; cases (show u = .str b from r); exact .base (.str b)
    | tup l => cases h; obtain ⟨a, vs, e, _, h1, _⟩ := r; subst e; exact .base (.tup h1)
    | lst l => cases h; obtain ⟨a, vs, e, _, h1, _⟩ := r; subst e; exact .base (.lst h1)
theorem isTy_ok {K : PySem.W.Frag} : ∀ t T : BTy, PySem.W.kitOne K (.type t.nm) (.type T.nm) = some (isTy t T) := by
  intro t T
  cases t <;> cases T <;> exact kit_ty (by decide +kernel)
theorem e_isT (T : BTy) (hg : Gl X "isinstance") (hm : X.mg "isinstance" = none) (hgT : Gl X T.x) (hmT : X.mg T.x = none)
    (he : starEach [a, .Name T.x p1] X.env = (false, eval a X.env) :: starEach [.Name T.x p1] X.env) (he2 : starEach [.Name T.x p1] X.env = (false, eval (.Name T.x p1) X.env) :: starEach [] X.env)
    (hpl : (backTo pos (starEach [.Name T.x p1] X.env)).any (·.1) = false) (ha : EOk X xr W a ma) : EOk X xr W (.Call (.Name "isinstance" p0) [a, .Name T.x p1] [] pos) (fun ρ => M.bind (ma ρ) fun x => isTR x T) := by
  obtain ⟨ta, pa, qa⟩ := ha
  have pT : PE X (.Name T.x p1) (tC (.ty T.nm)) := by
    cases T <;> exact pe_bltn hgT hmT (by first | rfl | decide +kernel) rfl (by decide) (by decide)
  refine ⟨_, pe_callB call_isi hg hm (by first | rfl | decide +kernel) (pa_cons pa (pa_cons pT pa_nil he2) he) (by decide) (by decide) he hpl, fun σ w S ρ Q er sr h => qa σ w S ρ _ er sr (h.bind fun w1 x u S1 e1 s1 rx h1 => ?_)⟩
  by_cases hn : x = .dat .non
  · subst hn
    have h1 : Hop X.K (Rel X.K) (WE W σ) w1 Q (.ok (.dat (.bl false)) S1) := h1
    have eu : u = .non := rx
    subst eu
    exact ⟨.non, .ty T.nm, _, _, _, rfl, .ty T.nm, .base .non, (by cases T <;> exact kit_ty (by decide +kernel)), hop_ok h1 s1 rfl⟩
  have eT : isTR x T S1 = (match tyR S1 x with
    | some t => .ok (.dat (.bl (isTy t T))) S1
    | none => .stuck) := by
    unfold isTR
    split
    · exact absurd rfl hn
    · rfl
  rw [eT] at h1
  cases e : tyR S1 x with
  | none => simp only [e] at h1; exact h1.elim
  | some t =>
    simp only [e] at h1
    exact ⟨u, .ty T.nm, _, _, _, rfl, .ty T.nm, ty_at s1 rx e, isTy_ok t T, hop_ok h1 s1 rfl⟩
/-! ### calls -/
variable {CX : CXT} {k : Nat} {f C : Addr} {fd : FuncData} {ps ks : List Str} {sp : Sp} {x : Str} {kws : List Keyword}
/-- what a call asks of the promise -/
def SpOk (K : PySem.W.Frag) (sp : Sp) (g : List R → M R) : Prop := ∀ (w : Wd) (S : Store) (rs : List R) (vs : List V) (Q : VK) (E : XK), SR K w S → Rels K w rs vs → Hop K (Rel K) E w Q (g rs S) → sp vs w.H Q E
theorem e_call {g : List R → M R} (hx : xr.Ok) (F : FnOk X.prog X.w X.K X.mg X.base (L2N.CX X.prog X.w) k f fd ps sp) (hs : SpOk X.K sp g) (hr : Room k X.A) (hg : Gl X x) (hm : X.mg x = some (.ref f)) (hk : PySem.W.keepIn X.K (.ref f) = true) (hb : Binds X.K fd ps [])
    (tk : L2N.Takes X W) (hdb : (x == ("__debug__" : Str)) = false) (he : starEach (a :: es) X.env = (false, eval a X.env) :: starEach es X.env) (hpl : (backTo pos (starEach es X.env)).any (·.1) = false) (ha : EOk X xr W a ma) (hes : AOk X xr W es ms) :
    EOk X xr W (.Call (.Name x p0) (a :: es) [] pos) (fun ρ => M.bind (ma ρ) fun x => M.bind (ms ρ) fun xs => g (x :: xs)) := by
  obtain ⟨ta, pa, qa⟩ := ha
  obtain ⟨ts, pss, qs⟩ := hes
  refine ⟨_, pe_callS (E := WE W) F hr hg hm hk hb (fun σ => L2N.passAt tk σ) (pa_cons pa pss he) hdb he hpl, fun σ w S ρ Q er sr h => qa σ w S ρ _ er sr (h.bind fun w1 x u S1 e1 s1 rx h1 => qs σ w1 S1 ρ _ (er.ext hx e1) s1 (h1.bind fun w2 xs us S2 e2 s2 rs h2 => ?_))⟩
  exact hs w2 S2 (x :: xs) (u :: us) Q _ s2 ⟨u, us, rfl, rx.ext e2, rs⟩ h2
theorem e_callH {g : List R → M R} (hx : xr.Ok) (F : L2H.FnH X.prog X.w X.K X.mg X.base (L2N.CX X.prog X.w) k f fd ps sp) (hs : SpOk X.K sp g) (hr : L2H.RoomH k X.A) (hc : L2H.HotC X) (hg : Gl X x) (hm : X.mg x = some (.ref f)) (hk : PySem.W.keepIn X.K (.ref f) = true) (hb : Binds X.K fd ps [])
    (tk : L2N.Takes X W) (hdb : (x == ("__debug__" : Str)) = false) (he : starEach (a :: es) X.env = (false, eval a X.env) :: starEach es X.env) (hpl : (backTo pos (starEach es X.env)).any (·.1) = false) (ha : EOk X xr W a ma) (hes : AOk X xr W es ms) :
    EOk X xr W (.Call (.Name x p0) (a :: es) [] pos) (fun ρ => M.bind (ma ρ) fun x => M.bind (ms ρ) fun xs => g (x :: xs)) := by
  obtain ⟨ta, pa, qa⟩ := ha
  obtain ⟨ts, pss, qs⟩ := hes
  refine ⟨_, L2H.pe_callH (E := WE W) F hr hc hg hm hk hb (fun σ => L2N.passAt tk σ) (pa_cons pa pss he) hdb he hpl, fun σ w S ρ Q er sr h => qa σ w S ρ _ er sr (h.bind fun w1 x u S1 e1 s1 rx h1 => qs σ w1 S1 ρ _ (er.ext hx e1) s1 (h1.bind fun w2 xs us S2 e2 s2 rs h2 => ?_))⟩
  exact hs w2 S2 (x :: xs) (u :: us) Q _ s2 ⟨u, us, rfl, rx.ext e2, rs⟩ h2
end
end MP
set_option Elab.async false
set_option linter.all false
set_option maxRecDepth 100000
set_option maxHeartbeats 4000000
/-! MPCall3: the caught exception: isinstance, fields (it may have a dict). -/
namespace MP
open PySem PySem.Spec PySem.Calls PyProof.Rows PySem.W
section
variable {prog : Program} {w : World} {A : Around} {E : Value → Shared → Prop} {s : Shared} {K : Frag} {x D : Addr} {ox : Obj} {od : Option Obj}
theorem found_class {C : Addr} {name : Str} {a g : Value} (hc : (clsIn K C).isSome = true) (ha : findIn K (.ref C) name = some (some a)) (hg : specialIn K a "__get__" = some (some g)) (ht : takesIn K a = some true) : findObj K C od name = some (.bind g a) := by
  obtain ⟨cd, hc⟩ := Option.isSome_iff_exists.mp hc
  unfold findObj
  rw [hc, Option.bind_some, ha, Option.bind_some]
  simp [hg, ht]
/-- its class, asked for by name -/
theorem exc_class {Q : Option Value → Shared → Prop} (Z : L2.ExcC K D) (X : K.In s.heap) (I : InstAt s.heap x ox D od) (h : Q (some (.ref D)) { s with toks := s.toks + 1 }) : wpAny (model prog w) A (getAttr? (.ref x) "__class__") Q E s := by
  have hf : findObj K D od "__class__" = some (.bind (.builtin "getset_descriptor.__get__") (.builtin "object.__class__")) := found_class (by obtain ⟨cd, hc, _⟩ := any_some Z.hd; rw [hc]; rfl) Z.ha Z.hn Z.ht
  obtain ⟨hp, g, d, t, os⟩ := s
  have L0 := I.type (M := model prog w)
  have L1 := looks_findIn (M := model prog w) X Z.hg
  have L2 := looks_findIn (M := model prog w) X Z.hk
  have L3 := looks_find (M := model prog w) X I hf
  have sub : Looks (model prog w) hp (isInstance (.ref x) (.type "BaseException")) true := L0.andThen (looks_subIn X Z.hs)
  have n0 : (false && onTheHeap (Value.builtin "BaseException.__getattribute__")) = false := rfl
  have n2 : (Value.builtin "BaseException.__getattribute__" == Value.builtin "object.__getattribute__") = false := by decide +kernel
  have n1 : (onTheHeap (Value.ref D) && Value.builtin "BaseException.__getattribute__" == Value.builtin "object.__getattribute__") = false := by rw [n2]; rfl
  unfold getAttr? getAttrBy? getAttrBy
  refine wpAny_bind (wpAny_mkText (wpAny_bind (wpAny_attempt (wpAny_holding (wpAny_bind (L0.at (wpAny_bind (L1.at ?_))))))))
  show wpAny _ _ (if (onTheHeap (Value.ref D) && Value.builtin "BaseException.__getattribute__" == Value.builtin "object.__getattribute__") = true then _ else _) _ _ _
  rw [n1, if_neg Bool.false_ne_true]
  unfold getAttrByItsOwn hookBefore
  refine wpAny_bind ?_
  rw [if_pos (show onTheHeap (Value.ref D) = true from rfl)]
  refine L2.at ?_
  refine wpAny_bind (wpAny_attempt (wpAny_holding ?_))
  unfold callGetattribute
  rw [n0, if_neg Bool.false_ne_true]
  unfold boundAndCalled
  rw [PySem.F.excAttr_ValueError.ga.bind (.ref x)]
  refine wpAny_bind (wpAny_pure ?_)
  show wpAny _ _ (call (.builtin "BaseException.__getattribute__") [.ref x, .str "__class__" t]) _ _ _
  refine wpAny_call (codeAny_call_builtin PySem.F.excAttr_ValueError.ga.plain PySem.F.entry_bexc_ga ?_)
  refine @check_slot (model prog w) _ _ ⟨hp, g, d, t + 1, os⟩ "BaseException.__getattribute__" "BaseException" "__getattribute__" (.ref x) [.str "__class__" t] [] _ (by decide +kernel) (by decide +kernel) sub (PySem.F.args_bexc_ga (.ref x) (.str "__class__" t)) ?_
  unfold Builtin.«object.__getattribute__»
  refine wpAny_bind (wpAny_of_eq (a := ((Value.ref x : Value), [Value.str "__class__" t])) (by first | rfl | (simp only [slotArgs]; rfl)) ?_)
  refine wpAny_bind (wpAny_pure (wpAny_bind (L0.at (wpAny_bind (L3.at ?_)))))
  show wpAny _ _ (holding [Value.builtin "object.__class__"] (call (.builtin "getset_descriptor.__get__") [.builtin "object.__class__", .ref x, .ref D]) >>= ret) _ _ _
  refine wpAny_bind (wpAny_holding (wpAny_call (class_get (s := ⟨hp, g, d, t + 1, os⟩) (ox := ox) (od := od) X I Z.hm ?_)))
  refine wpAny_pure ?_
  show wpAny _ _ (handedOut (.ref D)) _ _ _
  rw [handedOut_of (v := .ref D) rfl]
  first
    | exact wpAny_pure (wpAny_pure h)
    | exact wpAny_pure h
    | exact wpAny_pure (wpAny_bind (wpAny_pure (wpAny_pure h)))
theorem kitx_excD (Z : L2.ExcC K D) : KitX K (.ref x) (.ref D) (fun h => ∃ od, InstAt h x ox D od) where
  ty := fun _ _ _ ⟨_, I⟩ => I.type
  it := fun _ _ X _ => by
    obtain ⟨cdD, hcD, _⟩ := any_some Z.hd
    unfold clsIn at hcD
    split at hcD
    · rename_i c' d' cd' sl' ho
      intro A' Q' E' s' k q
      unfold isType loadHead
      exact wpAny_bind (wpAny_loadPart (k _ _ (X _ _ ho)) (wpAny_pure q))
    · cases hcD
  ne := fun h tp dd its n sl X htp => by
    obtain ⟨cdD, hcD, _⟩ := any_some Z.hd
    refine Bool.eq_false_iff.mpr fun q => ?_
    have e : D = tp := Value.ref.inj (beq_iff_eq.mp q)
    subst e
    unfold clsIn at hcD
    split at hcD
    · rename_i c' d' cd' sl' ho
      have z := (X _ _ ho).symm.trans htp
      cases z
    · cases hcD
  ca := fun X ⟨_, I⟩ k => exc_class Z X I k
end
end MP
namespace MP
open PySem PySem.Spec PyProof.Rows L2
/-- the exception that is held: x names it -/
def XAt (X : Cx) (xr : XR) : Prop := ∀ w c ns l v, xr w c ns l v → ∃ (a : Addr) (oe : Obj) (d : Option Addr) (X0 : Cx) (pn : List (Addr × Obj)), X = X0.suite a ((a, oe) :: pn) ∧ v = .ref a ∧ Zc (.ref (He.ga X.K c)) d oe ∧ (∃ vs, oe.data = .fields vs) ∧ ExcD X.K w ns l d
def tXIs (K : PySem.W.Frag) (i : Nat) (cv : Value) (D a : Addr) (d : Option Addr) : TE := fun σ H Q => σ[i]? = some (some (.ref a)) ∧ (d = none ∨ ∃ dd fs, d = some dd ∧ H dd = some (.xd fs)) ∧ ∃ b, PySem.W.kitOne K (.ref D) cv = some b ∧ Q (.bl b) H
theorem call_isD {X : Cx} {a D : Addr} {oe : Obj} {d : Option Addr} {pn : List (Addr × Obj)} (C : ExcC X.K D) (hz : Zc (.ref D) d oe) (hf : ∃ vs, oe.data = .fields vs) :
    CallR (X.suite a ((a, oe) :: pn)) (.builtin "isinstance") (fun xs H Q => ∃ (c : V) (cv : Value) (b : Bool), xs = [.ref a, c] ∧ (d = none ∨ ∃ dd fs, d = some dd ∧ H dd = some (.xd fs)) ∧ (∀ u, RelV c u → u = cv) ∧ PySem.W.kitOne X.K (.ref D) cv = some b ∧ Q (.bl b) H) := by
  intro pins s σ H xs us Q I r h
  obtain ⟨c, cv, b, rfl, hd, hcv, e, q⟩ := h
  obtain ⟨u1, u2, rfl, r1, r2⟩ := vals2 r
  cases (show u1 = Value.ref a from r1)
  have ec := hcv _ r2
  subst ec
  obtain ⟨hget, _⟩ := I.pin (a, oe) (List.mem_append.mpr (.inl List.mem_cons_self))
  obtain ⟨vs, hv⟩ := hf
  have J : ∃ od, PySem.W.InstAt s.heap a oe D od := by
    rcases hd with hd | ⟨dd, fs, hd, hx⟩
    · subst hd
      obtain ⟨oc, od, oda, osl⟩ := oe
      obtain ⟨h1, h2⟩ := hz
      dsimp only at h1 h2 hv
      subst h1 h2 hv
      exact ⟨none, hget, rfl, rfl, trivial⟩
    · subst hd
      have hx' : ObjOk X.prog X.w H s.heap dd (.xd fs) := I.hok dd _ hx
      obtain ⟨mA, hns, _⟩ := hx'
      obtain ⟨od, ho, _⟩ := lookIn_ns hns
      exact ⟨some od, hget, hz.1, by unfold PySem.W.notCls; rw [hv] <;> rfl, by rw [hz.2]; exact ho⟩
  exact PySem.W.kia_one (kitx_excD C) I.kIn J e (fun z => nomatch z) fun tk => ⟨.bl b, H, I.kept (t' := tk) fun _ _ z => z, rfl, q⟩
section
variable {X : Cx} {xr : XR} {W : WX} {pos p p0 p1 : Pos}
/-- isinstance(e, c): e the exception that is held; cs: what is known of the classes -/
theorem x_is {C : Calls} {i : Nat} {x c : Str} (hX : XAt X xr) (hN : X.N[i]? = some x) (hv : Vis X.env.scope x) (hd : (x == ("__debug__" : Str)) = false) (hcd : (x == ("__classdict__" : Str)) = false)
    (hg : Gl X "isinstance") (hm : X.mg "isinstance" = none) (hgc : Gl X c) (hmc : X.mg c = some (.ref (He.ga X.K c))) (hdc : (c == ("__debug__" : Str)) = false)
    (hsub : ∀ c' b, C.sub c' c = some b → ExcC X.K (He.ga X.K c') ∧ PySem.W.kitOne X.K (.ref (He.ga X.K c')) (.ref (He.ga X.K c)) = some b)
    (he : starEach [.Name x p, .Name c p1] X.env = (false, eval (.Name x p) X.env) :: starEach [.Name c p1] X.env) (he2 : starEach [.Name c p1] X.env = (false, eval (.Name c p1) X.env) :: starEach [] X.env)
    (hpl : (backTo pos (starEach [.Name c p1] X.env)).any (·.1) = false) : EOk X xr W (.Call (.Name "isinstance" p0) [.Name x p, .Name c p1] [] pos) (fun ρ => xIsR C ρ i c) := by
  by_cases hz : ∃ w ns c' l v b, xr w c' ns l v ∧ C.sub c' c = some b
  · obtain ⟨w0, ns0, c0, l0, v0, b0, hx0, hb0⟩ := hz
    obtain ⟨a, oe, d, X0, pn, rfl, ev, zc, hf, _⟩ := hX _ _ _ _ _ hx0
    have pT : PE (X0.suite a ((a, oe) :: pn)) (.Name c p1) (tC (.ref (He.ga X0.K c))) := pe_glob hgc hmc rfl hdc
    refine ⟨_, pe_callB (call_isD (hsub c0 b0 hb0).1 zc hf) hg hm (by first | rfl | decide +kernel) (pa_cons (pe_var hN hv hd hcd) (pa_cons pT pa_nil he2) he) (by decide) (by decide) he hpl, fun σ w S ρ Q er sr h => ?_⟩
    unfold xIsR at h
    cases e : ρ[i]? with
    | none => simp only [e] at h; exact h.elim
    | some o =>
      cases o with
      | none => simp only [e] at h; exact h.elim
      | some r =>
        cases r with
        | dat dd => simp only [e] at h; exact h.elim
        | own k => simp only [e] at h; exact h.elim
        | exc c' ns l =>
          simp only [e] at h
          cases e2 : C.sub c' c with
          | none => simp only [e2] at h; exact h.elim
          | some b =>
            simp only [e2] at h
            obtain ⟨v, h1, h2⟩ := er.get i _ e
            obtain ⟨a', oe', d', X0', pn', eX, ev', zc', hf', hD'⟩ := hX _ _ _ _ _ h2
            have e3 : (a, oe) = (a', oe') := by
              have q := congrArg Cx.pn eX
              exact (List.cons.inj q).1
            cases e3
            have ed : d = d' := zc.2.symm.trans zc'.2
            subst ed
            have ec : He.ga X0.K c0 = He.ga X0.K c' := by
              have q := zc.1.symm.trans zc'.1
              exact Value.ref.inj q
            refine ⟨.ref a, by rw [h1, ev'], .ref (He.ga X0.K c), .ref (He.ga X0.K c), b, rfl, hD'.dict, fun u q => q, ?_, ?_⟩
            · rw [ec]
              exact (hsub c' b e2).2
            · exact hop_pure h sr rfl
  · refine ⟨fun _ _ _ => False, ⟨fun _ _ _ _ _ _ (z : False) => z.elim⟩, fun σ w S ρ Q er sr h => hz ?_⟩
    · unfold xIsR at h
      cases e : ρ[i]? with
      | none => simp only [e] at h; exact h.elim
      | some o =>
        cases o with
        | none => simp only [e] at h; exact h.elim
        | some r =>
          cases r with
          | dat dd => simp only [e] at h; exact h.elim
          | own k => simp only [e] at h; exact h.elim
          | exc c' ns l =>
            simp only [e] at h
            cases e2 : C.sub c' c with
            | none => simp only [e2] at h; exact h.elim
            | some b =>
              obtain ⟨v, h1, h2⟩ := er.get i _ e
              exact ⟨w, ns, c', l, v, b, h2, e2⟩
/-- e.f -/
theorem x_at {C : Calls} {i : Nat} {x f : Str} (hX : XAt X xr) (hN : X.N[i]? = some x) (hv : Vis X.env.scope x) (hd : (x == ("__debug__" : Str)) = false) (hcd : (x == ("__classdict__" : Str)) = false)
    (hf : ∀ c, C.xf c f = true → XfC X.K (He.ga X.K c) ∧ PySem.W.findIn X.K (.ref (He.ga X.K c)) f = some none)
    (hb : attributeBase (.Name x p) f X.env (eval (.Name x p) X.env) = eval (.Name x p) X.env) : EOk X xr W (.Attribute (.Name x p) f pos) (fun ρ => xAtR C ρ i f) := by
  by_cases hz : ∃ w ns c' l v, xr w c' ns l v ∧ C.xf c' f = true
  · obtain ⟨w0, ns0, c0, l0, v0, hx0, hy0⟩ := hz
    obtain ⟨a, oe, d, X0, pn, rfl, ev, zc, hfl, _⟩ := hX _ _ _ _ _ hx0
    have q := hf _ hy0
    refine ⟨_, pe_xf q.1 q.2 zc hfl (pe_var hN hv hd hcd) hb, fun σ w S ρ Q er sr h => ?_⟩
    unfold xAtR at h
    cases e : ρ[i]? with
    | none => simp only [e] at h; exact h.elim
    | some o =>
      cases o with
      | none => simp only [e] at h; exact h.elim
      | some r =>
        cases r with
        | dat dd => simp only [e] at h; exact h.elim
        | own k => simp only [e] at h; exact h.elim
        | exc c' ns l =>
          simp only [e] at h
          by_cases e9 : C.xf c' f = true
          case neg => rw [if_neg e9] at h; exact h.elim
          rw [if_pos e9] at h
          cases e2 : lookA f ns l with
          | none => simp only [e2] at h; exact h.elim
          | some y =>
            simp only [e2] at h
            obtain ⟨v, h1, h2⟩ := er.get i _ e
            obtain ⟨a', oe', d', X0', pn', eX, ev', zc', hf', hD'⟩ := hX _ _ _ _ _ h2
            have e3 : (a, oe) = (a', oe') := by
              have q := congrArg Cx.pn eX
              exact (List.cons.inj q).1
            cases e3
            have ed : d = d' := zc.2.symm.trans zc'.2
            subst ed
            obtain ⟨dd, fs, e4, nl, e5, e6⟩ := hD'.resolve_left fun z => by
              have z1 := z.1
              subst z1
              cases l <;> cases e2
            obtain ⟨u, e7, e8⟩ := e6 f y e2
            exact ⟨.ref a, by rw [h1, ev'], rfl, rfl, dd, fs, u, e4, e5, e7, hop_pure (rel := Rel (X0.suite a ((a, oe) :: pn)).K) h sr e8⟩
  · refine ⟨fun _ _ _ => False, ⟨fun _ _ _ _ _ _ (z : False) => z.elim⟩, fun σ w S ρ Q er sr h => hz ?_⟩
    · unfold xAtR at h
      cases e : ρ[i]? with
      | none => simp only [e] at h; exact h.elim
      | some o =>
        cases o with
        | none => simp only [e] at h; exact h.elim
        | some r =>
          cases r with
          | dat dd => simp only [e] at h; exact h.elim
          | own k => simp only [e] at h; exact h.elim
          | exc c' ns l =>
            simp only [e] at h
            by_cases e9 : C.xf c' f = true
            · obtain ⟨v, h1, h2⟩ := er.get i _ e
              exact ⟨w, ns, c', l, v, h2, e9⟩
            · rw [if_neg e9] at h
              exact h.elim
end
end MP
set_option Elab.async false
set_option linter.all false
set_option maxRecDepth 100000
set_option maxHeartbeats 4000000
/-! MPCall4: calls with keywords; new instances. -/
namespace MP
open PySem PySem.Spec PyProof.Rows L2
theorem pick_rel {K : PySem.W.Frag} {w : Wd} {rs : List R} {vs : List V} (h : Rels K w rs vs) : ∀ {pm : List Nat} {qs : List R}, pick pm rs = some qs → ∃ us, (pm.mapM fun i => vs[i]?) = some us ∧ Rels K w qs us
  | [], qs, e => by
    cases (show some [] = some qs from e)
    exact ⟨[], rfl, rfl⟩
  | i :: pm, qs, e => by
    unfold pick at e
    rw [List.mapM_cons] at e
    cases e1 : rs[i]? with
    | none => rw [e1] at e; cases e
    | some r =>
      rw [e1] at e
      cases e2 : pm.mapM (fun i => rs[i]?) with
      | none => rw [e2] at e; cases e
      | some q2 =>
        rw [e2] at e
        cases (show some (r :: q2) = some qs from e)
        obtain ⟨v, h1, h2⟩ := h.get e1
        obtain ⟨us, h3, h4⟩ := pick_rel h (pm := pm) (qs := q2) e2
        refine ⟨v :: us, ?_, v, us, rfl, h2, h4⟩
        rw [List.mapM_cons, h1, h3]
        rfl
theorem pick_val {vs : List V} {us : List Value} (h : Vals vs us) : ∀ {pm : List Nat} {zs : List V}, (pm.mapM fun i => vs[i]?) = some zs → ∃ ws, (pm.mapM fun i => us[i]?) = some ws ∧ Vals zs ws
  | [], zs, e => by
    cases (show some [] = some zs from e)
    exact ⟨[], rfl, .nil⟩
  | i :: pm, zs, e => by
    rw [List.mapM_cons] at e
    cases e1 : vs[i]? with
    | none => rw [e1] at e; cases e
    | some r =>
      rw [e1] at e
      cases e2 : pm.mapM (fun i => vs[i]?) with
      | none => rw [e2] at e; cases e
      | some q2 =>
        rw [e2] at e
        cases (show some (r :: q2) = some zs from e)
        obtain ⟨u, h1, h2⟩ := h.get e1
        obtain ⟨ws, h3, h4⟩ := pick_val h (pm := pm) (zs := q2) e2
        refine ⟨u :: ws, ?_, .cons h2 h4⟩
        rw [List.mapM_cons, h1, h3]
        rfl
/-- how a call with n values and the keywords ks binds: in the order pm -/
def KwB (fd : FuncData) (ps : List Str) (n : Nat) (ks : List Str) (pm : List Nat) : Prop :=
  ∀ us ws zs : List Value, us.length = n → ws.length = ks.length → (pm.mapM fun i => (us ++ ws)[i]?) = some zs → bindArgs fd ⟨us, ks.zip ws⟩ = pure (ps.zip zs)
def KOk (X : Cx) (xr : XR) (W : WX) (kws : List Keyword) (m : MP.Env → M (List R)) : Prop :=
  ∃ t, PK X kws t ∧ ∀ σ w S ρ Q, EnvR X.K xr w σ ρ → SR X.K w S → Hop X.K (Rels X.K) (WE W σ) w Q (m ρ S) → t σ w.H Q
section
variable {X : Cx} {xr : XR} {W : WX} {a b c e o : Expr} {es rest : List Expr} {ma mb mc : MP.Env → M R} {mt : MP.Env → M Bool} {ms mk : MP.Env → M (List R)} {pos p p0 p1 p2 : Pos}
variable {k n : Nat} {f C : Addr} {fd : FuncData} {ps ks : List Str} {sp : Sp} {x : Str} {kws : List Keyword} {nm : Option Str} {pm : List Nat}
theorem k_nil : KOk X xr W [] (fun _ => M.pure []) := ⟨_, pk_nil, fun σ w S ρ Q er sr h => hop_pure h sr rfl⟩
theorem k_cons (hx : xr.Ok) (ha : EOk X xr W e ma) (hr : KOk X xr W kws ms) : KOk X xr W (⟨nm, e, p⟩ :: kws) (fun ρ => M.bind (ma ρ) fun x => M.bind (ms ρ) fun xs => M.pure (x :: xs)) := by
  obtain ⟨ta, pa, qa⟩ := ha
  obtain ⟨ts, pss, qs⟩ := hr
  refine ⟨_, pk_cons pa pss, fun σ w S ρ Q er sr h => qa σ w S ρ _ er sr (h.bind fun w1 x u S1 e1 s1 rx h1 => qs σ w1 S1 ρ _ (er.ext hx e1) s1 (h1.bind fun w2 xs us S2 e2 s2 rs h2 => ?_))⟩
  exact hop_pure (rel := Rels X.K) h2 s2 ⟨u, us, rfl, rx.ext e2, rs⟩
theorem run_kw {pins : List (Addr × Obj)} {σ : St} {H : Hp} {s : Shared} {Q : VK} {us ws : List Value} {vs zs as : List V} {E : XK} (F : FnOk X.prog X.w X.K X.mg X.base (L2N.CX X.prog X.w) k f fd ps sp) (hr : Room k X.A) (hb : KwB fd ps n ks pm)
    (hx : PassesAt (L2N.CX X.prog X.w) X σ E) (I : Inv X pins σ H s) (r : Vals vs us) (rz : Vals zs ws) (l1 : vs.length = n) (l2 : zs.length = ks.length) (e : (pm.mapM fun i => (vs ++ zs)[i]?) = some as) (h : sp as H Q E) :
    wpAny (model X.prog X.w) X.A (call (.ref f) us (ks.zip ws)) (EP X pins σ Q) X.xe s := by
  obtain ⟨bs, e2, r2⟩ := pick_val (r.append rz) e
  have b := hb us ws bs (by rw [← r.length]; exact l1) (by rw [← rz.length]; exact l2) e2
  refine wpAny_call (codeAny_mono (F.run X.A X.stack s H ⟨us, ks.zip ws⟩ bs as Q E hr I.env0 (.of_eq b) r2 h) fun q s' hq => ?_)
  match q, hq with
  | .error e, hq => exact hx pins H s e s' I hq
  | .ok (.ret u), hq => exact I.after hq
  | .ok .next, hq => exact False.elim hq
  | .ok .brk, hq => exact False.elim hq
  | .ok .cont, hq => exact False.elim hq
theorem e_callK {g : List R → M R} (hx : xr.Ok) (F : FnOk X.prog X.w X.K X.mg X.base (L2N.CX X.prog X.w) k f fd ps sp) (hs : SpOk X.K sp g) (hr : Room k X.A) (hg : Gl X x) (hm : X.mg x = some (.ref f)) (hk : PySem.W.keepIn X.K (.ref f) = true) (hb : KwB fd ps n ks pm)
    (tk : L2N.Takes X W) (hdb : (x == ("__debug__" : Str)) = false) (he : starEach (a :: es) X.env = (false, eval a X.env) :: starEach es X.env)
    (hall : (backToKw pos (keywordEach kws X.env)).all (·.1.isSome) = true) (hks : (backToKw pos (keywordEach kws X.env)).filterMap (·.1) = ks)
    (hpl : ((backTo pos (starEach (a :: es) X.env)).any (·.1) || (backToKw pos (keywordEach kws X.env)).any (·.1.isNone)) = false) (ha : EOk X xr W a ma) (hes : AOk X xr W es ms) (hkw : KOk X xr W kws mk)
    (hn : ∀ ρ S xs S', ms ρ S = .ok xs S' → xs.length + 1 = n) (hn2 : ∀ ρ S xs S', mk ρ S = .ok xs S' → xs.length = ks.length) :
    EOk X xr W (.Call (.Name x p0) (a :: es) kws pos) (fun ρ => M.bind (ma ρ) fun x => M.bind (ms ρ) fun xs => M.bind (mk ρ) fun ys => match pick pm (x :: xs ++ ys) with
      | some zs => g zs
      | none => M.stuck) := by
  obtain ⟨ta, pa, qa⟩ := ha
  obtain ⟨ts, pss, qs⟩ := hes
  obtain ⟨tk2, pk, qk⟩ := hkw
  have pas := pa_cons pa pss he
  refine ⟨fun σ H Q => tCons ta ts σ H fun vs H1 => tk2 σ H1 fun zs H2 => vs.length = n ∧ zs.length = ks.length ∧ ∃ as, (pm.mapM fun i => (vs ++ zs)[i]?) = some as ∧ sp as H2 Q (WE W σ), ⟨fun pins s σ H Q I h => ?_⟩, fun σ w S ρ Q er sr h => ?_⟩
  · refine wpAny_Call_Name_kw (ld_glob I hg hm ?_ hdb)
    refine PySem.W.callWith_KW (h₀ := X.base) I.ok.mod.kin hk hall (thn (pas.run pos pins s σ H _ I h) fun us s1 ⟨vs, H1, I1, r, q⟩ => ?_) hpl he
    refine thn (pk.run pos pins s1 σ H1 _ I1 q) fun ws s2 ⟨zs, H2, I2, rz, q1, q2, as, q3, q4⟩ => ⟨I2.kIn, ?_⟩
    rw [hks]
    exact run_kw F hr hb (L2N.passAt tk σ) I2 r rz q1 q2 q3 q4
  · refine qa σ w S ρ _ er sr (h.bind fun w1 x u S1 e1 s1 rx h1 => ?_)
    have h1 : Hop X.K (Rel X.K) (WE W σ) w1 Q (M.bind (ms ρ) (fun xs => M.bind (mk ρ) fun ys => match pick pm (x :: xs ++ ys) with
      | some zs => g zs
      | none => M.stuck) S1) := h1
    refine qs σ w1 S1 ρ _ (er.ext hx e1) s1 ?_
    unfold M.bind at h1
    cases e : ms ρ S1 with
    | stuck => simp only [e] at h1; exact h1.elim
    | exc c ns l S2 => simp only [e] at h1; exact h1
    | ok xs S2 =>
      simp only [e] at h1
      intro w2 us e2 s2 rs
      refine qk σ w2 S2 ρ _ ((er.ext hx e1).ext hx e2) s2 ?_
      cases e5 : mk ρ S2 with
      | stuck => simp only [e5] at h1; exact h1.elim
      | exc c ns l S3 =>
        simp only [e5] at h1
        exact Hop.ext (r2 := Rels X.K) (x := .exc c ns l S3) (Q := fun _ _ => True) e2 h1
      | ok ys S3 =>
        simp only [e5] at h1
        intro w3 zs e3 s3 rz
        have l1 : (u :: us).length = n := by rw [← hn _ _ _ _ e, rs.length]; rfl
        have l2 : zs.length = ks.length := by rw [← rz.length]; exact hn2 _ _ _ _ e5
        refine ⟨l1, l2, ?_⟩
        cases e6 : pick pm (x :: xs ++ ys) with
        | none => rw [e6] at h1; exact h1.elim
        | some qs =>
          rw [e6] at h1
          have rall : Rels X.K w3 (x :: xs ++ ys) (u :: us ++ zs) := Rels.append (show Rels X.K w3 (x :: xs) (u :: us) from ⟨u, us, rfl, rx.ext (e2.trans e3), rs.ext e3⟩) rz
          obtain ⟨as, e7, r7⟩ := pick_rel rall e6
          exact ⟨as, e7, hs w3 S3 qs as Q _ s3 r7 (Hop.ext (e2.trans e3) h1)⟩
theorem e_callKK {g : List R → M R} (hx : xr.Ok) (F : FnOk X.prog X.w X.K X.mg X.base (L2N.CX X.prog X.w) k f fd ps sp) (hs : SpOk X.K sp g) (hr : Room k X.A) (hg : Gl X x) (hm : X.mg x = some (.ref f)) (hk : PySem.W.keepIn X.K (.ref f) = true) (hb : KwB fd ps 0 ks pm)
    (tk : L2N.Takes X W) (hdb : (x == ("__debug__" : Str)) = false)
    (hall : (backToKw pos (keywordEach kws X.env)).all (·.1.isSome) = true) (hks : (backToKw pos (keywordEach kws X.env)).filterMap (·.1) = ks)
    (hpl : ((backTo pos (starEach [] X.env)).any (·.1) || (backToKw pos (keywordEach kws X.env)).any (·.1.isNone)) = false) (hkw : KOk X xr W kws mk)
    (hn2 : ∀ ρ S xs S', mk ρ S = .ok xs S' → xs.length = ks.length) :
    EOk X xr W (.Call (.Name x p0) [] kws pos) (fun ρ => M.bind (mk ρ) fun ys => match pick pm ys with
      | some zs => g zs
      | none => M.stuck) := by
  obtain ⟨tk2, pk, qk⟩ := hkw
  refine ⟨fun σ H Q => tk2 σ H fun zs H2 => zs.length = ks.length ∧ ∃ as, (pm.mapM fun i => (([] : List V) ++ zs)[i]?) = some as ∧ sp as H2 Q (WE W σ), ⟨fun pins s σ H Q I h => ?_⟩, fun σ w S ρ Q er sr h => ?_⟩
  · refine wpAny_Call_Name_kw (ld_glob I hg hm ?_ hdb)
    refine PySem.W.callWith_KW0 (h₀ := X.base) I.ok.mod.kin hk hall ?_ hpl
    refine thn (pk.run pos pins s σ H _ I h) fun ws s2 ⟨zs, H2, I2, rz, q2, as, q3, q4⟩ => ⟨I2.kIn, ?_⟩
    rw [hks]
    exact run_kw (us := []) (vs := []) F hr hb (L2N.passAt tk σ) I2 .nil rz rfl q2 q3 q4
  · refine qk σ w S ρ _ er sr ?_
    dsimp only at h
    unfold M.bind at h
    cases e5 : mk ρ S with
    | stuck => simp only [e5] at h; exact h.elim
    | exc c ns l S3 => simp only [e5] at h; exact h
    | ok ys S3 =>
      simp only [e5] at h
      intro w3 zs e3 s3 rz
      have l2 : zs.length = ks.length := by rw [← rz.length]; exact hn2 _ _ _ _ e5
      refine ⟨l2, ?_⟩
      cases e6 : pick pm ys with
      | none => rw [e6] at h; exact h.elim
      | some qs =>
        rw [e6] at h
        obtain ⟨as, e7, r7⟩ := pick_rel rz e6
        exact ⟨as, e7, hs w3 S3 qs as Q _ s3 r7 (Hop.ext e3 h)⟩
/-! ### new instances -/
theorem make_ok {CC : Calls} {m : Bool} {fi : Nat} {c : Str} {K : PySem.W.Frag} {sp : Sp} (hs : SpOk K sp (CC.fn fi)) : ∀ (w : Wd) (S : Store) (rs : List R) (vs : List V) (Q : VK) (E : XK), SR K w S → Rels K w rs vs → Hop K (Rel K) E w Q (makeR CC m fi c rs S) →
    ∀ x dx, w.H x = none → w.H dx = none → dx ≠ x → sp (.ref x :: vs) (upd (upd w.H dx (.own x)) x (.ins (He.ga K c) dx [])) (fun v H2 => v = .non ∧ Q (.ref x) H2) E := by
  intro w S rs vs Q E s r h x dx hx hdx hne
  have s1 : SR K (w.new dx (.own x)) S := s.new hdx
  have e1 : Ext w (w.new dx (.own x)) := ext_new s hdx
  have hx1 : (w.new dx (.own x)).H x = none := by
    show upd w.H dx (.own x) x = none
    rw [upd_ne hne.symm]
    exact hx
  have e2 : Ext (w.new dx (.own x)) ((w.new dx (.own x)).push x (.ins (He.ga K c) dx [])) := ext_push s1 hx1
  have e12 := e1.trans e2
  have s2 : SR K ((w.new dx (.own x)).push x (.ins (He.ga K c) dx [])) (S ++ [.obj c [] []]) := s1.push hx1 ⟨dx, [], upd_same, rfl, rfl⟩
  have ln : w.n = S.length := s.n
  have px : ((w.new dx (.own x)).push x (.ins (He.ga K c) dx [])).p S.length = x := by
    rw [← ln]
    exact push_p (w := w.new dx (.own x))
  have ro : Rel K ((w.new dx (.own x)).push x (.ins (He.ga K c) dx [])) (.own S.length) (.ref x) := ⟨by rw [← ln]; exact Nat.lt_succ_self _, by rw [px]⟩
  have rall : Rels K ((w.new dx (.own x)).push x (.ins (He.ga K c) dx [])) (.own S.length :: rs) (.ref x :: vs) := ⟨_, _, rfl, ro, r.ext e12⟩
  refine hs _ _ _ _ _ E s2 rall ?_
  unfold makeR at h
  cases e : CC.fn fi (.own S.length :: rs) (S ++ [.obj c [] []]) with
  | stuck => simp only [e] at h; exact h.elim
  | exc c' ns l S' =>
    simp only [e] at h
    exact fun w' d x3 s3 hd => h w' d (e12.trans x3) s3 hd
  | ok q S' =>
    intro w' v x3 s3 rv
    cases q with
    | own k => simp only [e] at h; exact h.elim
    | exc c' ns l => simp only [e] at h; exact h.elim
    | dat d =>
      cases d with
      | non =>
        simp only [e] at h
        refine ⟨rv, ?_⟩
        have r3 : Rel K w' (.own S.length) (.ref x) := ro.ext x3
        by_cases hm : m = true
        · rw [if_pos hm] at h
          exact h w' (.ref x) (e12.trans x3) s3 r3
        · rw [if_neg hm] at h
          by_cases hb : (S'.take S.length).all (Cell.below S.length) = true ∧ S.length ≤ S'.length
          · rw [if_pos hb] at h
            have l3 : S.length ≤ w'.n := by rw [s3.n]; exact hb.2
            cases ed : toD S.length S' 8 (.own S.length) with
            | none => rw [ed] at h; exact h.elim
            | some dd =>
              rw [ed] at h
              exact h (w'.cut S.length) (.ref x) ((e12.trans x3).cut ln) (s3.cut l3 hb.1) (toD_ok s3 l3 8 _ dd _ ed r3)
          · rw [if_neg hb] at h
            exact h.elim
      | _ => simp only [e] at h; exact h.elim
theorem e_make {CC : Calls} {m : Bool} {fi : Nat} {cn : Str} (hx : xr.Ok) (Mk' : Mk X.K (He.ga X.K cn) f) (F : FnOk X.prog X.w X.K X.mg X.base (L2N.CX X.prog X.w) k f fd ps sp) (hs : SpOk X.K sp (CC.fn fi)) (hr : Room (k + 1) X.A) (hg : Gl X x) (hm : X.mg x = some (.ref (He.ga X.K cn))) (hb : Binds X.K fd ps [])
    (tk : L2N.Takes X W) (hdb : (x == ("__debug__" : Str)) = false) (he : starEach (a :: es) X.env = (false, eval a X.env) :: starEach es X.env) (hpl : (backTo pos (starEach es X.env)).any (·.1) = false) (ha : EOk X xr W a ma) (hes : AOk X xr W es ms) :
    EOk X xr W (.Call (.Name x p0) (a :: es) [] pos) (fun ρ => M.bind (ma ρ) fun x => M.bind (ms ρ) fun xs => makeR CC m fi cn (x :: xs)) := by
  obtain ⟨ta, pa, qa⟩ := ha
  obtain ⟨ts, pss, qs⟩ := hes
  have pas := pa_cons pa pss he
  refine ⟨fun σ H Q => tCons ta ts σ H fun vs H1 => ∀ x dx, H1 x = none → H1 dx = none → dx ≠ x → sp (.ref x :: vs) (upd (upd H1 dx (.own x)) x (.ins (He.ga X.K cn) dx [])) (fun v H2 => v = .non ∧ Q (.ref x) H2) (WE W σ), ⟨fun pins s σ H Q I h => ?_⟩, fun σ w S ρ Q er sr h => ?_⟩
  · refine wpAny_Call_Name_kw (ld_glob I hg hm ?_ hdb)
    refine PySem.W.callWith_K (h₀ := X.base) I.ok.mod.kin Mk'.kp (thn (pas.run pos pins s σ H _ I h) fun us s1 ⟨vs, H1, I1, r, q⟩ => ⟨I1.kIn, ?_⟩) he hpl
    have hq := q (s1.heap.objs.size + 1) s1.heap.objs.size (I1.hok.fresh (Nat.le_succ _)) (I1.hok.fresh (Nat.le_refl _)) (Nat.ne_of_lt (Nat.lt_succ_self _))
    have I2 := Inv.made (C := He.ga X.K cn) I1
    have r2 : Vals (V.ref (s1.heap.objs.size + 1) :: vs) (Value.ref (s1.heap.objs.size + 1) :: us) := .cons rfl r
    have hl : (Value.ref (s1.heap.objs.size + 1) :: us).length = ps.length := by rw [← r2.length]; exact F.len _ _ _ _ hq
    have b := hb _ (Value.ref (s1.heap.objs.size + 1) :: us) I2.kIn (by rw [List.append_nil]; exact hl)
    rw [List.append_nil] at b
    refine wpAny_call (make_map (f := f) I1.kIn Mk'.makes Mk'.init (beq_iff_eq.mp Mk'.fn) (codeAny_mono (F.run _ X.stack _ _ ⟨Value.ref (s1.heap.objs.size + 1) :: us, []⟩ _ _ _ (WE W σ) (hr.make (He.ga X.K cn) us []) (I2.env0.make (He.ga X.K cn) us []) b r2 hq) fun z s' hq' => ?_))
    match z, hq' with
    | .error e, hq' => exact L2N.passAt tk σ pins _ _ e s' I2 hq'
    | .ok (.ret u), hq' =>
      obtain ⟨v, H', I3, rv, ev, q3⟩ := I2.after hq'
      subst ev
      exact ⟨rv, ⟨V.ref (s1.heap.objs.size + 1), H', I3, rfl, q3⟩⟩
    | .ok .next, hq' => exact False.elim hq'
    | .ok .brk, hq' => exact False.elim hq'
    | .ok .cont, hq' => exact False.elim hq'
  · refine qa σ w S ρ _ er sr (h.bind fun w1 x u S1 e1 s1 rx h1 => qs σ w1 S1 ρ _ (er.ext hx e1) s1 (h1.bind fun w2 xs us S2 e2 s2 rs h2 => ?_))
    exact make_ok hs w2 S2 (x :: xs) (u :: us) Q _ s2 ⟨u, us, rfl, rx.ext e2, rs⟩ h2
end
end MP
set_option Elab.async false
set_option linter.all false
set_option maxRecDepth 100000
set_option maxHeartbeats 4000000
/-! MPZip: zip of lists and tuples, mixed. -/
namespace MP
open PySem PySem.Spec PyProof.Rows L2
def SqB (K : PySem.W.Frag) (t : Bool) (H : Hp) (a : Addr) (xs : List V) : Prop := match t with
  | true => SqT K H a xs
  | false => SqL K H a xs
def ItB (t : Bool) (h : Heap) (it a : Addr) (i : Nat) : Prop := match t with
  | true => h.IsTupleIter it a i
  | false => h.IsListIter it a i
def StB (t : Bool) (it a : Addr) (items : Array Value) (i : Nat) (h : Heap) : Prop := match t with
  | true => h.IsTupleIter it a i ∧ h.IsTuple a items
  | false => h.IsListIter it a i ∧ h.IsList a items
theorem StB.it {t : Bool} {it a : Addr} {items : Array Value} {i : Nat} {h : Heap} (s : StB t it a items i h) : ItB t h it a i := by
  cases t with
  | true => exact s.1
  | false => exact s.1
theorem StB.ne {t : Bool} {it a : Addr} {items : Array Value} {i : Nat} {h : Heap} (s : StB t it a items i h) : a ≠ it := fun q => by
  subst q
  cases t with
  | true =>
    obtain ⟨⟨o, e, c, _⟩, ⟨o2, e2, c2, _⟩⟩ := s
    rw [e] at e2
    cases e2
    rw [c] at c2
    injection c2 with c3
    exact absurd c3 (by decide)
  | false =>
    obtain ⟨⟨o, e, c, _⟩, ⟨o2, e2, c2, _⟩⟩ := s
    rw [e] at e2
    cases e2
    rw [c] at c2
    injection c2 with c3
    exact absurd c3 (by decide)
theorem nin {x a b : Nat} (h1 : x ≠ a) (h2 : x ≠ b) : x ∉ [a, b] := by simp [h1, h2]
theorem sep_nat (n a b : Nat) (la : a < n) (lb : b < n) : ZipSep2 (n + 4) (n + 2) (n + 3) n (n + 1) [n, a] [n + 1, b] where
  TIz := show (n + 2 : Nat) ≠ n + 4 by omega
  TOz := show (n + 3 : Nat) ≠ n + 4 by omega
  TITO := show (n + 2 : Nat) ≠ n + 3 by omega
  TIi1 := show (n + 2 : Nat) ≠ n by omega
  mem1 := List.mem_cons_self
  zf1 := nin (show (n + 4 : Nat) ≠ n by omega) (show (n + 4 : Nat) ≠ a by omega)
  Tf1 := nin (show (n + 3 : Nat) ≠ n by omega) (show (n + 3 : Nat) ≠ a by omega)
  TIi2 := show (n + 2 : Nat) ≠ n + 1 by omega
  mem2 := List.mem_cons_self
  zf2 := nin (show (n + 4 : Nat) ≠ n + 1 by omega) (show (n + 4 : Nat) ≠ b by omega)
  Tf2 := nin (show (n + 3 : Nat) ≠ n + 1 by omega) (show (n + 3 : Nat) ≠ b by omega)
  sep1_2 := nin (show (n : Nat) ≠ n + 1 by omega) (show (n : Nat) ≠ b by omega)
  sep2_1 := nin (show (n + 1 : Nat) ≠ n by omega) (show (n + 1 : Nat) ≠ a by omega)
theorem ItB.obj {t : Bool} {h : Heap} {it a : Addr} {i : Nat} (s : ItB t h it a i) : ∃ o, h.get? it = some o ∧ ∀ v, o.data ≠ .cell v := by
  cases t with
  | true => obtain ⟨o, e, _, d⟩ := s; exact ⟨o, e, fun v q => by rw [d] at q; cases q⟩
  | false => obtain ⟨o, e, _, d⟩ := s; exact ⟨o, e, fun v q => by rw [d] at q; cases q⟩
theorem ItB.at {t : Bool} {h h' : Heap} {it a : Addr} {i : Nat} (s : ItB t h it a i) (k : ∀ o, h.get? it = some o → h'.get? it = some o) : ItB t h' it a i := by
  cases t with
  | true => exact Heap.IsTupleIter.at s k
  | false => exact Heap.IsListIter.at s k
theorem drawsB {prog : Program} {w : World} {A : Around} (hh : A.handled = none) (t : Bool) (it a : Addr) (hne : a ≠ it) (items : Array Value) : Draws prog w A it [it, a] items.size (fun i v => items[i]? = some v) (StB t it a items) := by
  cases t with
  | true => exact Draws.tuple hh it a hne items
  | false => exact Draws.list hh it a hne items
theorem seqB {X : Cx} {pins : List (Addr × Obj)} {σ : L2.St} {H : Hp} {s : Shared} {t : Bool} {a : Addr} {xs : List V} (I : Inv X pins σ H s) (h : SqB X.K t H a xs) : ∃ its : List Value, Vals xs its ∧ a < s.heap.objs.size ∧ (∀ it i, ItB t s.heap it a i → StB t it a its.toArray i s.heap) ∧
    ∃ o P, PySem.Begins (.ref a) o P ∧ P s.heap ∧ ∀ (h' : Heap) (it : Addr), h'.get? it = some o → ItB t h' it a 0 := by
  cases t with
  | true =>
    obtain ⟨its, rv, p, _⟩ := I.tuple h
    have p2 : s.heap.IsTuple a its.toArray := p
    obtain ⟨o, ho, _⟩ := id p2
    exact ⟨its, rv, Heap.lt_size ho, fun it i q => ⟨q, p2⟩, _, _, begins_tuple a its.toArray, p2, fun h' it e => ⟨_, e, rfl, rfl⟩⟩
  | false =>
    obtain ⟨its, rv, p, _⟩ := I.list h
    have p2 := p.isList
    exact ⟨its, rv, p.lt, fun it i q => ⟨q, p2⟩, _, _, begins_list a its.toArray, p2, fun h' it e => ⟨_, e, rfl, rfl⟩⟩
theorem injB {X : Cx} {pins : List (Addr × Obj)} {σ : L2.St} {H : Hp} {s : Shared} {t : Bool} {a : Addr} {xs ys : List V} (I : Inv X pins σ H s) (h : SqB X.K t H a xs) (h' : SqB X.K t H a ys) : xs = ys := by
  cases t with
  | true => exact I.tuple_inj h h'
  | false => exact I.list_inj h h'
/-- two sequences in step -/
def ItzB (K : PySem.W.Frag) (t1 t2 : Bool) (a b : Addr) : It :=
  ⟨fun i H => ∃ (xs ys : List V) (x y : V), SqB K t1 H a xs ∧ SqB K t2 H b ys ∧ xs[i]? = some x ∧ ys[i]? = some y,
    fun i H v H' => ∃ T x y, v = .ref T ∧ H T = none ∧ H' = upd H T (.tup [x, y]) ∧ (∀ xs, SqB K t1 H a xs → xs[i]? = some x) ∧ ∀ ys, SqB K t2 H b ys → ys[i]? = some y,
    fun i H => ∃ xs ys : List V, SqB K t1 H a xs ∧ SqB K t2 H b ys ∧ i ≤ xs.length ∧ i ≤ ys.length ∧ (i = xs.length ∨ i = ys.length)⟩
theorem turn_zipB {P : Program} {w : World} {K : PySem.W.Frag} {elts : List Expr} {kk : Nat} {tpos : Pos} {t1 t2 : Bool} {a b z TI TO i1 i2 : Addr} (D : ZipSep2 z TI TO i1 i2 [i1, a] [i2, b]) :
    Turn P w K (.Tuple elts kk tpos) (ItzB K t1 t2 a b) [z, TI, TO, i1, i2] z (fun i h => IsZip h z TI TO .none ∧ IsTupOf2 h TI (.ref i1) (.ref i2) ∧ (∃ x y, IsTupOf2 h TO x y) ∧ ItB t1 h i1 a i ∧ ItB t2 h i2 b i) where
  mem := by simp
  obj := fun i h st c hc => by
    obtain ⟨hz, hTI, ⟨x, y, hTO⟩, h1, h2⟩ := st
    have e' : c = z ∨ c = TI ∨ c = TO ∨ c = i1 ∨ c = i2 := by simpa using hc
    rcases e' with q | q | q | q | q
    · rw [q]; exact ⟨_, hz, fun v q => nomatch q⟩
    · rw [q]; exact ⟨_, hTI, fun v q => nomatch q⟩
    · rw [q]; exact ⟨_, hTO, fun v q => nomatch q⟩
    · rw [q]; exact h1.obj
    · rw [q]; exact h2.obj
  keep := fun i h h' st k => by
    obtain ⟨hz, hTI, ⟨x, y, hTO⟩, h1, h2⟩ := st
    exact ⟨k z (by simp) _ hz, k TI (by simp) _ hTI, ⟨x, y, k TO (by simp) _ hTO⟩, h1.at fun o q => k i1 (by simp) o q, h2.at fun o q => k i2 (by simp) o q⟩
  item := by
    intro X hP hw hK hc i pins s σ H E I hf st hg
    subst hP hw hK
    obtain ⟨hz, hTI, ⟨x0, y0, hTO⟩, h1, h2⟩ := st
    obtain ⟨xs, ys, x, y, hqx, hqy, hx, hy⟩ := hg
    obtain ⟨its, rv, la, st1, _⟩ := seqB I hqx
    obtain ⟨its2, rv2, lb, st2, _⟩ := seqB I hqy
    obtain ⟨u, hu, ru⟩ := rv.get hx
    obtain ⟨u2, hu2, ru2⟩ := rv2.get hy
    have hzl : z < s.heap.objs.size := Heap.lt_size hz
    have ne1 : a ≠ i1 := (st1 _ _ h1).ne
    have ne2 : b ≠ i2 := (st2 _ _ h2).ne
    have hh := I.ok.hd hc
    have lt1 : i < its.toArray.size := by
      have := (List.getElem?_eq_some_iff.mp hu).1
      simpa using this
    have lt2 : i < its2.toArray.size := by
      have := (List.getElem?_eq_some_iff.mp hu2).1
      simpa using this
    refine wpAny_pyNext_zipD2_item D (drawsB (A := X.A.in1) hh t1 i1 a ne1 its.toArray) (drawsB (A := X.A.in1) hh t2 i2 b ne2 its2.toArray) hz hTI hTO (st1 _ _ h1) (st2 _ _ h2) lt1 lt2 fun x1 x2 h' tk y1 y2 z' TO' s1' s2' hT hsz hk => ?_
    have ex1 : x1 = u := by
      have q : its.toArray[i]? = some x1 := y1
      rw [← Array.getElem?_toList] at q
      exact Option.some.inj (q.symm.trans hu)
    have ex2 : x2 = u2 := by
      have q : its2.toArray[i]? = some x2 := y2
      rw [← Array.getElem?_toList] at q
      exact Option.some.inj (q.symm.trans hu2)
    subst ex1 ex2
    refine ⟨_, rfl, wpAny_letOwnedTupleGo_zip (s := { s with heap := h', toks := tk }) z' fun h'' z'' sb => ?_⟩
    have hT2 : h''.get? s.heap.objs.size = some { cls := .type "tuple", data := .seq #[x1, x2] } := (sb.2 _ (Nat.ne_of_gt hzl)).trans hT
    have new : ObjOk X.prog X.w (upd H s.heap.objs.size (.tup [x, y])) h'' s.heap.objs.size (.tup [x, y]) :=
      ⟨by show 2 ≤ sizeLine; decide, [x1, x2], .cons ru (.cons ru2 .nil), ⟨_, hT2, rfl, _, rfl⟩⟩
    have I1 : Inv X pins σ (upd H s.heap.objs.size (.tup [x, y])) { s with heap := h'', toks := tk } :=
      I.turnedNew (t' := tk) (ch := [z, TI, TO, i1, i2]) (fun c o hb q => (sb.2 c (fun q' => hb (by simp [q']))).trans (hk c o (fun q' => hb (by simp [q'])) (fun q' => hb (by simp [q'])) (fun q' => hb (by simp [q'])) (fun q' => hb (by simp [q'])) q)) hf (Nat.le_refl _) new
    refine ⟨.ref s.heap.objs.size, _, I1, rfl, ⟨_, x, y, rfl, I.hok.fresh (Nat.le_refl _), rfl, fun l hl => by rw [injB I hl hqx]; exact hx, fun l hl => by rw [injB I hl hqy]; exact hy⟩, ⟨z'', ?_, ⟨x1, x2, ?_⟩, ?_, ?_⟩, fun c hcm => ?_⟩
    · exact (sb.2 _ D.TIz).trans (hk _ _ D.TIz D.TITO D.TIi1 D.TIi2 hTI)
    · exact (sb.2 _ D.TOz).trans TO'
    · exact s1'.it.at fun o q => (sb.2 _ D.zi1.symm).trans q
    · exact s2'.it.at fun o q => (sb.2 _ D.zi2.symm).trans q
    · have hlt : c < s.heap.objs.size := by
        have e' : c = z ∨ c = TI ∨ c = TO ∨ c = i1 ∨ c = i2 := by simpa using hcm
        rcases e' with q | q | q | q | q
        · rw [q]; exact hzl
        · rw [q]; exact Heap.lt_size hTI
        · rw [q]; exact Heap.lt_size hTO
        · rw [q]; obtain ⟨_, e1, _⟩ := h1.obj; exact Heap.lt_size e1
        · rw [q]; obtain ⟨_, e2, _⟩ := h2.obj; exact Heap.lt_size e2
      rw [upd_ne (Nat.ne_of_lt hlt)]
      exact (hf c hcm).1
  done := by
    intro X hP hw hK hc i pins s σ H E I hf st hg
    subst hP hw hK
    obtain ⟨hz, hTI, ⟨x0, y0, hTO⟩, h1, h2⟩ := st
    obtain ⟨xs, ys, hqx, hqy, hl1, hl2, hend⟩ := hg
    obtain ⟨its, rv, la, st1, _⟩ := seqB I hqx
    obtain ⟨its2, rv2, lb, st2, _⟩ := seqB I hqy
    have l1 := rv.length
    have l2 := rv2.length
    have ne1 : a ≠ i1 := (st1 _ _ h1).ne
    have ne2 : b ≠ i2 := (st2 _ _ h2).ne
    have hh := I.ok.hd hc
    exact wpAny_pyNext_zipD2_end D (drawsB (A := X.A.in1) hh t1 i1 a ne1 its.toArray) (drawsB (A := X.A.in1) hh t2 i2 b ne2 its2.toArray) hz hTI hTO (st1 _ _ h1) (st2 _ _ h2) (by simp; omega) (by simp; omega) (by simp; omega) fun h' tk hk => ⟨rfl, I.turnedL (t' := tk) (ch := [z, TI, TO, i1, i2]) (fun c o hb q =>
      hk c o (fun q' => hb (by simp [q'])) (fun q' => hb (by simp [q'])) (fun q' => hb (by simp [q'])) (fun q' => hb (by simp [q'])) q) hf⟩
  self := fun A i s Q E st h => wpAny_pyIter_zip st.1 h
def iZipB (K : PySem.W.Frag) (ta : TA) : TI := fun σ H R => ta σ H fun vs H1 => ∃ t1 t2 a b xs ys, vs = [.ref a, .ref b] ∧ SqB K t1 H1 a xs ∧ SqB K t2 H1 b ys ∧ R (ItzB K t1 t2 a b) H1
theorem pi_zipB {X : Cx} {e e2 : Expr} {ta : TA} {p pos tpos : Pos} {elts : List Expr} {kk : Nat} (hg : Gl X "zip") (hm : X.mg "zip" = none) (ha : PA X [e, e2] ta)
    (hs : starEach [e, e2] X.env = (false, eval e X.env) :: starEach [e2] X.env) (hpl : (backTo pos (starEach [e2] X.env)).any (·.1) = false) :
    PI X (.Tuple elts kk tpos) (.Call (.Name "zip" p) [e, e2] [] pos) (iZipB X.K ta) := by
  refine ⟨fun pins s σ H R I h => ?_⟩
  refine Call_ (ld_blt I hg hm PyProof.Rows.boot_zip (PyProof.Rows.callWith_type1 (thn (ha.run pos pins s σ H _ I h) fun us s1 ⟨vs, H1, I1, r1, q1⟩ => ?_) hs hpl))
  obtain ⟨t1, t2, a, b, xs, ys, ex, hqx, hqy, q⟩ := q1
  subst ex
  obtain ⟨u1, u2, rfl, r, r'⟩ := vals2 r1
  cases (show u1 = Value.ref a from r)
  cases (show u2 = Value.ref b from r')
  obtain ⟨its, rv, la, st1, o1, P1, B1, p1, k1⟩ := seqB I1 hqx
  obtain ⟨its2, rv2, lb, st2, o2, P2, B2, p2, k2⟩ := seqB I1 hqy
  refine zip_begins2 B1 B2 p1 p2 fun h' hz hTI hTO h1 h2 hsz hk => wpAny_pyIter_zip hz ?_
  have I2 : Inv X pins σ H1 { s1 with heap := h' } := I1.kept (t' := s1.toks) hk
  have sep := sep_nat s1.heap.objs.size a b la lb
  refine ⟨s1.heap.objs.size + 4, [s1.heap.objs.size + 4, s1.heap.objs.size + 2, s1.heap.objs.size + 3, s1.heap.objs.size, s1.heap.objs.size + 1], _, _, H1, rfl, I2, turn_zipB sep, ⟨hz, hTI, ⟨_, _, hTO⟩, k1 _ _ h1, k2 _ _ h2⟩, fun c hcm => ?_, q⟩
  have e' : c = s1.heap.objs.size + 4 ∨ c = s1.heap.objs.size + 2 ∨ c = s1.heap.objs.size + 3 ∨ c = s1.heap.objs.size ∨ c = s1.heap.objs.size + 1 := by simpa using hcm
  have hle : s1.heap.objs.size ≤ c := by
    rcases e' with z | z | z | z | z
    · rw [z]; exact Nat.le_add_right _ _
    · rw [z]; exact Nat.le_add_right _ _
    · rw [z]; exact Nat.le_add_right _ _
    · rw [z]; exact Nat.le_refl _
    · rw [z]; exact Nat.le_add_right _ _
  exact I1.fpOk hle (I1.hok.fresh hle)
theorem walk_zipB {K : PySem.W.Frag} {t1 t2 : Bool} {a b : Addr} {xs ys : List V} {n : Nat} (hn : n = min xs.length ys.length) : Walk (ItzB K t1 t2 a b) n (fun H => SqB K t1 H a xs ∧ SqB K t2 H b ys) (YPair (fun i => xs[i]?) (fun i => ys[i]?)) := by
  subst hn
  refine ⟨fun i _ hi q => ?_, fun _ q => ⟨xs, ys, q.1, q.2, by omega, by omega, by omega⟩, fun i H v H' _ q y => ?_⟩
  · have h1 : i < xs.length := by omega
    have h2 : i < ys.length := by omega
    exact ⟨xs, ys, xs[i], ys[i], q.1, q.2, by simp [h1], by simp [h2]⟩
  · obtain ⟨T, x, z, h1, h2, h3, h4, h5⟩ := y
    exact ⟨T, x, z, h1, h2, h3, h4 xs q.1, h5 ys q.2⟩
end MP
set_option Elab.async false
set_option linter.all false
set_option maxRecDepth 100000
set_option maxHeartbeats 4000000
/-! MPEnum: enumerate of a list or a tuple. -/
namespace PySem
open Sem (wp)
theorem meets_enumerate_new1 {v : Value} {o : Obj} {H : Heap → Prop} (B : Begins v o H) :
    Meets (Builtin.«enumerate.__new__» ⟨[.type "enumerate", v], []⟩) (fun _ R s => H s.heap ∧
      R (.ok (.ret (.ref (s.heap.push o).objs.size))) { s with heap := (s.heap.push o).push { cls := .type "enumerate", data := .fields #[.none, .bool false, .ref s.heap.objs.size, rawInt 0, .none, .none] } }) :=
  .of_wp fun prog w A R s h => by
    obtain ⟨hp, g, d, tk, os⟩ := s; obtain ⟨h1, h⟩ := h
    have hsub := sub_enumerate
    have q1 : ∀ {A' : Around} {E : Value → Shared → Prop} {Q : Value → Shared → Prop}, Q (.ref hp.objs.size) ⟨hp.push o, g, d, tk, os⟩ → wpAny (model prog w) A' (pyIter v) Q E ⟨hp, g, d, tk, os⟩ :=
      fun q => B.iter prog w _ _ ⟨hp, g, d, tk, os⟩ _ h1 q
    wp_walk using q1
    refine wpAny_stack_any fun st => wpAny_pure ?_
    split
    · rename_i c _ _ _ _ _
      cases (c == Value.type "enumerate")
      · wp_walk using q1
        exact ⟨_, rfl, h⟩
      · wp_walk using q1
        exact ⟨_, rfl, h⟩
    · wp_walk using q1
      exact ⟨_, rfl, h⟩
section
variable {prog : Program} {w : World} {A : Around} {E : Value → Shared → Prop} {s : Shared}
theorem enum_begins1 {v : Value} {o : Obj} {H : Heap → Prop} {Q : Value → Shared → Prop} (B : Begins v o H) (h1 : H s.heap)
    (h : ∀ h', IsEnum h' (s.heap.objs.size + 1) s.heap.objs.size 0 .none → h'.get? s.heap.objs.size = some o → h'.objs.size = s.heap.objs.size + 2 →
      (∀ b o, s.heap.get? b = some o → h'.get? b = some o) → Q (.ref (s.heap.objs.size + 1)) { s with heap := h' }) :
    wpAny (model prog w) A (call (.type "enumerate") [v]) Q E s := by
  refine callType_new F.called_enumerate (by decide) (F.typeCall_enumerate_1 _) (F.newCall_enumerate_1 _) (fun obj => F.args_object_init_2 obj _) F.entry_enumerate_new
    (meets_enumerate_new1 B) ⟨h1, ?_⟩
  have hz : (s.heap.push o).objs.size = s.heap.objs.size + 1 := Heap.size_push ..
  show _ ∧ _
  rw [hz]
  have he : IsEnum ((s.heap.push o).push { cls := .type "enumerate", data := .fields #[.none, .bool false, .ref s.heap.objs.size, rawInt 0, .none, .none] }) (s.heap.objs.size + 1) s.heap.objs.size 0 .none := by
    have := Heap.get?_push_size (s.heap.push o) (o := { cls := .type "enumerate", data := .fields #[.none, .bool false, .ref s.heap.objs.size, rawInt 0, .none, .none] }) rfl
    rw [hz] at this; exact this
  refine ⟨⟨_, he, rfl⟩, h _ he (Heap.get?_push_of_some _ (Heap.get?_push_size _ B.free)) (by rw [Heap.size_push, hz]) fun b o x => Heap.get?_push_of_some _ (Heap.get?_push_of_some _ x)⟩
end
end PySem
namespace MP
open PySem PySem.Spec PyProof.Rows L2
/-- the sequence at a as it stands at each turn, each item in a new pair -/
def IteB (K : PySem.W.Frag) (t : Bool) (a : Addr) : It :=
  ⟨fun i H => ∃ (xs : List V) (x : V), SqB K t H a xs ∧ xs[i]? = some x, fun i H v H' => ∃ T x, v = .ref T ∧ H T = none ∧ H' = upd H T (.tup [.int (i : Nat), x]) ∧ ∀ xs, SqB K t H a xs → xs[i]? = some x, fun i H => ∃ xs : List V, SqB K t H a xs ∧ i = xs.length⟩
theorem turn_enumB {P : Program} {w : World} {K : PySem.W.Frag} {elts : List Expr} {kk : Nat} {tpos : Pos} {t : Bool} (a e it : Addr) (hae : a ≠ e) :
    Turn P w K (.Tuple elts kk tpos) (IteB K t a) [e, it] e (fun i h => (∃ old, IsEnum h e it ((i : Nat) : Int) old) ∧ ItB t h it a i ∧ e ≠ it) where
  mem := by simp
  obj := fun i h st b hb => by
    obtain ⟨⟨old, he⟩, hi, _⟩ := st
    have e' : b = e ∨ b = it := by simpa using hb
    rcases e' with z | z
    · rw [z]; exact ⟨_, he, fun v q => nomatch q⟩
    · rw [z]; exact hi.obj
  keep := fun i h h' st k => let ⟨⟨old, he⟩, hi, hne⟩ := st; ⟨⟨old, k e (by simp) _ he⟩, hi.at fun o q => k it (by simp) o q, hne⟩
  item := by
    intro X hP hw hK hc i pins s σ H E I hf st hg
    subst hP hw hK
    obtain ⟨⟨old, he⟩, hit, hne⟩ := st
    obtain ⟨xs, x, hq, hx⟩ := hg
    obtain ⟨its, rv, la, st1, _⟩ := seqB I hq
    obtain ⟨u, hu, ru⟩ := rv.get hx
    have hel : e < s.heap.objs.size := Heap.lt_size he
    have hil : it < s.heap.objs.size := by obtain ⟨_, q, _⟩ := hit.obj; exact Heap.lt_size q
    have ne1 : a ≠ it := (st1 _ _ hit).ne
    have hh := I.ok.hd hc
    have lt1 : i < its.toArray.size := by
      have := (List.getElem?_eq_some_iff.mp hu).1
      simpa using this
    refine wpAny_pyNext_enum_itemD (drawsB (A := X.A.in1) hh t it a ne1 its.toArray) he (st1 _ _ hit) lt1 hne (nin hne (Ne.symm hae)) fun x1 h' tk y1 ho s1' hT hsz hk => ?_
    have ex1 : x1 = u := by
      have q : its.toArray[i]? = some x1 := y1
      rw [← Array.getElem?_toList] at q
      exact Option.some.inj (q.symm.trans hu)
    subst ex1
    refine ⟨_, rfl, wpAny_letOwnedTupleGo_enum (s := { s with heap := h', toks := tk + 1 }) ho fun h'' he' sb => ?_⟩
    have hT2 : h''.get? s.heap.objs.size = some { cls := .type "tuple", data := .seq #[.int i tk, x1] } := (sb.2 _ (Nat.ne_of_gt hel)).trans hT
    have new : ObjOk X.prog X.w (upd H s.heap.objs.size (.tup [.int (i : Nat), x])) h'' s.heap.objs.size (.tup [.int (i : Nat), x]) :=
      ⟨by show 2 ≤ sizeLine; decide, [.int i tk, x1], .cons ⟨_, rfl⟩ (.cons ru .nil), ⟨_, hT2, rfl, _, rfl⟩⟩
    have I1 : Inv X pins σ (upd H s.heap.objs.size (.tup [.int (i : Nat), x])) { s with heap := h'', toks := tk + 1 } :=
      I.turnedNew (t' := tk + 1) (ch := [e, it]) (fun b ob hb q => (sb.2 b (fun z => hb (by simp [z]))).trans (hk b ob (fun z => hb (by simp [z])) (fun z => hb (by simp [z])) q)) hf (Nat.le_refl _) new
    refine ⟨.ref s.heap.objs.size, _, I1, rfl, ⟨_, x, rfl, I.hok.fresh (Nat.le_refl _), rfl, fun ys hy => by rw [injB I hy hq]; exact hx⟩, ⟨⟨x1, ?_⟩, ?_, hne⟩, fun b hb => ?_⟩
    · have e1 : ((i + 1 : Nat) : Int) = (i : Int) + 1 := by omega
      rw [e1]; exact he'
    · exact s1'.it.at fun o q => (sb.2 it (Ne.symm hne)).trans q
    · have hb' : b < s.heap.objs.size := by
        have e' : b = e ∨ b = it := by simpa using hb
        rcases e' with z | z
        · rw [z]; exact hel
        · rw [z]; exact hil
      rw [upd_ne (Nat.ne_of_lt hb')]
      exact (hf b hb).1
  done := by
    intro X hP hw hK hc i pins s σ H E I hf st hg
    subst hP hw hK
    obtain ⟨⟨old, he⟩, hit, hne⟩ := st
    obtain ⟨xs, hq, hx⟩ := hg
    obtain ⟨its, rv, la, st1, _⟩ := seqB I hq
    obtain ⟨f0, f1, f2, f3, f4, f5⟩ := hf it (by simp)
    have ne1 : a ≠ it := (st1 _ _ hit).ne
    have hh := I.ok.hd hc
    have hl := rv.length
    have hst := st1 _ _ hit
    have ei : i = its.toArray.size := by simp; omega
    rw [ei] at hst
    exact wpAny_pyNext_enum_endD (drawsB (A := X.A.in1) hh t it a ne1 its.toArray) he hst fun h' eb => ⟨rfl, I.turned (t' := s.toks) (fun b o hb q => eb b o hb q) f0 f1 f3 f4 f5⟩
  self := fun A i s Q E st h => let ⟨⟨_, he⟩, _⟩ := st; wpAny_pyIter_enum he h
def iEnumB (K : PySem.W.Frag) (ta : TA) : TI := fun σ H R => ta σ H fun vs H1 => ∃ t a xs, vs = [.ref a] ∧ SqB K t H1 a xs ∧ R (IteB K t a) H1
theorem pi_enumB {X : Cx} {e : Expr} {ta : TA} {p pos tpos : Pos} {elts : List Expr} {kk : Nat} (hg : Gl X "enumerate") (hm : X.mg "enumerate" = none) (ha : PA X [e] ta) (hs : starEach [e] X.env = [(false, eval e X.env)] := by rfl) :
    PI X (.Tuple elts kk tpos) (.Call (.Name "enumerate" p) [e] [] pos) (iEnumB X.K ta) := by
  refine ⟨fun pins s σ H R I h => ?_⟩
  refine Call_ (ld_blt I hg hm boot_enumerate (PyProof.Rows.callWith_type1 (thn (ha.run pos pins s σ H _ I h) fun us s1 ⟨vs, H1, I1, r1, q1⟩ => ?_) hs rfl))
  obtain ⟨t, a, xs, ex, hq, q⟩ := q1
  subst ex
  cases r1 with
  | cons r rr =>
    cases rr
    cases r
    obtain ⟨its, rv, la, st1, o1, P1, B1, p1, k1⟩ := seqB I1 hq
    refine enum_begins1 B1 p1 fun h' he hit hsz hk => wpAny_pyIter_enum he ?_
    have I2 : Inv X pins σ H1 { s1 with heap := h' } := I1.kept (t' := s1.toks) hk
    refine ⟨s1.heap.objs.size + 1, [s1.heap.objs.size + 1, s1.heap.objs.size], _, _, H1, rfl, I2, turn_enumB a (s1.heap.objs.size + 1) s1.heap.objs.size (Nat.ne_of_lt (Nat.lt_succ_of_lt la)), ⟨⟨.none, he⟩, k1 _ _ hit, Nat.succ_ne_self _⟩, fun b hb => ?_, q⟩
    have e' : b = s1.heap.objs.size + 1 ∨ b = s1.heap.objs.size := by simpa using hb
    have hle : s1.heap.objs.size ≤ b := by
      rcases e' with z | z
      · rw [z]; exact Nat.le_add_right _ _
      · rw [z]; exact Nat.le_refl _
    exact I1.fpOk hle (I1.hok.fresh hle)
end MP
set_option Elab.async false
set_option linter.all false
set_option maxRecDepth 100000
set_option maxHeartbeats 4000000
/-! MPIter: what is walked; targets. -/
namespace MP
open PySem PySem.Spec PyProof.Rows L2
def ItmR (K : PySem.W.Frag) (w : Wd) : Itm → V → Prop
  | .one r, v => Rel K w r v
  | .tup rs, v => ∃ T vs, v = .ref T ∧ w.H T = some (.tup vs) ∧ Rels K w rs vs
structure WalkR (K : PySem.W.Frag) (w : Wd) (J : It) (xs : List Itm) (gd : Gd) : Prop where
  ex : ∃ (G : Hp → Prop) (Y : Nat → Hp → V → Hp → Prop), Walk J xs.length G Y ∧ (∀ w2 S2, Mono w w2 → SR K w2 S2 → gdOk S2 gd = true → G w2.H) ∧
    (∀ i x v H' w2 S2, Mono w w2 → SR K w2 S2 → gdOk S2 gd = true → xs[i]? = some x → Y i w2.H v H' → ∃ w3, w3.H = H' ∧ Ext w2 w3 ∧ SR K w3 S2 ∧ ItmR K w3 x v)
open Classical in
theorem gd_iff {S : Store} {g : Gd} : gdOk S g = true ↔ ∀ q ∈ g, S[q.1]? = some q.2 := by
  unfold gdOk
  exact decide_eq_true_iff
theorem gd_app {S : Store} {a b : Gd} (h : gdOk S (a ++ b) = true) : gdOk S a = true ∧ gdOk S b = true := by
  have h := gd_iff.mp h
  exact ⟨gd_iff.mpr fun q hq => h q (List.mem_append_left _ hq), gd_iff.mpr fun q hq => h q (List.mem_append_right _ hq)⟩
theorem gd_one {S : Store} {k : Nat} {c : Cell} (h : gdOk S [(k, c)] = true) : S[k]? = some c := gd_iff.mp h (k, c) List.mem_cons_self
section
variable {K : PySem.W.Frag} {w : Wd} {S : Store}
/-- a list or a tuple, from now on -/
def Src (K : PySem.W.Frag) (w : Wd) (t : Bool) (a : Addr) (rs : List R) (gd : Gd) : Prop := ∀ w2 S2, Mono w w2 → SR K w2 S2 → gdOk S2 gd = true → ∃ vs, SqB K t w2.H a vs ∧ Rels K w2 rs vs
theorem src {x : R} {u : V} {rs : List R} {S' : Store} (s : SR K w S) (r : Rel K w x u) (h : walkR x S = .ok rs S') : S' = S ∧ ∃ a, u = .ref a ∧ Src K w (isTup S x) a rs (guardR S x) := by
  cases x with
  | exc c ns l => exact r.elim
  | dat d =>
    cases d with
    | lst l =>
      cases (show Res.ok (l.map R.dat) S = Res.ok rs S' from h)
      obtain ⟨a, vs, e, nl, h1, hz, h2⟩ := r
      exact ⟨rfl, a, e, fun w2 S2 x2 _ _ => ⟨vs, .of (x2.keep _ _ nl h1).2, (Reps.imp x2.keep _ _ h2).dat⟩⟩
    | tup l =>
      cases (show Res.ok (l.map R.dat) S = Res.ok rs S' from h)
      obtain ⟨a, vs, e, nl, h1, hz, h2⟩ := r
      exact ⟨rfl, a, e, fun w2 S2 x2 _ _ => ⟨vs, .of (x2.keep _ _ nl h1).2, (Reps.imp x2.keep _ _ h2).dat⟩⟩
    | _ => cases h
  | own k =>
    obtain ⟨hk, e⟩ := r
    obtain ⟨c, hc, hr⟩ := s.get hk
    have eg : guardR S (.own k) = [(k, c)] := by
      unfold guardR
      simp only [hc]
    rw [eg]
    cases c with
    | obj c ns rs =>
      unfold walkR itemsR at h
      simp only [hc] at h
      cases h
    | lst qs =>
      unfold walkR itemsR at h
      simp only [hc] at h
      cases h
      have et : isTup S (.own k) = false := by
        unfold isTup
        simp only [hc]
      rw [et]
      refine ⟨rfl, w.p k, e, fun w2 S2 x2 s2 g => ?_⟩
      have q := gd_one g
      obtain ⟨vs, h1, _, h2⟩ := s2.cell k _ q
      rw [x2.p k hk] at h1
      exact ⟨vs, .of h1, h2⟩
    | tup qs =>
      unfold walkR itemsR at h
      simp only [hc] at h
      cases h
      have et : isTup S (.own k) = true := by
        unfold isTup
        simp only [hc]
      rw [et]
      refine ⟨rfl, w.p k, e, fun w2 S2 x2 s2 g => ?_⟩
      have q := gd_one g
      obtain ⟨vs, h1, _, h2⟩ := s2.cell k _ q
      rw [x2.p k hk] at h1
      exact ⟨vs, .of h1, h2⟩
def ItS (K : PySem.W.Frag) (t : Bool) (a : Addr) : It := match t with
  | true => Itt K a
  | false => Itl K a
theorem walk_seq {t : Bool} {a : Addr} {n : Nat} : Walk (ItS K t a) n (fun H => ∃ vs, SqB K t H a vs ∧ vs.length = n) (fun i H x H' => H' = H ∧ ∀ xs, SqB K t H a xs → xs[i]? = some x) := by
  cases t with
  | true =>
    refine ⟨fun i H hi ⟨vs, q, l⟩ => ?_, fun H ⟨vs, q, l⟩ => ⟨vs, q, Nat.le_of_eq l⟩, fun i H x H' hi q y => y⟩
    exact ⟨vs, vs[i]'(by omega), q, List.getElem?_eq_getElem _⟩
  | false =>
    refine ⟨fun i H hi ⟨vs, q, l⟩ => ?_, fun H ⟨vs, q, l⟩ => ⟨vs, q, Nat.le_of_eq l⟩, fun i H x H' hi q y => y⟩
    exact ⟨vs, vs[i]'(by omega), q, List.getElem?_eq_getElem _⟩
theorem walkR_seq {t : Bool} {a : Addr} {rs : List R} {gd : Gd} (h : Src K w t a rs gd) : WalkR K w (ItS K t a) (rs.map .one) gd := by
  refine ⟨_, _, walk_seq (n := (rs.map Itm.one).length), fun w2 S2 x2 s2 g => ?_, fun i x v H' w2 S2 x2 s2 g hx y => ?_⟩
  · obtain ⟨vs, q, r⟩ := h w2 S2 x2 s2 g
    exact ⟨vs, q, by rw [← r.length, List.length_map]⟩
  · obtain ⟨vs, q, r⟩ := h w2 S2 x2 s2 g
    obtain ⟨e, y⟩ := y
    have y := y vs q
    rw [List.getElem?_map] at hx
    cases er : rs[i]? with
    | none => rw [er] at hx; cases hx
    | some z =>
      rw [er] at hx
      cases hx
      obtain ⟨v', e2, r2⟩ := r.get er
      rw [y] at e2
      cases e2
      exact ⟨w2, e.symm, Ext.refl _, s2, r2⟩
theorem rng_len : ∀ (n : Nat) (lo : Int), (rngI lo n).length = n
  | 0, _ => rfl
  | n + 1, lo => by
    show (rngI (lo + 1) n).length + 1 = _
    rw [rng_len n]
theorem rng_get : ∀ (n : Nat) (lo : Int) (i : Nat) (x : Itm), (rngI lo n)[i]? = some x → x = .one (.dat (.int (lo + i)))
  | 0, lo, i, x, h => by cases h
  | n + 1, lo, 0, x, h => by
    cases (show some (Itm.one (.dat (.int lo))) = some x from h)
    simp
  | n + 1, lo, i + 1, x, h => by
    rw [rng_get n (lo + 1) i x h]
    have e : lo + 1 + (i : Int) = lo + ((i + 1 : Nat) : Int) := by omega
    rw [e]
theorem walkR_rng {lo : Int} {n : Nat} {gd : Gd} : WalkR K w (Itr lo n) (rngI lo n) gd := by
  refine ⟨fun _ => True, YFn fun i => .int (lo + i), by rw [rng_len]; exact walk_range, fun _ _ _ _ _ => trivial, fun i x v H' w2 S2 x2 s2 g hx y => ?_⟩
  obtain ⟨e, y⟩ := y
  subst y
  rw [rng_get _ _ _ _ hx]
  exact ⟨w2, e.symm, Ext.refl _, s2, rfl⟩
theorem enum_get : ∀ (rs : List R) (n i : Nat) (x : Itm), (enumI n rs)[i]? = some x → ∃ r, rs[i]? = some r ∧ x = .tup [.dat (.int ((n + i : Nat) : Int)), r]
  | [], n, i, x, h => by cases h
  | r :: rs, n, 0, x, h => by
    cases (show some (Itm.tup [.dat (.int (n : Int)), r]) = some x from h)
    exact ⟨r, rfl, rfl⟩
  | r :: rs, n, i + 1, x, h => by
    obtain ⟨r, h1, h2⟩ := enum_get rs (n + 1) i x h
    have e : n + 1 + i = n + (i + 1) := by omega
    exact ⟨r, h1, by rw [h2, e]⟩
theorem enum_len : ∀ (rs : List R) (n : Nat), (enumI n rs).length = rs.length
  | [], _ => rfl
  | _ :: rs, n => by
    show (enumI (n + 1) rs).length + 1 = rs.length + 1
    rw [enum_len rs]
theorem tup2 {w : Wd} {S : Store} {T : Addr} {x y : V} {a b : R} (s : SR K w S) (h : w.H T = none) (ra : Rel K w a x) (rb : Rel K w b y) : ∃ w3, w3.H = upd w.H T (.tup [x, y]) ∧ Ext w w3 ∧ SR K w3 S ∧ ItmR K w3 (.tup [a, b]) (.ref T) :=
  ⟨w.new T (.tup [x, y]), rfl, ext_new s h, s.new h, T, [x, y], rfl, new_same, x, [y], rfl, ra.ext (ext_new s h), y, [], rfl, rb.ext (ext_new s h), rfl⟩
theorem walkR_enum {t : Bool} {a : Addr} {rs : List R} {gd : Gd} (h : Src K w t a rs gd) : WalkR K w (IteB K t a) (enumI 0 rs) gd := by
  refine ⟨fun H => ∃ vs, SqB K t H a vs ∧ vs.length = (enumI 0 rs).length, fun i H v H' => ∃ T x, v = .ref T ∧ H T = none ∧ H' = upd H T (.tup [.int (i : Nat), x]) ∧ ∀ xs, SqB K t H a xs → xs[i]? = some x,
    ⟨fun i H hi ⟨vs, q, l⟩ => ⟨vs, vs[i]'(by omega), q, List.getElem?_eq_getElem _⟩, fun H ⟨vs, q, l⟩ => ⟨vs, q, l.symm⟩, fun i H x H' hi q y => y⟩, fun w2 S2 x2 s2 g => ?_, fun i x v H' w2 S2 x2 s2 g hx y => ?_⟩
  · obtain ⟨vs, q, r⟩ := h w2 S2 x2 s2 g
    exact ⟨vs, q, by rw [← r.length, enum_len]⟩
  · obtain ⟨vs, q, r⟩ := h w2 S2 x2 s2 g
    obtain ⟨T, y, e, hT, eH, hy⟩ := y
    subst e eH
    obtain ⟨z, hz, ex⟩ := enum_get _ _ _ _ hx
    obtain ⟨v', e2, r2⟩ := r.get hz
    rw [hy vs q] at e2
    cases e2
    rw [ex, Nat.zero_add]
    exact tup2 s2 hT rfl r2
theorem zip_get : ∀ (rs qs : List R) (i : Nat) (x : Itm), (zipI rs qs)[i]? = some x → ∃ r q, rs[i]? = some r ∧ qs[i]? = some q ∧ x = .tup [r, q]
  | [], qs, i, x, h => by cases h
  | r :: rs, [], i, x, h => by cases h
  | r :: rs, q :: qs, 0, x, h => by
    cases (show some (Itm.tup [r, q]) = some x from h)
    exact ⟨r, q, rfl, rfl, rfl⟩
  | r :: rs, q :: qs, i + 1, x, h => zip_get rs qs i x h
theorem zip_len : ∀ (rs qs : List R), (zipI rs qs).length = min rs.length qs.length
  | [], qs => by simp [zipI]
  | r :: rs, [] => by simp [zipI]
  | r :: rs, q :: qs => by
    show (zipI rs qs).length + 1 = min (rs.length + 1) (qs.length + 1)
    rw [zip_len rs qs]
    omega
theorem walkR_zip {t1 t2 : Bool} {a b : Addr} {rs qs : List R} {g1 g2 : Gd} (h1 : Src K w t1 a rs g1) (h2 : Src K w t2 b qs g2) : WalkR K w (ItzB K t1 t2 a b) (zipI rs qs) (g1 ++ g2) := by
  refine ⟨fun H => ∃ xs ys, SqB K t1 H a xs ∧ SqB K t2 H b ys ∧ xs.length = rs.length ∧ ys.length = qs.length, fun i H v H' => ∃ T x y, v = .ref T ∧ H T = none ∧ H' = upd H T (.tup [x, y]) ∧ (∀ xs, SqB K t1 H a xs → xs[i]? = some x) ∧ ∀ ys, SqB K t2 H b ys → ys[i]? = some y,
    ⟨fun i H hi ⟨xs, ys, q1, q2, l1, l2⟩ => ?_, fun H ⟨xs, ys, q1, q2, l1, l2⟩ => ?_, fun i H x H' hi q y => y⟩, fun w2 S2 x2 s2 g => ?_, fun i x v H' w2 S2 x2 s2 g hx y => ?_⟩
  · rw [zip_len] at hi
    exact ⟨xs, ys, xs[i]'(by omega), ys[i]'(by omega), q1, q2, List.getElem?_eq_getElem _, List.getElem?_eq_getElem _⟩
  · rw [zip_len]
    exact ⟨xs, ys, q1, q2, by omega, by omega, by omega⟩
  · obtain ⟨xs, q1, r1⟩ := h1 w2 S2 x2 s2 (gd_app g).1
    obtain ⟨ys, q2, r2⟩ := h2 w2 S2 x2 s2 (gd_app g).2
    exact ⟨xs, ys, q1, q2, r1.length.symm, r2.length.symm⟩
  · obtain ⟨xs, q1, r1⟩ := h1 w2 S2 x2 s2 (gd_app g).1
    obtain ⟨ys, q2, r2⟩ := h2 w2 S2 x2 s2 (gd_app g).2
    obtain ⟨T, y, z, e, hT, eH, hy, hz⟩ := y
    subst e eH
    obtain ⟨c, d, ec, ed, ex⟩ := zip_get _ _ _ _ hx
    obtain ⟨v', e2, r3⟩ := r1.get ec
    obtain ⟨v2, e3, r4⟩ := r2.get ed
    rw [hy xs q1] at e2
    cases e2
    rw [hz ys q2] at e3
    cases e3
    rw [ex]
    exact tup2 s2 hT r3 r4
end
/-! ### what is walked, as an expression -/
def IOk (X : Cx) (xr : XR) (W : WX) (tg iter : Expr) (m : MP.Env → M (List Itm × Gd)) : Prop :=
  ∃ wi, PI X tg iter wi ∧ ∀ σ w S ρ (Q : It → Hp → Prop), EnvR X.K xr w σ ρ → SR X.K w S → Hop X.K (fun w a J => WalkR X.K w J a.1 a.2) (WE W σ) w Q (m ρ S) → wi σ w.H Q
section
variable {X : Cx} {xr : XR} {W : WX} {tg a b e : Expr} {ma mb : MP.Env → M R} {pos p0 tpos : Pos} {elts : List Expr} {kk : Nat}
theorem pi_seq {te : TE} (he : PE X e te) : PI X tg e (fun σ H R => te σ H fun x H1 => ∃ t a xs, x = .ref a ∧ SqB X.K t H1 a xs ∧ R (ItS X.K t a) H1) := by
  refine ⟨fun pins s σ H R I h => ?_⟩
  refine thn (he.run pins s σ H _ I h) fun v s1 ⟨x, H1, I1, r1, t, a, xs, ex, hq, q⟩ => ?_
  subst ex
  cases (show v = Value.ref a from r1)
  cases t with
  | true =>
    obtain ⟨its, rv, p, hz⟩ := I1.tuple hq
    exact wpAny_pyIter_tuple (show s1.heap.IsTuple a its.toArray from p) (pi_one (tk := s1.toks) I1 _ (turn_tuple a _) ⟨_, Heap.get?_push_size _ rfl, rfl, rfl⟩ q)
  | false =>
    obtain ⟨its, rv, p, hz⟩ := I1.list hq
    exact wpAny_pyIter_list p.isList (pi_one (tk := s1.toks) I1 _ (turn_list a _) ⟨_, Heap.get?_push_size _ rfl, rfl, rfl⟩ q)
theorem Src.now {K : PySem.W.Frag} {w : Wd} {S : Store} {t : Bool} {a : Addr} {rs : List R} {x : R} (h : Src K w t a rs (guardR S x)) (s : SR K w S) : ∃ vs, SqB K t w.H a vs ∧ Rels K w rs vs := by
  refine h w S (Ext.refl _).mono s ?_
  unfold guardR
  cases x with
  | dat d => exact gd_iff.mpr fun q hq => by cases hq
  | exc c ns l => exact gd_iff.mpr fun q hq => by cases hq
  | own k =>
    cases e : S[k]? with
    | none => exact gd_iff.mpr fun q hq => by simp only [e] at hq; cases hq
    | some c =>
      refine gd_iff.mpr fun q hq => ?_
      simp only [e] at hq
      have hq := List.mem_singleton.mp hq
      rw [hq]
      exact e
theorem i_of (ha : EOk X xr W a ma) : IOk X xr W tg a (fun ρ => M.bind (ma ρ) fun x => M.bind (walkR x) fun rs => fun S => .ok (rs.map .one, guardR S x) S) := by
  obtain ⟨ta, pa, qa⟩ := ha
  refine ⟨_, pi_seq pa, fun σ w S ρ Q er sr h => qa σ w S ρ _ er sr (h.bind fun w1 x u S1 e1 s1 rx h1 => ?_)⟩
  unfold M.bind at h1
  cases e : walkR x S1 with
  | stuck => simp only [e] at h1; exact h1.elim
  | exc c ns l S' =>
    exfalso
    unfold walkR at e
    split at e <;> cases e
  | ok rs S' =>
    obtain ⟨e2, c, eu, hs⟩ := src s1 rx e
    subst e2
    simp only [e] at h1
    obtain ⟨vs, q, _⟩ := hs.now s1
    exact ⟨_, c, vs, eu, q, h1 w1 _ (Ext.refl _) s1 (walkR_seq hs)⟩
theorem i_rng1 (hg : Gl X "range") (hm : X.mg "range" = none) (hs : starEach [a] X.env = (false, eval a X.env) :: starEach [] X.env) (ha : EOk X xr W a ma) :
    IOk X xr W tg (.Call (.Name "range" p0) [a] [] pos) (fun ρ => M.bind (ma ρ) fun x => match x with
      | .dat (.int i) => if rngOk i = true then M.pure (rngI 0 i.toNat, []) else M.stuck
      | _ => M.stuck) := by
  obtain ⟨ta, pa, qa⟩ := ha
  refine ⟨_, pi_range1 hg hm (pa_cons pa pa_nil hs) hs, fun σ w S ρ Q er sr h => qa σ w S ρ _ er sr (h.bind fun w1 x u S1 e1 s1 rx h1 => ?_)⟩
  cases x with
  | own k => exact h1.elim
  | exc c ns l => exact h1.elim
  | dat d =>
    cases d with
    | int i =>
      dsimp only at h1
      by_cases z : rngOk i = true
      · rw [if_pos z] at h1
        have z2 := of_decide_eq_true z
        cases (show u = .int i from rx)
        exact ⟨i, rfl, by omega, by omega, h1 w1 _ (Ext.refl _) s1 walkR_rng⟩
      · rw [if_neg z] at h1
        exact h1.elim
    | _ => exact h1.elim
theorem i_rng2 (hx : xr.Ok) (hg : Gl X "range") (hm : X.mg "range" = none) (hs : starEach [a, b] X.env = (false, eval a X.env) :: starEach [b] X.env) (hs2 : starEach [b] X.env = (false, eval b X.env) :: starEach [] X.env) (hn : starEach [] X.env = []) (ha : EOk X xr W a ma) (hb : EOk X xr W b mb) :
    IOk X xr W tg (.Call (.Name "range" p0) [a, b] [] pos) (fun ρ => M.bind (ma ρ) fun x => M.bind (mb ρ) fun y => match x, y with
      | .dat (.int i), .dat (.int j) => if rngOk i = true ∧ rngOk j = true then M.pure (rngI i (j - i).toNat, []) else M.stuck
      | _, _ => M.stuck) := by
  obtain ⟨ta, pa, qa⟩ := ha
  obtain ⟨tb, pb, qb⟩ := hb
  refine ⟨_, pi_range2 hg hm (pa_cons pa (pa_cons pb pa_nil hs2) hs) (by rw [hs, hs2, hn]) (by rw [hs2, hn]), fun σ w S ρ Q er sr h => qa σ w S ρ _ er sr (h.bind fun w1 x u S1 e1 s1 rx h1 => qb σ w1 S1 ρ _ (er.ext hx e1) s1 (h1.bind fun w2 y v S2 e2 s2 ry h2 => ?_))⟩
  cases x with
  | own k => exact h2.elim
  | exc c ns l => exact h2.elim
  | dat d =>
    cases d with
    | int i =>
      cases y with
      | own k => exact h2.elim
      | exc c ns l => exact h2.elim
      | dat d =>
        cases d with
        | int j =>
          dsimp only at h2
          by_cases z : rngOk i = true ∧ rngOk j = true
          · rw [if_pos z] at h2
            have z2 := of_decide_eq_true z.1
            have z3 := of_decide_eq_true z.2
            cases (show u = .int i from rx)
            cases (show v = .int j from ry)
            exact ⟨i, j, rfl, ⟨by omega, by omega, by omega, by omega⟩, h2 w2 _ (Ext.refl _) s2 walkR_rng⟩
          · rw [if_neg z] at h2
            exact h2.elim
        | _ => exact h2.elim
    | _ => cases y <;> exact h2.elim
theorem i_enum (hg : Gl X "enumerate") (hm : X.mg "enumerate" = none) (hs : starEach [a] X.env = (false, eval a X.env) :: starEach [] X.env) (ha : EOk X xr W a ma) :
    IOk X xr W (.Tuple elts kk tpos) (.Call (.Name "enumerate" p0) [a] [] pos) (fun ρ => M.bind (ma ρ) fun x => M.bind (walkR x) fun rs => fun S => .ok (enumI 0 rs, guardR S x) S) := by
  obtain ⟨ta, pa, qa⟩ := ha
  refine ⟨_, pi_enumB hg hm (pa_cons pa pa_nil hs) hs, fun σ w S ρ Q er sr h => qa σ w S ρ _ er sr (h.bind fun w1 x u S1 e1 s1 rx h1 => ?_)⟩
  unfold M.bind at h1
  cases e : walkR x S1 with
  | stuck => simp only [e] at h1; exact h1.elim
  | exc c ns l S' =>
    exfalso
    unfold walkR at e
    split at e <;> cases e
  | ok rs S' =>
    obtain ⟨e2, c, eu, hs⟩ := src s1 rx e
    subst e2
    simp only [e] at h1
    obtain ⟨vs, q, _⟩ := hs.now s1
    subst eu
    exact ⟨_, c, vs, rfl, q, h1 w1 _ (Ext.refl _) s1 (walkR_enum hs)⟩
theorem i_zip (hx : xr.Ok) (hg : Gl X "zip") (hm : X.mg "zip" = none) (hs : starEach [a, b] X.env = (false, eval a X.env) :: starEach [b] X.env) (hs2 : starEach [b] X.env = (false, eval b X.env) :: starEach [] X.env) (hpl : (backTo pos (starEach [b] X.env)).any (·.1) = false) (ha : EOk X xr W a ma) (hb : EOk X xr W b mb) :
    IOk X xr W (.Tuple elts kk tpos) (.Call (.Name "zip" p0) [a, b] [] pos) (fun ρ => M.bind (ma ρ) fun x => M.bind (mb ρ) fun y => M.bind (walkR x) fun rs => M.bind (walkR y) fun qs => fun S => .ok (zipI rs qs, guardR S x ++ guardR S y) S) := by
  obtain ⟨ta, pa, qa⟩ := ha
  obtain ⟨tb, pb, qb⟩ := hb
  refine ⟨_, pi_zipB hg hm (pa_cons pa (pa_cons pb pa_nil hs2) hs) hs hpl, fun σ w S ρ Q er sr h => qa σ w S ρ _ er sr (h.bind fun w1 x u S1 e1 s1 rx h1 => qb σ w1 S1 ρ _ (er.ext hx e1) s1 (h1.bind fun w2 y v S2 e2 s2 ry h2 => ?_))⟩
  have rx := rx.ext e2
  unfold M.bind at h2
  cases e : walkR x S2 with
  | stuck => simp only [e] at h2; exact h2.elim
  | exc c ns l S' =>
    exfalso
    unfold walkR at e
    split at e <;> cases e
  | ok rs S' =>
    obtain ⟨e3, c, eu, hs⟩ := src s2 rx e
    subst e3
    simp only [e] at h2
    cases e4 : walkR y S' with
    | stuck => simp only [e4] at h2; exact h2.elim
    | exc c ns l S' =>
      exfalso
      unfold walkR at e4
      split at e4 <;> cases e4
    | ok qs S'' =>
      obtain ⟨e5, d, ev, ht⟩ := src s2 ry e4
      subst e5
      simp only [e4] at h2
      obtain ⟨vs, q, _⟩ := hs.now s2
      obtain ⟨us, q2, _⟩ := ht.now s2
      subst eu ev
      exact ⟨_, _, c, d, vs, us, rfl, q, q2, h2 w2 _ (Ext.refl _) s2 (walkR_zip hs ht)⟩
end
/-! ### targets -/
def IT.ix : IT → List Nat
  | .one i _ _ => [i]
  | .many l _ _ => l.map (·.1)
def gNames : List (Nat × Str × Pos) → TGs
  | [] => gNil
  | q :: l => gCons (gName q.1) (gNames l)
def gT (K : PySem.W.Frag) : IT → TG
  | .one i _ _ => gName i
  | .many l _ _ => gTup K l.length (gNames l)
theorem aeach (env : PySem.Env) : ∀ l : List (Nat × Str × Pos), (assignEach (l.map fun q => Expr.Name q.2.1 q.2.2) env).length = l.length ∧ (assignEach (l.map fun q => Expr.Name q.2.1 q.2.2) env).findIdx? (·.1) = none
  | [] => ⟨rfl, rfl⟩
  | q :: l => by
    obtain ⟨h1, h2⟩ := aeach env l
    have e : assignEach ((q :: l).map fun q => Expr.Name q.2.1 q.2.2) env = (false, assign (.Name q.2.1 q.2.2) env) :: assignEach (l.map fun q => Expr.Name q.2.1 q.2.2) env := rfl
    rw [e]
    refine ⟨by rw [List.length_cons, h1]; rfl, ?_⟩
    rw [List.findIdx?_cons, h2]
    rfl
/-- the names of a target can be stored -/
def NmOk (X : Cx) (i : Nat) (x : Str) : Prop := X.N[i]? = some x ∧ Loc X.env.scope x ∧ (X.fn x = true ∨ X.env.scope.names.lookup x = some .local)
def ITOk (X : Cx) : IT → Prop
  | .one i x _ => NmOk X i x
  | .many l _ _ => X.calm = true ∧ ∀ q ∈ l, NmOk X q.1 q.2.1
section
variable {X : Cx} {xr : XR}
theorem pgs_names (hN : X.N.Nodup) : ∀ l : List (Nat × Str × Pos), (∀ q ∈ l, NmOk X q.1 q.2.1) → PGs X (l.map fun q => Expr.Name q.2.1 q.2.2) (gNames l)
  | [], _ => pgs_nil
  | q :: l, h => by
    obtain ⟨h1, h2, h3⟩ := h q List.mem_cons_self
    exact pgs_cons (pg_name hN h1 h2 h3) (pgs_names hN l fun p hp => h p (List.mem_cons_of_mem _ hp)) rfl
theorem pg_T (hN : X.N.Nodup) : ∀ t : IT, ITOk X t → PG X t.e (gT X.K t)
  | .one i x p, h => pg_name hN h.1 h.2.1 h.2.2
  | .many l k p, h => pg_tup h.1 (pgs_names hN l h.2) (aeach X.env l).1 (aeach X.env l).2
theorem wipe_none {σ : L2.St} {i : Nat} : ∀ {vs : List Nat}, wipe (σ.set i none) vs = (wipe σ vs).set i none
  | [] => rfl
  | v :: vs => by
    show (wipe (σ.set i none) vs).set v none = ((wipe σ vs).set v none).set i none
    rw [wipe_none]
    by_cases h : i = v
    · rw [h]
    · rw [List.set_comm _ _ h]
theorem wipe_get {σ : L2.St} {i j : Nat} {x : Option V} : ∀ {vs : List Nat}, i ∈ vs → wipe (σ.set i x) vs = wipe σ vs
  | v :: vs, h => by
    by_cases q : i ∈ vs
    · show (wipe (σ.set i x) vs).set v none = (wipe σ vs).set v none
      rw [wipe_get (j := j) q]
    · have e : i = v := by
        rcases List.mem_cons.mp h with z | z
        · exact z
        · exact absurd z q
      subst e
      have out : ∀ (us : List Nat), i ∉ us → wipe (σ.set i x) us = (wipe σ us).set i x := by
        intro us
        induction us with
        | nil => intro _; rfl
        | cons u us ih =>
          intro hu
          show (wipe (σ.set i x) us).set u none = ((wipe σ us).set u none).set i x
          rw [ih fun z => hu (List.mem_cons_of_mem _ z), List.set_comm _ _ fun z => hu (by rw [z]; exact List.mem_cons_self)]
      show (wipe (σ.set i x) vs).set i none = (wipe σ vs).set i none
      rw [out vs q, List.set_set]
theorem wipe_wipe {σ : L2.St} {vs : List Nat} : ∀ {us : List Nat}, (∀ i ∈ us, i ∈ vs) → wipe (wipe σ us) vs = wipe σ vs
  | [], _ => rfl
  | u :: us, h => by
    show wipe ((wipe σ us).set u none) vs = _
    rw [wipe_get (j := 0) (h u List.mem_cons_self)]
    exact wipe_wipe fun i hi => h i (List.mem_cons_of_mem _ hi)
theorem g_names {K : PySem.W.Frag} {w : Wd} : ∀ {l : List (Nat × Str × Pos)} {rs : List R} {ρ ρ' : MP.Env} {vs : List V} {σ : L2.St} {Q : L2.St → Hp → Prop}, setM l rs ρ = some ρ' → Rels K w rs vs → EnvR K xr w σ ρ →
    (∀ σ', EnvR K xr w σ' ρ' → (∀ us, (∀ i ∈ l.map (·.1), i ∈ us) → wipe σ' us = wipe σ us) → Q σ' w.H) → gNames l vs σ w.H Q ∧ vs.length = l.length
  | [], [], ρ, ρ', vs, σ, Q, h, r, er, k => by
    cases (show some ρ = some ρ' from h)
    have e : vs = [] := r
    subst e
    exact ⟨⟨rfl, k σ er fun us _ => rfl⟩, rfl⟩
  | [], r :: rs, ρ, ρ', vs, σ, Q, h, _, er, k => by cases h
  | q :: l, [], ρ, ρ', vs, σ, Q, h, _, er, k => by cases h
  | q :: l, r :: rs, ρ, ρ', vs, σ, Q, h, ⟨v, vr, e, h1, h2⟩, er, k => by
    subst e
    have er2 := er.set (i := q.1) h1.toX
    obtain ⟨g, hl⟩ := g_names (l := l) (rs := rs) (Q := Q) (show setM l rs (ρ.set q.1 (some r)) = some ρ' from h) h2 er2 fun σ' e3 hw => k σ' e3 fun us hu => by
      rw [hw us fun i hi => hu i (List.mem_cons_of_mem _ hi)]
      exact wipe_get (j := 0) (hu q.1 List.mem_cons_self)
    exact ⟨⟨v, vr, rfl, g⟩, by rw [List.length_cons, hl]; rfl⟩
theorem g_ok {K : PySem.W.Frag} {w : Wd} {S : Store} {t : IT} {x : Itm} {ρ ρ' : MP.Env} {v : V} {σ : L2.St} {Q : L2.St → Hp → Prop} (hb : bindT t x ρ S = some ρ') (er : EnvR K xr w σ ρ) (sr : SR K w S) (hi : ItmR K w x v)
    (k : ∀ σ', EnvR K xr w σ' ρ' → (∀ us, (∀ i ∈ t.ix, i ∈ us) → wipe σ' us = wipe σ us) → Q σ' w.H) : gT K t v σ w.H Q := by
  cases t with
  | one i y p =>
    cases x with
    | tup rs => cases hb
    | one r =>
      cases (show some (ρ.set i (some r)) = some ρ' from hb)
      exact k _ (er.set (Rel.toX hi)) fun us hu => wipe_get (j := 0) (hu i List.mem_cons_self)
  | many l kk p =>
    cases x with
    | tup rs =>
      obtain ⟨T, vs, e, hT, hr⟩ := hi
      obtain ⟨g, hl⟩ := g_names (Q := Q) (show setM l rs ρ = some ρ' from hb) hr er k
      exact ⟨T, vs, e, .of hT, hl, g⟩
    | one r =>
      cases r with
      | exc c ns l => cases hb
      | dat d =>
        cases d with
        | tup ds =>
          obtain ⟨T, vs, e, _, hT, _, hr⟩ := hi
          obtain ⟨g, hl⟩ := g_names (Q := Q) (show setM l (ds.map .dat) ρ = some ρ' from hb) hr.dat er k
          exact ⟨T, vs, e, .of hT, hl, g⟩
        | _ => cases hb
      | own j =>
        obtain ⟨hj, e⟩ := hi
        obtain ⟨c, hc, hr⟩ := sr.get hj
        unfold bindT at hb
        cases c with
        | lst rs => simp only [hc] at hb; cases hb
        | obj c ns rs => simp only [hc] at hb; cases hb
        | tup rs =>
          simp only [hc] at hb
          obtain ⟨vs, hT, _, hr⟩ := hr
          obtain ⟨g, hl⟩ := g_names (Q := Q) hb hr er k
          exact ⟨w.p j, vs, e, .of hT, hl, g⟩
end
end MP
set_option Elab.async false
set_option linter.all false
set_option maxRecDepth 100000
set_option maxHeartbeats 4000000
/-! MPComp: comprehensions. -/
namespace MP
open PySem PySem.Spec PyProof.Rows L2
/-! ### readings that do not hang on the context -/
def rdE (K : PySem.W.Frag) (xr : XR) (W : WX) (m : MP.Env → M R) : TE := fun σ H Q => ∃ w S ρ, w.H = H ∧ EnvR K xr w σ ρ ∧ SR K w S ∧ Hop K (Rel K) (WE W σ) w Q (m ρ S)
def rdT (K : PySem.W.Frag) (xr : XR) (W : WX) (m : MP.Env → M Bool) : TT := fun σ H Q => ∃ w S ρ, w.H = H ∧ EnvR K xr w σ ρ ∧ SR K w S ∧ Hop K (fun _ b v => b = v) (WE W σ) w Q (m ρ S)
def rdI (K : PySem.W.Frag) (xr : XR) (W : WX) (m : MP.Env → M (List Itm × Gd)) : TI := fun σ H Q => ∃ w S ρ, w.H = H ∧ EnvR K xr w σ ρ ∧ SR K w S ∧ Hop K (fun w a J => WalkR K w J a.1 a.2) (WE W σ) w Q (m ρ S)
section
variable {X : Cx} {xr : XR} {W : WX} {e tg iter : Expr} {ifs : List Expr} {m : MP.Env → M R} {mt : MP.Env → M Bool} {mi : MP.Env → M (List Itm × Gd)}
theorem EOk.rd (h : EOk X xr W e m) : PE X e (rdE X.K xr W m) := by
  obtain ⟨t, p, q⟩ := h
  exact ⟨fun pins s σ H Q I ⟨w, S, ρ, e, er, sr, h⟩ => p.run pins s σ H Q I (e ▸ q σ w S ρ Q er sr h)⟩
theorem TOk.rd (h : TOk X xr W e mt) : PT X e (rdT X.K xr W mt) := by
  obtain ⟨t, p, q⟩ := h
  exact ⟨fun pins s σ H Q I ⟨w, S, ρ, e, er, sr, h⟩ => p.run pins s σ H Q I (e ▸ q σ w S ρ Q er sr h)⟩
theorem IOk.rd (h : IOk X xr W tg iter mi) : PI X tg iter (rdI X.K xr W mi) := by
  obtain ⟨t, p, q⟩ := h
  exact ⟨fun pins s σ H Q I ⟨w, S, ρ, e, er, sr, h⟩ => p.run pins s σ H Q I (e ▸ q σ w S ρ Q er sr h)⟩
/-- the ifs of a comprehension -/
def TsOk (X : Cx) (xr : XR) (W : WX) (ifs : List Expr) (m : MP.Env → M Bool) : Prop := PTs X ifs (rdT X.K xr W m)
theorem ts_nil : TsOk X xr W [] (fun _ => M.pure true) := ⟨fun pins s σ H Q I ⟨w, S, ρ, e, er, sr, h⟩ => pts_nil.run pins s σ H Q I (e ▸ h w true (Ext.refl _) sr rfl)⟩
theorem ts_one (h : TOk X xr W e mt) : TsOk X xr W [e] mt := pts_one h.rd
end
abbrev W0 : WX := fun _ _ _ _ => False
theorem takes0 {X : Cx} : L2N.Takes X W0 := fun u s' ⟨_, _, _, _, _, _, _, _, _, _, _, _, _, _, _, _, z⟩ => z.elim
/-! ### a loop -/
theorem lp {J : It} {n : Nat} {G : Hp → Prop} {Y : Nat → Hp → V → Hp → Prop} (w : Walk J n G Y) {body : V → Hp → (Hp → Prop) → Prop} {Qd : Hp → Prop} {H0 : Hp} (Pv : Nat → Hp → Prop) (h0 : Pv 0 H0) (hG : ∀ i H, i ≤ n → Pv i H → G H)
    (hs : ∀ i x H H', i < n → Pv i H → Y i H x H' → body x H' (Pv (i + 1))) (hd : ∀ H, Pv n H → Qd H) :
    ∃ W : Nat → Nat → Hp → Prop, (∃ m, W 0 m H0) ∧ ∀ i m H, W i m H → (J.stop i H ∧ Qd H) ∨ (J.go i H ∧ ∃ Nx : Hp → Prop, (∀ H', Nx H' → ∃ m', m' < m ∧ W (i + 1) m' H') ∧ ∀ x H', J.yld i H x H' → body x H' Nx) := by
  refine ⟨fun i m H => m = n - i ∧ i ≤ n ∧ Pv i H, ⟨n, by simp, Nat.zero_le _, h0⟩, ?_⟩
  rintro i m H ⟨rfl, hi, p⟩
  have q := hG i H hi p
  by_cases hlt : i < n
  · exact .inr ⟨w.goes i H hlt q, Pv (i + 1), fun H' p' => ⟨n - (i + 1), by omega, rfl, hlt, p'⟩, fun x H' y => hs i x H H' hlt p (w.yields i H x H' hlt q y)⟩
  · have e : i = n := by omega
    subst e
    exact .inl ⟨w.stops H q, hd H p⟩
/-! ### results without exceptions -/
def Res.Sure {α : Type} (r : Res α) : Prop := ∃ a S, r = .ok a S
theorem noX_sure {α : Type} {m : M α} {S : Store} : (∃ a S', M.noX m S = .ok a S' ∧ m S = .ok a S') ∨ M.noX m S = .stuck := by
  unfold M.noX
  cases m S with
  | ok a S' => exact .inl ⟨a, S', rfl, rfl⟩
  | exc c ns l S' => exact .inr rfl
  | stuck => exact .inr rfl
theorem bind_ok {α β : Type} {m : M α} {f : α → M β} {S S' : Store} {b : β} (h : M.bind m f S = .ok b S') : ∃ a S1, m S = .ok a S1 ∧ f a S1 = .ok b S' := by
  unfold M.bind at h
  cases e : m S with
  | ok a S1 => rw [e] at h; exact ⟨a, S1, rfl, h⟩
  | exc c ns l S1 => rw [e] at h; cases h
  | stuck => rw [e] at h; cases h
theorem bind_at {α β : Type} {m : M α} {f : α → M β} {S S1 : Store} {a : α} (h : m S = .ok a S1) : M.bind m f S = f a S1 := by
  unfold M.bind
  rw [h]
/-- turns that let no exception out -/
def NoExc {α β : Type} (f : α → M β) : Prop := ∀ x S, (∃ a S', f x S = .ok a S') ∨ f x S = .stuck
theorem turn_noexc {t : IT} {g : Gd} {c : MP.Env → M Bool} {el : MP.Env → M (List R)} {ρ : MP.Env} : NoExc (lcTurn t g c el ρ) := fun x S => by
  unfold lcTurn
  by_cases h : gdOk S g = true
  · simp only [if_pos h]
    cases e : bindT t x ρ S with
    | none => exact .inr rfl
    | some ρ' =>
      rcases noX_sure (m := M.bind (c ρ') fun b => if b = true then el ρ' else M.pure []) (S := S) with ⟨a, S', h1, _⟩ | h1
      · exact .inl ⟨a, S', h1⟩
      · exact .inr h1
  · exact .inr (by simp only [if_neg h])
theorem loop_noexc {g : Gd} {f : Itm → M (List R)} (hf : NoExc f) : NoExc (lcLoop g f) := fun xs => by
  induction xs with
  | nil =>
    intro S
    by_cases h : gdOk S g = true
    · exact .inl ⟨[], S, by show (if gdOk S g = true then _ else _) = _; rw [if_pos h]⟩
    · exact .inr (by show (if gdOk S g = true then _ else _) = _; rw [if_neg h])
  | cons x xs ih =>
    intro S
    rcases hf x S with ⟨a, S1, h1⟩ | h1
    · rcases ih S1 with ⟨b, S2, h2⟩ | h2
      · exact .inl ⟨a ++ b, S2, by show M.bind _ _ S = _; rw [bind_at h1, bind_at h2]; rfl⟩
      · refine .inr ?_
        show M.bind _ _ S = _
        rw [bind_at h1]
        unfold M.bind
        rw [h2]
    · refine .inr ?_
      show M.bind _ _ S = _
      unfold M.bind
      rw [h1]
theorem hop_noexc {α β : Type} {K : PySem.W.Frag} {rel : Wd → R → V → Prop} {E : XK} {w : Wd} {Q : VK} {f : α → M β} {k : β → M R} {x : α} {S : Store} (hf : NoExc f) (h : Hop K rel E w Q (M.bind (f x) k S)) : ∃ a S', f x S = .ok a S' ∧ Hop K rel E w Q (k a S') := by
  rcases hf x S with ⟨a, S1, h1⟩ | h1
  · rw [bind_at h1] at h
    exact ⟨a, S1, h1, h⟩
  · unfold M.bind at h
    rw [h1] at h
    exact h.elim
/-! ### the list that grows -/
structure Acc (K : PySem.W.Frag) (D : Addr) (w1 w2 : Wd) (S2 : Store) (out : List R) : Prop where
  x : Ext w1 w2
  h : D ∈ w2.hid
  s : SR K w2 S2
  o : ∃ vs, w2.H D = some (.lst vs) ∧ Rels K w2 out vs
theorem Acc.ext {K : PySem.W.Frag} {D : Addr} {w1 w2 w3 : Wd} {S2 S3 : Store} {out : List R} (a : Acc K D w1 w2 S2 out) (x : Ext w2 w3) (s : SR K w3 S3) : Acc K D w1 w3 S3 out := by
  obtain ⟨vs, h1, h2⟩ := a.o
  exact ⟨a.x.trans x, (x.hk _ a.h).1, s, vs, (x.hk _ a.h).2.trans h1, h2.ext x⟩
section
variable {K : PySem.W.Frag} {D : Addr} {w1 w2 : Wd} {S1 S2 : Store} {out : List R} {r : R} {y : V}
theorem Acc.add (a : Acc K D w1 w2 S2 out) (s1 : SR K w1 S1) (hD : w1.H D = none) (hr : Rel K w2 r y) (hl : out.length < sizeLine) : ∃ acc, w2.H D = some (.lst acc) ∧ acc.length < sizeLine ∧ ∃ w3, w3.H = upd w2.H D (.lst (acc ++ [y])) ∧ Acc K D w1 w3 S2 (out ++ [r]) ∧ Mono w2 w3 := by
  obtain ⟨vs, h1, h2⟩ := a.o
  refine ⟨vs, h1, by rw [← h2.length]; exact hl, w2.poke D (.lst (vs ++ [y])), rfl, ⟨a.x.poke (fun b hb => (s1.hid b hb).1) hD, a.h, a.s.poke a.h, vs ++ [y], upd_same, ?_⟩, mono_poke a.h⟩
  exact (h2.mono (mono_poke a.h)).append (.one (hr.mono (mono_poke a.h)))
theorem Acc.fin {m : Bool} {E : XK} {Q : VK} (a : Acc K D w1 w2 S2 out) (s1 : SR K w1 S1) (hD : w1.H D = none) (h : Hop K (Rel K) E w1 Q (lcOut m out S2)) : Q (.ref D) w2.H := by
  obtain ⟨vs, h1, h2⟩ := a.o
  unfold lcOut at h
  by_cases hz : small out.length = true
  · rw [if_pos hz] at h
    have hl : vs.length ≤ sizeLine := by
      have l1 := line_small hz
      have l2 := line_eq
      rw [← h2.length]
      omega
    have s0 : ∀ b, b ∈ w1.hid → w1.H b ≠ none := fun b hb => (s1.hid b hb).1
    have viaOwn : Hop K (Rel K) E w1 Q (.ok (.own S2.length) (S2 ++ [.lst out])) → Q (.ref D) w2.H := fun h => by
      have hc : CellR K (w2.own D) D (.lst out) := ⟨vs, h1, hl, h2.mono (mono_own a.h)⟩
      exact h (w2.own D) (.ref D) (a.x.own s0 hD) (a.s.own a.h hc) ⟨by rw [← a.s.n]; exact Nat.lt_succ_self _, by rw [← a.s.n, own_p]⟩
    unfold mkL at h
    cases m with
    | true => exact viaOwn h
    | false =>
      cases ed : datsR out with
      | none => simp only [ed] at h; exact viaOwn h
      | some ds =>
        simp only [ed] at h
        exact h (w2.show D) (.ref D) (a.x.show s0 hD) a.s.show ⟨D, vs, rfl, nlive_show a.s a.h, h1, hl, Reps.imp mono_show.keep _ _ (Rels.dats ed h2)⟩
  · rw [if_neg hz] at h
    exact h.elim
end
theorem small_of {m : Bool} {K : PySem.W.Frag} {rel : Wd → R → V → Prop} {E : XK} {w : Wd} {Q : VK} {l : List R} {S : Store} (h : Hop K rel E w Q (lcOut m l S)) : l.length ≤ 1000000 := by
  unfold lcOut at h
  by_cases hz : small l.length = true
  · exact line_small hz
  · rw [if_neg hz] at h
    exact h.elim
/-- one turn of a comprehension -/
theorem turn_at {t : IT} {g : Gd} {c : MP.Env → M Bool} {el : MP.Env → M (List R)} {ρ : MP.Env} {x : Itm} {S S' : Store} {a : List R} (h : lcTurn t g c el ρ x S = .ok a S') :
    gdOk S g = true ∧ ∃ ρ', bindT t x ρ S = some ρ' ∧ ∃ b S1, c ρ' S = .ok b S1 ∧ ((b = true ∧ el ρ' S1 = .ok a S') ∨ (b = false ∧ a = [] ∧ S' = S1)) := by
  unfold lcTurn at h
  by_cases z : gdOk S g = true
  · simp only [if_pos z] at h
    refine ⟨z, ?_⟩
    cases e : bindT t x ρ S with
    | none => rw [e] at h; cases h
    | some ρ' =>
      simp only [e] at h
      refine ⟨ρ', rfl, ?_⟩
      rcases noX_sure (m := M.bind (c ρ') fun b => if b = true then el ρ' else M.pure []) (S := S) with ⟨a', S1, h1, h2⟩ | h1
      · rw [h1] at h
        cases h
        obtain ⟨b, S1, h3, h4⟩ := bind_ok h2
        cases b with
        | true => exact ⟨true, S1, h3, .inl ⟨rfl, h4⟩⟩
        | false =>
          cases (show Res.ok [] S1 = Res.ok a S' from h4)
          exact ⟨false, S', h3, .inr ⟨rfl, rfl, rfl⟩⟩
      · rw [h1] at h
        cases h
  · rw [if_neg z] at h
    cases h
theorem loop_nil {g : Gd} {f : Itm → M (List R)} {S S' : Store} {a : List R} (h : lcLoop g f [] S = .ok a S') : gdOk S g = true ∧ a = [] ∧ S' = S := by
  by_cases z : gdOk S g = true
  · have h : (if gdOk S g = true then Res.ok ([] : List R) S else .stuck) = .ok a S' := h
    rw [if_pos z] at h
    cases h
    exact ⟨z, rfl, rfl⟩
  · have h : (if gdOk S g = true then Res.ok ([] : List R) S else .stuck) = .ok a S' := h
    rw [if_neg z] at h
    cases h
/-- the rest of a loop with what is behind it -/
theorem loop_step {α : Type} {g : Gd} {f : Itm → M (List R)} {x : Itm} {xs : List Itm} {out : List R} {k : List R → M α} {S S1 : Store} {a : List R} (h1 : f x S = .ok a S1) :
    M.bind (lcLoop g f (x :: xs)) (fun b => k (out ++ b)) S = M.bind (lcLoop g f xs) (fun b => k ((out ++ a) ++ b)) S1 := by
  show M.bind (M.bind (f x) fun a => M.bind (lcLoop g f xs) fun b => M.pure (a ++ b)) _ S = _
  rw [bind_assoc, bind_at h1, bind_assoc]
  have e : (fun b => M.bind (M.pure (a ++ b)) fun b => k (out ++ b)) = fun b => k ((out ++ a) ++ b) := by
    funext b
    rw [pure_bind, List.append_assoc]
  rw [e]
section
variable {X : Cx} {xr : XR} {W : WX} {elt iter : Expr} {ifs : List Expr} {sc : Scope} {own : List (Str × Nat)} {pos : Pos} {t : IT} {me : MP.Env → M R} {mc : MP.Env → M Bool} {mi : MP.Env → M (List Itm × Gd)} {m : Bool}
theorem lc_rd (hx : xr.Ok) (hown : ∀ i ∈ t.ix, i ∈ own.map (·.2)) : ∀ σ w S ρ Q, EnvR X.K xr w σ ρ → SR X.K w S →
    Hop X.K (Rel X.K) (WE W σ) w Q (M.bind (mi ρ) (fun q => M.bind (lcLoop q.2 (lcTurn t q.2 mc (fun ρ' => M.bind (me ρ') fun r => M.pure [r]) (wipeE ρ (own.map (·.2)))) q.1) (lcOut m)) S) →
    tLc (rdI X.K xr W mi) (gT X.K t) (rdT X.K xr W0 mc) (rdE X.K xr W0 me) (own.map (·.2)) σ w.H Q := by
  intro σ w S ρ Q er sr h
  refine ⟨w, S, ρ, rfl, er, sr, h.bind fun w1 a J S1 e1 s1 wk h1 D hD => ?_⟩
  obtain ⟨xs, gd⟩ := a
  obtain ⟨G, Y, hw, hG, hY⟩ := wk
  dsimp only at h1 hw hG hY
  have hf := turn_noexc (t := t) (g := gd) (c := mc) (el := fun ρ' => M.bind (me ρ') fun r => M.pure [r]) (ρ := wipeE ρ (own.map (·.2)))
  generalize hF : lcTurn t gd mc (fun ρ' => M.bind (me ρ') fun r => M.pure [r]) (wipeE ρ (own.map (·.2))) = F at h1 hf
  refine lp hw (fun i H => ∃ w2 S2 out, w2.H = H ∧ Acc X.K D w1 w2 S2 out ∧ Hop X.K (Rel X.K) (WE W σ) w1 Q (M.bind (lcLoop gd F (xs.drop i)) (fun b => lcOut m (out ++ b)) S2)) ?_ ?_ ?_ ?_
  · exact ⟨w1.hide D (.lst []), S1, [], rfl, ⟨ext_hide s1 hD, List.mem_cons_self, s1.hide hD, [], upd_same, rfl⟩, h1⟩
  · intro i H hi ⟨w2, S2, out, eH, ac, h2⟩
    subst eH
    refine hG w2 S2 ac.x.mono ac.s ?_
    obtain ⟨a, S', h3, _⟩ := hop_noexc (loop_noexc hf) h2
    by_cases hlt : i < xs.length
    · rw [List.drop_eq_getElem_cons hlt] at h3
      obtain ⟨a', S3, h4, _⟩ := bind_ok (show M.bind _ _ S2 = _ from h3)
      rw [← hF] at h4
      exact (turn_at h4).1
    · rw [List.drop_eq_nil_of_le (by omega)] at h3
      exact (loop_nil h3).1
  · intro i v H H' hi ⟨w2, S2, out, eH, ac, h2⟩ hy
    subst eH
    rw [List.drop_eq_getElem_cons hi] at h2
    obtain ⟨a, S', h3, _⟩ := hop_noexc (loop_noexc hf) h2
    obtain ⟨a', S3, h4, _⟩ := bind_ok (show M.bind _ _ S2 = _ from h3)
    rw [loop_step h4] at h2
    obtain ⟨b, S'', h5, h6⟩ := hop_noexc (loop_noexc hf) h2
    have hsz := small_of h6
    rw [← hF] at h4
    obtain ⟨g2, ρ', hb, c, S4, hc, hor⟩ := turn_at h4
    obtain ⟨w3, eH, x3, s3, it⟩ := hY i xs[i] v H' w2 S2 ac.x.mono ac.s g2 (List.getElem?_eq_getElem hi) hy
    subst eH
    have er3 : EnvR X.K xr w3 (wipe σ (own.map (·.2))) (wipeE ρ (own.map (·.2))) := (((er.ext hx e1).ext hx ac.x).ext hx x3).wipe _
    refine g_ok hb er3 s3 it fun σ' er4 hw' => ⟨?_, ?_⟩
    · rw [hw' _ hown, wipe_wipe fun i hi => hi]
    · refine ⟨w3, S2, ρ', rfl, er4, s3, ?_⟩
      rw [hc]
      intro w4 b4 x4 s4 e4
      have e4' : c = b4 := e4
      subst e4'
      have ac4 := ac.ext (x3.trans x4) s4
      rcases hor with ⟨e5, hel⟩ | ⟨e5, e6, e7⟩
      · subst e5
        rw [if_pos rfl]
        obtain ⟨r, S5, hr, e8⟩ := bind_ok hel
        cases (show Res.ok [r] S5 = Res.ok a' S3 from e8)
        refine ⟨w4, S4, ρ', rfl, er4.ext hx x4, s4, ?_⟩
        rw [hr]
        intro w5 y x5 s5 ry
        obtain ⟨acc, q1, q2, w6, e6, ac6, _⟩ := (ac4.ext x5 s5).add s1 hD ry (by
          have l2 := line_eq
          rw [List.length_append, List.length_append] at hsz
          simp at hsz
          omega)
        exact ⟨acc, q1, q2, w6, S3, out ++ [r], e6, ac6, h2⟩
      · subst e5 e6 e7
        rw [if_neg Bool.false_ne_true]
        rw [List.append_nil] at h2
        exact ⟨w4, S3, out, rfl, ac4, h2⟩
  · intro H ⟨w2, S2, out, eH, ac, h2⟩
    subst eH
    rw [List.drop_eq_nil_of_le (Nat.le_refl _)] at h2
    obtain ⟨a, S', h3, h4⟩ := hop_noexc (loop_noexc hf) h2
    obtain ⟨_, e2, e3⟩ := loop_nil h3
    subst e2 e3
    rw [List.append_nil] at h4
    exact ac.fin s1 hD h4
abbrev Blks (X : Cx) (sc : Scope) (P : Cx → Prop) : Prop := ∀ (s : Shared) (H : Hp) (C : Addr) (cl : List (Str × Addr)) (fp : List Addr), P (X.blk s H sc (compEnvC sc cl C X.env) fp)
theorem e_lc (hx : xr.Ok) (hc : X.calm = true) (hN : X.N.Nodup) (hi : IOk X xr W t.e iter mi) (ok : BlkOk X.N X.env.scope sc own) (hown : ∀ i ∈ t.ix, i ∈ own.map (·.2)) (hg : Blks X sc fun Y => ITOk Y t)
    (ht : Blks X sc fun Y => TsOk Y xr W0 ifs mc) (he : Blks X sc fun Y => EOk Y xr W0 elt me) (hs : ∀ x, foldedSetIterable iter X.env x = pure x) :
    EOk X xr W (.ListComp elt [⟨t.e, iter, ifs, 0⟩] sc pos) (fun ρ => M.bind (mi ρ) fun q => M.bind (lcLoop q.2 (lcTurn t q.2 mc (fun ρ' => M.bind (me ρ') fun r => M.pure [r]) (wipeE ρ (own.map (·.2)))) q.1) (lcOut m)) :=
  ⟨_, pe_lc (tt := rdT X.K xr W0 mc) (te := rdE X.K xr W0 me) hc hN hi.rd ok (fun s H C cl fp => pg_T (X := X.blk s H sc (compEnvC sc cl C X.env) fp) hN t (hg s H C cl fp)) (fun s H C cl fp => ht s H C cl fp) (fun s H C cl fp => (he s H C cl fp).rd) hs, lc_rd hx hown⟩
variable {elt2 iter2 : Expr} {ifs2 : List Expr} {t2 : IT} {vs2 : List Nat} {mc2 : MP.Env → M Bool} {mi2 : MP.Env → M (List Itm × Gd)}
theorem lc2_rd (hx : xr.Ok) (hown : ∀ i ∈ t.ix, i ∈ own.map (·.2)) (hown2 : ∀ i ∈ t2.ix, i ∈ vs2) : ∀ σ w S ρ Q, EnvR X.K xr w σ ρ → SR X.K w S →
    Hop X.K (Rel X.K) (WE W σ) w Q (M.bind (mi ρ) (fun q => M.bind (lcLoop q.2 (lcTurn t q.2 mc (fun ρ' => M.bind (mi2 ρ') fun q2 =>
      lcLoop q2.2 (lcTurn t2 q2.2 mc2 (fun ρ2 => M.bind (me ρ2) fun r => M.pure [r]) (wipeE ρ' vs2)) q2.1) (wipeE ρ (own.map (·.2)))) q.1) (lcOut m)) S) →
    tLc2 (rdI X.K xr W mi) (gT X.K t) (rdT X.K xr W0 mc) (rdI X.K xr W0 mi2) (gT X.K t2) (rdT X.K xr W0 mc2) (rdE X.K xr W0 me) (own.map (·.2)) vs2 σ w.H Q := by
  intro σ w S ρ Q er sr h
  refine ⟨w, S, ρ, rfl, er, sr, h.bind fun w1 a J S1 e1 s1 wk h1 D hD => ?_⟩
  obtain ⟨xs, gd⟩ := a
  obtain ⟨G, Y, hw, hG, hY⟩ := wk
  dsimp only at h1 hw hG hY
  have hf := turn_noexc (t := t) (g := gd) (c := mc) (el := fun ρ' => M.bind (mi2 ρ') fun q2 => lcLoop q2.2 (lcTurn t2 q2.2 mc2 (fun ρ2 => M.bind (me ρ2) fun r => M.pure [r]) (wipeE ρ' vs2)) q2.1) (ρ := wipeE ρ (own.map (·.2)))
  generalize hF : lcTurn t gd mc (fun ρ' => M.bind (mi2 ρ') fun q2 => lcLoop q2.2 (lcTurn t2 q2.2 mc2 (fun ρ2 => M.bind (me ρ2) fun r => M.pure [r]) (wipeE ρ' vs2)) q2.1) (wipeE ρ (own.map (·.2))) = F at h1 hf
  refine lp hw (fun i H => ∃ w2 S2 out, w2.H = H ∧ Acc X.K D w1 w2 S2 out ∧ Hop X.K (Rel X.K) (WE W σ) w1 Q (M.bind (lcLoop gd F (xs.drop i)) (fun b => lcOut m (out ++ b)) S2)) ?_ ?_ ?_ ?_
  · exact ⟨w1.hide D (.lst []), S1, [], rfl, ⟨ext_hide s1 hD, List.mem_cons_self, s1.hide hD, [], upd_same, rfl⟩, h1⟩
  · intro i H hi ⟨w2, S2, out, eH, ac, h2⟩
    subst eH
    refine hG w2 S2 ac.x.mono ac.s ?_
    obtain ⟨a, S', h3, _⟩ := hop_noexc (loop_noexc hf) h2
    by_cases hlt : i < xs.length
    · rw [List.drop_eq_getElem_cons hlt] at h3
      obtain ⟨a', S3, h4, _⟩ := bind_ok (show M.bind _ _ S2 = _ from h3)
      rw [← hF] at h4
      exact (turn_at h4).1
    · rw [List.drop_eq_nil_of_le (by omega)] at h3
      exact (loop_nil h3).1
  · intro i v H H' hi ⟨w2, S2, out, eH, ac, h2⟩ hy
    subst eH
    rw [List.drop_eq_getElem_cons hi] at h2
    obtain ⟨a, S', h3, _⟩ := hop_noexc (loop_noexc hf) h2
    obtain ⟨a', S3, h4, _⟩ := bind_ok (show M.bind _ _ S2 = _ from h3)
    rw [loop_step h4] at h2
    obtain ⟨b, S'', h5, h6⟩ := hop_noexc (loop_noexc hf) h2
    have hsz := small_of h6
    rw [← hF] at h4
    obtain ⟨g2, ρ', hb, c, S4, hc, hor⟩ := turn_at h4
    obtain ⟨w3, eH, x3, s3, it⟩ := hY i xs[i] v H' w2 S2 ac.x.mono ac.s g2 (List.getElem?_eq_getElem hi) hy
    subst eH
    have er3 : EnvR X.K xr w3 (wipe σ (own.map (·.2))) (wipeE ρ (own.map (·.2))) := (((er.ext hx e1).ext hx ac.x).ext hx x3).wipe _
    refine g_ok hb er3 s3 it fun σ' er4 hw' => ⟨?_, ?_⟩
    · rw [hw' _ hown, wipe_wipe fun i hi => hi]
    · refine ⟨w3, S2, ρ', rfl, er4, s3, ?_⟩
      rw [hc]
      intro w4 b4 x4 s4 e4
      have e4' : c = b4 := e4
      subst e4'
      have ac4 := ac.ext (x3.trans x4) s4
      rcases hor with ⟨e5, hel⟩ | ⟨e5, e6, e7⟩
      · subst e5
        rw [if_pos rfl]
        obtain ⟨q2, S5, hq2, hl2⟩ := bind_ok hel
        obtain ⟨xs2, gd2⟩ := q2
        dsimp only at hl2
        have er4' := er4.ext hx x4
        refine ⟨w4, S4, ρ', rfl, er4', s4, ?_⟩
        rw [hq2]
        intro w5 J5 x5 s5 wk5
        obtain ⟨G5, Y5, hw5, hG5, hY5⟩ := wk5
        dsimp only at hw5 hG5 hY5
        have ac5 := ac4.ext x5 s5
        have er5 := er4'.ext hx x5
        generalize hF2 : lcTurn t2 gd2 mc2 (fun ρ2 => M.bind (me ρ2) fun r => M.pure [r]) (wipeE ρ' vs2) = F2 at hl2
        refine lp hw5 (fun j H => ∃ w6 S6 out6 c6, w6.H = H ∧ Mono w5 w6 ∧ Acc X.K D w1 w6 S6 out6 ∧ lcLoop gd2 F2 (xs2.drop j) S6 = .ok c6 S3 ∧ out6 ++ c6 = out ++ a') ?_ ?_ ?_ ?_
        · exact ⟨w5, S5, out, a', rfl, (Ext.refl _).mono, ac5, hl2, rfl⟩
        · intro j H hj ⟨w6, S6, out6, c6, eH, x6, ac6, hl6, ho6⟩
          subst eH
          refine hG5 w6 S6 x6 ac6.s ?_
          by_cases hlt : j < xs2.length
          · rw [List.drop_eq_getElem_cons hlt] at hl6
            obtain ⟨a7, S7, h7, _⟩ := bind_ok (show M.bind _ _ S6 = _ from hl6)
            rw [← hF2] at h7
            exact (turn_at h7).1
          · rw [List.drop_eq_nil_of_le (by omega)] at hl6
            exact (loop_nil hl6).1
        · intro j v6 H6 H7 hj ⟨w6, S6, out6, c6, eH, x6, ac6, hl6, ho6⟩ hy6
          subst eH
          rw [List.drop_eq_getElem_cons hj] at hl6
          obtain ⟨a7, S7, h7, h8⟩ := bind_ok (show M.bind _ _ S6 = _ from hl6)
          obtain ⟨c7, S8, h9, h10⟩ := bind_ok h8
          cases (show Res.ok (a7 ++ c7) S8 = Res.ok c6 S3 from h10)
          rw [← List.append_assoc] at ho6
          have hz7 : (out6 ++ a7).length ≤ 1000000 := by
            have q := congrArg List.length ho6
            rw [List.length_append] at q
            rw [List.length_append] at hsz
            omega
          rw [← hF2] at h7
          obtain ⟨g7, ρ7, hb7, d7, S9, hc7, hor7⟩ := turn_at h7
          obtain ⟨w7, eH7, x7, s7, it7⟩ := hY5 j xs2[j] v6 H7 w6 S6 x6 ac6.s g7 (List.getElem?_eq_getElem hj) hy6
          subst eH7
          have er7 : EnvR X.K xr w7 (wipe σ' vs2) (wipeE ρ' vs2) := ((er5.mono hx x6).ext hx x7).wipe _
          refine g_ok hb7 er7 s7 it7 fun σ7 er8 hw7 => ⟨?_, ?_⟩
          · rw [hw7 _ hown2, wipe_wipe fun i hi => hi]
          · refine ⟨w7, S6, ρ7, rfl, er8, s7, ?_⟩
            rw [hc7]
            intro w8 b8 x8 s8 e8
            have e8' : d7 = b8 := e8
            subst e8'
            have ac8 := ac6.ext (x7.trans x8) s8
            rcases hor7 with ⟨e9, hel9⟩ | ⟨e9, e10, e11⟩
            · subst e9
              rw [if_pos rfl]
              obtain ⟨r, S10, hr, e12⟩ := bind_ok hel9
              cases (show Res.ok [r] S10 = Res.ok a7 S7 from e12)
              refine ⟨w8, S9, ρ7, rfl, er8.ext hx x8, s8, ?_⟩
              rw [hr]
              intro w9 y x9 s9 ry
              obtain ⟨acc, q1, q2, w10, e13, ac10, m10⟩ := (ac8.ext x9 s9).add s1 hD ry (by
                have l2 := line_eq
                rw [List.length_append] at hz7
                simp at hz7
                omega)
              exact ⟨acc, q1, q2, w10, S7, out6 ++ [r], c7, e13, x6.trans ((x7.trans (x8.trans x9)).mono.trans m10), ac10, h9, ho6⟩
            · subst e9 e10 e11
              rw [if_neg Bool.false_ne_true]
              rw [List.append_nil] at ho6
              exact ⟨w8, S7, out6, c7, rfl, x6.trans (x7.trans x8).mono, ac8, h9, ho6⟩
        · intro H6 ⟨w6, S6, out6, c6, eH, x6, ac6, hl6, ho6⟩
          subst eH
          rw [List.drop_eq_nil_of_le (Nat.le_refl _)] at hl6
          obtain ⟨_, e2, e3⟩ := loop_nil hl6
          subst e2 e3
          rw [List.append_nil] at ho6
          subst ho6
          exact ⟨w6, S3, _, rfl, ac6, h2⟩
      · subst e5 e6 e7
        rw [if_neg Bool.false_ne_true]
        rw [List.append_nil] at h2
        exact ⟨w4, S3, out, rfl, ac4, h2⟩
  · intro H ⟨w2, S2, out, eH, ac, h2⟩
    subst eH
    rw [List.drop_eq_nil_of_le (Nat.le_refl _)] at h2
    obtain ⟨a, S', h3, h4⟩ := hop_noexc (loop_noexc hf) h2
    obtain ⟨_, e2, e3⟩ := loop_nil h3
    subst e2 e3
    rw [List.append_nil] at h4
    exact ac.fin s1 hD h4
end
end MP
set_option Elab.async false
set_option linter.all false
set_option maxRecDepth 100000
set_option maxHeartbeats 4000000
/-! MPStmt: statements. -/
namespace MP
open PySem PySem.Spec PyProof.Rows L2
def HopS (K : PySem.W.Frag) (xr : XR) (W : WX) (w : Wd) (D : Ends) : SRes → Prop
  | .go .next ρ S => ∀ w' σ, Ext w w' → SR K w' S → EnvR K xr w' σ ρ → D.nx σ w'.H
  | .go .brk ρ S => ∀ w' σ, Ext w w' → SR K w' S → EnvR K xr w' σ ρ → D.bk σ w'.H
  | .go .cont ρ S => ∀ w' σ, Ext w w' → SR K w' S → EnvR K xr w' σ ρ → D.ct σ w'.H
  | .go (.ret r) _ S => ∀ w' v, Ext w w' → SR K w' S → Rel K w' r v → D.rt v w'.H
  | .exc c ns l ρ S => ∀ w' σ d, Ext w w' → SR K w' S → EnvR K xr w' σ ρ → ExcD K w' ns l d → W (.ref (He.ga K c)) d σ w'.H
  | .stuck => False
theorem HopS.ext {K : PySem.W.Frag} {xr : XR} {W : WX} {w w1 : Wd} {D : Ends} {r : SRes} (x : Ext w w1) (h : HopS K xr W w D r) : HopS K xr W w1 D r := by
  match r, h with
  | .go .next ρ S, h => exact fun w' σ e s er => h w' σ (x.trans e) s er
  | .go .brk ρ S, h => exact fun w' σ e s er => h w' σ (x.trans e) s er
  | .go .cont ρ S, h => exact fun w' σ e s er => h w' σ (x.trans e) s er
  | .go (.ret q) ρ S, h => exact fun w' v e s er => h w' v (x.trans e) s er
  | .exc c ns l ρ S, h => exact fun w' σ d e s er hd => h w' σ d (x.trans e) s er hd
  | .stuck, h => exact h
def SOk (X : Cx) (xr : XR) (W : WX) (st : Stmt) (f : MP.Env → Store → SRes) : Prop :=
  ∃ t, PS X st t ∧ ∀ σ w S ρ D, EnvR X.K xr w σ ρ → SR X.K w S → HopS X.K xr W w D (f ρ S) → t D σ w.H
def SsOk (X : Cx) (xr : XR) (W : WX) (st : List Stmt) (f : MP.Env → Store → SRes) : Prop :=
  ∃ t, PSs X st t ∧ ∀ σ w S ρ D, EnvR X.K xr w σ ρ → SR X.K w S → HopS X.K xr W w D (f ρ S) → t D σ w.H
def rdS (K : PySem.W.Frag) (xr : XR) (W : WX) (f : MP.Env → Store → SRes) : TS := fun D σ H => ∃ w S ρ, w.H = H ∧ EnvR K xr w σ ρ ∧ SR K w S ∧ HopS K xr W w D (f ρ S)
theorem hopS_of {α β : Type} {K : PySem.W.Frag} {xr : XR} {W : WX} {rel : Wd → α → β → Prop} {w : Wd} {D : Ends} {Q : β → Hp → Prop} {σ : L2.St} {ρ : MP.Env} {r : Res α} {k : α → Store → SRes} (hx : xr.Ok) (er : EnvR K xr w σ ρ) (h : HopS K xr W w D (SRes.of ρ r k))
    (hk : ∀ w1 a v S1, Ext w w1 → SR K w1 S1 → rel w1 a v → HopS K xr W w1 D (k a S1) → Q v w1.H) : Hop K rel (WE W σ) w Q r := by
  cases r with
  | ok a S => exact fun w1 v x s r => hk w1 a v S x s r (HopS.ext x h)
  | exc c ns l S => exact fun w1 d x s hd => h w1 σ d x s (er.ext hx x) hd
  | stuck => exact h
section
variable {X : Cx} {xr : XR} {W : WX} {e o iter tg : Expr} {st : Stmt} {sts body a b : List Stmt} {f g : MP.Env → Store → SRes} {m mo mi : MP.Env → M R} {mt : MP.Env → M Bool} {pos p' ps : Pos}
theorem SsOk.rd (h : SsOk X xr W sts f) : PSs X sts (rdS X.K xr W f) := by
  obtain ⟨t, p, q⟩ := h
  exact ⟨fun pins s σ H D I ⟨w, S, ρ, e, er, sr, h⟩ => p.run pins s σ H D I (e ▸ q σ w S ρ D er sr h)⟩
theorem ss_nil : SsOk X xr W [] (fun ρ S => .go .next ρ S) := ⟨_, pss_nil, fun σ w S ρ D er sr h => h w σ (Ext.refl _) sr er⟩
theorem ss_cons (h1 : SOk X xr W st f) (h2 : SsOk X xr W sts g) : SsOk X xr W (st :: sts) (fun ρ S => match f ρ S with
    | .go .next ρ1 S1 => g ρ1 S1
    | x => x) := by
  obtain ⟨t, p1, q1⟩ := h1
  obtain ⟨u, p2, q2⟩ := h2
  refine ⟨_, pss_cons p1 p2, fun σ w S ρ D er sr h => q1 σ w S ρ _ er sr ?_⟩
  dsimp only at h
  match hf : f ρ S with
  | .go .next ρ1 S1 =>
    rw [hf] at h
    exact fun w' σ' x s er' => q2 σ' w' S1 ρ1 D er' s (HopS.ext x h)
  | .go .brk ρ1 S1 => rw [hf] at h; exact h
  | .go .cont ρ1 S1 => rw [hf] at h; exact h
  | .go (.ret q) ρ1 S1 => rw [hf] at h; exact h
  | .exc c ns l ρ1 S1 => rw [hf] at h; exact h
  | .stuck => rw [hf] at h; exact h
theorem s_pass : SOk X xr W (.Pass pos) (fun ρ S => .go .next ρ S) := ⟨_, ps_pass, fun σ w S ρ D er sr h => h w σ (Ext.refl _) sr er⟩
theorem s_expr (hx : xr.Ok) (hs : swapsWith e none pos.line X.env = pure false) (he : EOk X xr W e m) : SOk X xr W (.Expr e pos) (fun ρ S => SRes.of ρ (m ρ S) fun _ S1 => .go .next ρ S1) := by
  obtain ⟨t, p, q⟩ := he
  exact ⟨_, ps_expr p hs, fun σ w S ρ D er sr h => q σ w S ρ _ er sr (hopS_of hx er h fun w1 r v S1 x s rr h1 => h1 w1 σ (Ext.refl _) s (er.ext hx x))⟩
theorem s_ret (hx : xr.Ok) (he : EOk X xr W e m) : SOk X xr W (.Return (some e) pos) (fun ρ S => SRes.of ρ (m ρ S) fun r S1 => .go (.ret r) ρ S1) := by
  obtain ⟨t, p, q⟩ := he
  exact ⟨_, ps_ret p, fun σ w S ρ D er sr h => q σ w S ρ _ er sr (hopS_of hx er h fun w1 r v S1 x s rr h1 => h1 w1 v (Ext.refl _) s rr)⟩
theorem s_if (hx : xr.Ok) (hc : TOk X xr W e mt) (ha : SsOk X xr W a f) (hb : SsOk X xr W b g) : SOk X xr W (.If e a b pos) (fun ρ S => SRes.of ρ (mt ρ S) fun t S1 => if t = true then f ρ S1 else g ρ S1) := by
  obtain ⟨t, p, q⟩ := hc
  obtain ⟨ta, pa, qa⟩ := ha
  obtain ⟨tb, pb, qb⟩ := hb
  refine ⟨_, ps_if p pa pb, fun σ w S ρ D er sr h => q σ w S ρ _ er sr (hopS_of hx er h fun w1 c v S1 x s rr h1 => ?_)⟩
  have e : c = v := rr
  subst e
  cases c with
  | true => exact qa σ w1 S1 ρ D (er.ext hx x) s h1
  | false => exact qb σ w1 S1 ρ D (er.ext hx x) s h1
/-- a target is set: the reading of the value, the rule -/
theorem s_set {t : IT} {te : TE} (hx : xr.Ok) (hp : PS X st (tAsg te (gT X.K t))) (hq : ∀ σ w S ρ Q, EnvR X.K xr w σ ρ → SR X.K w S → Hop X.K (Rel X.K) (WE W σ) w Q (m ρ S) → te σ w.H Q) :
    SOk X xr W st (fun ρ S => SRes.of ρ (m ρ S) fun r S1 => (match bindT t (.one r) ρ S1 with
      | some ρ1 => .go .next ρ1 S1
      | none => .stuck)) := by
  refine ⟨_, hp, fun σ w S ρ D er sr h => hq σ w S ρ _ er sr (hopS_of hx er h fun w1 r v S1 x s rr h1 => ?_)⟩
  cases e : bindT t (.one r) ρ S1 with
  | none => rw [e] at h1; exact h1.elim
  | some ρ1 =>
    rw [e] at h1
    exact g_ok e (er.ext hx x) s rr fun σ' er' _ => h1 w1 σ' (Ext.refl _) s er'
theorem s_setIx {i : Expr} (hx : xr.Ok) (hs : swapsWith e (some (.Subscript o i ps)) pos.line X.env = pure false)
    (ha : ∀ v, assign (.Subscript o i ps) X.env v = (do
      let ov ← holding [v] (eval o X.env)
      let iv ← holding [v, ov] (eval i X.env)
      standAt ps
      holding [v, ov, iv] (setItem ov iv v)
      release [v, ov, iv] [])) (he : EOk X xr W e m) (ho : EOk X xr W o mo) (hi : EOk X xr W i mi) :
    SOk X xr W (.Assign [.Subscript o i ps] e pos) (fun ρ S => SRes.of ρ ((M.bind (m ρ) fun v => M.bind (mo ρ) fun x => M.bind (mi ρ) fun y => setIxR x y v) S) fun _ S1 => .go .next ρ S1) := by
  obtain ⟨t, p, q⟩ := he
  obtain ⟨to, po, qo⟩ := ho
  obtain ⟨ti, pi, qi⟩ := hi
  refine ⟨_, ps_asg p (pg_sub po pi set_list ha) hs rfl rfl, fun σ w S ρ D er sr h => ?_⟩
  have h : Hop X.K (fun _ (_ : Unit) (_ : Unit) => True) (WE W σ) w (fun _ H => D.nx σ H) ((M.bind (m ρ) fun v => M.bind (mo ρ) fun x => M.bind (mi ρ) fun y => setIxR x y v) S) := hopS_of hx er h fun w1 r v S1 x s rr h1 => h1 w1 σ (Ext.refl _) s (er.ext hx x)
  refine q σ w S ρ _ er sr (h.bind fun w1 v vv S1 e1 s1 rv h1 => qo σ w1 S1 ρ _ (er.ext hx e1) s1 (h1.bind fun w2 x xv S2 e2 s2 rx h2 => qi σ w2 S2 ρ _ ((er.ext hx e1).ext hx e2) s2 (h2.bind fun w3 y yv S3 e3 s3 ry h3 => ?_)))
  have rv := rv.ext (e2.trans e3)
  have rx := rx.ext e3
  unfold setIxR at h3
  cases x with
  | dat d => exact h3.elim
  | exc c ns l => exact h3.elim
  | own k =>
    cases y with
    | own k => exact h3.elim
    | exc c ns l => exact h3.elim
    | dat d =>
      cases d with
      | int j =>
        obtain ⟨hk, eu⟩ := rx
        obtain ⟨c, hc, hr⟩ := s3.get hk
        cases c with
        | tup rs => simp only [hc] at h3; exact h3.elim
        | obj c ns rs => simp only [hc] at h3; exact h3.elim
        | lst rs =>
          simp only [hc] at h3
          obtain ⟨vs, hv, hz, hrs⟩ := hr
          cases ej : ixN rs.length j with
          | none => simp only [ej] at h3; exact h3.elim
          | some i =>
            simp only [ej] at h3
            cases (show yv = .int j from ry)
            refine ⟨w3.p k, vs, j, i, eu, rfl, hv, by rw [← hrs.length]; exact ej, ?_⟩
            exact h3 (w3.put k (.lst (vs.set i vv))) () (ext_put s3 hk) (put_lst s3 hk (by rw [List.length_set]; exact hz) (Rels.set rv i hrs)) trivial
      | _ => exact h3.elim
/-! ### fields -/
theorem putN_rel {K : PySem.W.Frag} {w : Wd} {f : Str} {v : R} {y : V} (hv : Rel K w v y) : ∀ {ns : List Str} {rs : List R} {fs : List (Str × V)}, fs.map (·.1) = ns → Rels K w rs (fs.map (·.2)) →
    (putF f y fs).map (·.1) = (putN f v ns rs).1 ∧ Rels K w (putN f v ns rs).2 ((putF f y fs).map (·.2))
  | [], [], fs, h, r => by
    cases fs with
    | nil => exact ⟨rfl, .one hv⟩
    | cons q fs => cases h
  | [], x :: rs, fs, h, r => by
    cases fs with
    | nil =>
      obtain ⟨_, _, e, _⟩ := r
      cases e
    | cons q fs => cases h
  | n :: ns, [], fs, h, r => by
    cases fs with
    | nil => cases h
    | cons q fs =>
      have r' : (q :: fs).map (·.2) = [] := r
      cases r'
  | n :: ns, x :: rs, fs, h, r => by
    cases fs with
    | nil => cases h
    | cons q fs =>
      obtain ⟨g, z⟩ := q
      rw [List.map_cons] at h r
      injection h with h1 h2
      obtain ⟨v', u, e3, r1, r2⟩ := r
      injection e3 with e4 e5
      subst h1 e4 e5
      obtain ⟨i1, i2⟩ := putN_rel hv (ns := ns) (rs := rs) (fs := fs) h2 r2
      show (List.map (·.1) (if g = f then (g, y) :: fs else (g, z) :: putF f y fs)) = (if g = f then (g :: ns, v :: rs) else (g :: (putN f v ns rs).1, x :: (putN f v ns rs).2)).1 ∧ Rels K w (if g = f then (g :: ns, v :: rs) else (g :: (putN f v ns rs).1, x :: (putN f v ns rs).2)).2 (List.map (·.2) (if g = f then (g, y) :: fs else (g, z) :: putF f y fs))
      by_cases q : g = f
      · rw [if_pos q, if_pos q]
        exact ⟨by rw [List.map_cons, h2], y, _, rfl, hv, r2⟩
      · rw [if_neg q, if_neg q]
        exact ⟨by rw [List.map_cons, i1], z, _, rfl, r1, i2⟩
theorem s_setAt {c fn : Str} (hx : xr.Ok) (cl : Cls X.K (He.ga X.K c)) (na : NoAttr X.K (He.ga X.K c) fn) (hs : swapsWith e (some (.Attribute o fn ps)) pos.line X.env = pure false) (he : EOk X xr W e m) (ho : EOk X xr W o mo) :
    SOk X xr W (.Assign [.Attribute o fn ps] e pos) (fun ρ S => SRes.of ρ ((M.bind (m ρ) fun v => M.bind (mo ρ) fun x => setAtR x c fn v) S) fun _ S1 => .go .next ρ S1) := by
  obtain ⟨t, p, q⟩ := he
  obtain ⟨to, po, qo⟩ := ho
  refine ⟨_, ps_fld po p hs, fun σ w S ρ D er sr h => ?_⟩
  have h : Hop X.K (fun _ (_ : Unit) (_ : Unit) => True) (WE W σ) w (fun _ H => D.nx σ H) ((M.bind (m ρ) fun v => M.bind (mo ρ) fun x => setAtR x c fn v) S) := hopS_of hx er h fun w1 r v S1 x s rr h1 => h1 w1 σ (Ext.refl _) s (er.ext hx x)
  refine q σ w S ρ _ er sr (h.bind fun w1 v vv S1 e1 s1 rv h1 => qo σ w1 S1 ρ _ (er.ext hx e1) s1 (h1.bind fun w2 x xv S2 e2 s2 rx h2 => ?_))
  have rv := rv.ext e2
  unfold setAtR at h2
  cases x with
  | dat d => exact h2.elim
  | exc c ns l => exact h2.elim
  | own k =>
    obtain ⟨hk, eu⟩ := rx
    obtain ⟨cc, hc, hr⟩ := s2.get hk
    cases cc with
    | lst rs => simp only [hc] at h2; exact h2.elim
    | tup rs => simp only [hc] at h2; exact h2.elim
    | obj c' ns rs =>
      simp only [hc] at h2
      obtain ⟨dx, fs, hv, hn, hrs⟩ := hr
      by_cases z : c' = c ∧ ns.length < 900
      · rw [if_pos z] at h2
        obtain ⟨z1, z2⟩ := z
        subst z1
        refine ⟨w2.p k, _, dx, fs, eu, hv, cl, na, ?_, ?_⟩
        · have l := congrArg List.length hn
          rw [List.length_map] at l
          omega
        · have x3 := ext_put (o := .ins (He.ga X.K c') dx (putF fn vv fs)) s2 hk
          obtain ⟨i1, i2⟩ := putN_rel (rv.ext x3) (ns := ns) (rs := rs) (fs := fs) hn (hrs.ext x3)
          exact h2 (w2.put k (.ins (He.ga X.K c') dx (putF fn vv fs))) () x3 (s2.put hk ⟨dx, _, upd_same, i1, i2⟩) trivial
      · rw [if_neg z] at h2
        exact h2.elim
end
end MP
set_option Elab.async false
set_option linter.all false
set_option maxRecDepth 100000
set_option maxHeartbeats 4000000
/-! MPStmt2: for, try. -/
namespace MP
open PySem PySem.Spec PyProof.Rows L2
section
variable {X : Cx} {xr : XR} {W : WX} {e o iter tg : Expr} {st : Stmt} {sts body a b : List Stmt} {f g : MP.Env → Store → SRes} {mi : MP.Env → M (List Itm × Gd)} {pos p' ps : Pos} {t : IT}
theorem s_for (hx : xr.Ok) (hp : PassesOwn (model X.prog X.w) X.A X.env X.xe) (hc : X.calm = true) (hN : X.N.Nodup) (ht : ITOk X t) (hs : ∀ x, foldedSetIterable iter X.env x = pure x) (hi : IOk X xr W t.e iter mi) (hb : SsOk X xr W body f) :
    SOk X xr W (.For t.e iter body [] pos) (fun ρ S => SRes.of ρ (mi ρ S) fun q S1 => forL t q.2 f q.1 ρ S1) := by
  obtain ⟨ti, pi, qi⟩ := hi
  obtain ⟨tb, pb, qb⟩ := hb
  refine ⟨_, ps_for hp hc pi (pg_T hN t ht) pb hs, fun σ w S ρ D er sr h => qi σ w S ρ _ er sr (hopS_of hx er h fun w1 a J S1 x1 s1 wk h1 => ?_)⟩
  obtain ⟨xs, gd⟩ := a
  obtain ⟨G, Y, hw, hG, hY⟩ := wk
  dsimp only at h1 hw hG hY
  refine for_it hw (fun i σ' H => ∃ w2 S2 ρ2, w2.H = H ∧ Ext w1 w2 ∧ SR X.K w2 S2 ∧ EnvR X.K xr w2 σ' ρ2 ∧ HopS X.K xr W w1 D (forL t gd f (xs.drop i) ρ2 S2)) ⟨w1, S1, ρ, rfl, Ext.refl _, s1, er.ext hx x1, h1⟩ ?_ ?_ ?_
  · intro i σ' H hi ⟨w2, S2, ρ2, eH, x2, s2, er2, h2⟩
    subst eH
    refine hG w2 S2 x2.mono s2 ?_
    by_cases z : gdOk S2 gd = true
    · exact z
    · exfalso
      by_cases hlt : i < xs.length
      · rw [List.drop_eq_getElem_cons hlt] at h2
        unfold forL at h2
        rw [if_neg z] at h2
        exact h2
      · rw [List.drop_eq_nil_of_le (by omega)] at h2
        unfold forL at h2
        rw [if_neg z] at h2
        exact h2
  · intro i v σ' H H' hi ⟨w2, S2, ρ2, eH, x2, s2, er2, h2⟩ hy
    subst eH
    rw [List.drop_eq_getElem_cons hi] at h2
    unfold forL at h2
    by_cases z : gdOk S2 gd = true
    · rw [if_pos z] at h2
      obtain ⟨w3, eH, x3, s3, it⟩ := hY i xs[i] v H' w2 S2 x2.mono s2 z (List.getElem?_eq_getElem hi) hy
      subst eH
      cases eb : bindT t xs[i] ρ2 S2 with
      | none => simp only [eb] at h2; exact h2.elim
      | some ρ' =>
        simp only [eb] at h2
        refine g_ok eb (er2.ext hx x3) s3 it fun σ3 er3 _ => qb σ3 w3 S2 ρ' _ er3 s3 ?_
        have x13 := x2.trans x3
        match hf : f ρ' S2 with
        | .go .next ρ4 S4 =>
          rw [hf] at h2
          exact fun w' σ4 x4 s4 er4 => ⟨w', S4, ρ4, rfl, x13.trans x4, s4, er4, h2⟩
        | .go .cont ρ4 S4 =>
          rw [hf] at h2
          exact fun w' σ4 x4 s4 er4 => ⟨w', S4, ρ4, rfl, x13.trans x4, s4, er4, h2⟩
        | .go .brk ρ4 S4 =>
          rw [hf] at h2
          exact fun w' σ4 x4 s4 er4 => h2 w' σ4 (x13.trans x4) s4 er4
        | .go (.ret q) ρ4 S4 =>
          rw [hf] at h2
          exact fun w' v4 x4 s4 r4 => h2 w' v4 (x13.trans x4) s4 r4
        | .exc c ns l ρ4 S4 =>
          rw [hf] at h2
          exact fun w' σ4 d x4 s4 er4 hd => h2 w' σ4 d (x13.trans x4) s4 er4 hd
        | .stuck =>
          rw [hf] at h2
          exact h2
    · rw [if_neg z] at h2
      exact h2.elim
  · intro σ' H ⟨w2, S2, ρ2, eH, x2, s2, er2, h2⟩
    subst eH
    rw [List.drop_eq_nil_of_le (Nat.le_refl _)] at h2
    unfold forL at h2
    by_cases z : gdOk S2 gd = true
    · rw [if_pos z] at h2
      exact h2 w2 σ' x2 s2 er2
    · rw [if_neg z] at h2
      exact h2.elim
end
/-! ### try -/
/-- what the suite knows of the exception -/
def xrS (K : PySem.W.Frag) (a : Addr) (cls : Value) (d : Option Addr) : XR := fun w c ns l v => v = .ref a ∧ cls = .ref (He.ga K c) ∧ ExcD K w ns l d
theorem xrS_ok {K : PySem.W.Frag} {a : Addr} {cls : Value} {d : Option Addr} : (xrS K a cls d).Ok := fun w w' c ns l v x h => ⟨h.1, h.2.1, h.2.2.mono x⟩
abbrev xr0 : XR := fun _ _ _ _ _ => False
theorem xr0_ok : XR.Ok xr0 := fun _ _ _ _ _ _ _ h => h
theorem EnvR.xr {K : PySem.W.Frag} {xr : XR} {w : Wd} {σ : L2.St} {ρ : MP.Env} (e : EnvR K xr0 w σ ρ) : EnvR K xr w σ ρ :=
  ⟨e.len, fun i r h => by
    obtain ⟨v, h1, h2⟩ := e.get i r h
    refine ⟨v, h1, ?_⟩
    cases r with
    | dat d => exact h2
    | own k => exact h2
    | exc c ns l => exact h2.elim⟩
theorem EnvR.drop {K : PySem.W.Frag} {xr : XR} {w : Wd} {σ : L2.St} {ρ : MP.Env} (e : EnvR K xr w σ ρ) : EnvR K xr0 w σ (dropX ρ) :=
  ⟨by unfold dropX; rw [List.length_map]; exact e.len, fun i r h => by
    unfold dropX at h
    rw [List.getElem?_map] at h
    cases e1 : ρ[i]? with
    | none => rw [e1] at h; cases h
    | some o =>
      rw [e1] at h
      cases o with
      | none => cases h
      | some q =>
        obtain ⟨v, h1, h2⟩ := e.get i q e1
        cases q with
        | dat d => cases h; exact ⟨v, h1, h2⟩
        | own k => cases h; exact ⟨v, h1, h2⟩
        | exc c ns l => cases h⟩
section
variable {X : Cx} {x n : Str} {c : Value} {i : Nat} {body suite : List Stmt} {b₀ : Stmt} {np pos pos' : Pos} {tb : WX → TS} {ts : Addr → Value → Option Addr → TS} {hds : List ExceptHandler}
/-- what the first clause wishes: the others are never asked -/
def wAs1 (K : PySem.W.Frag) (c : Value) (i : Nat) (ts : Addr → Value → Option Addr → TS) (D : Ends) : WX := fun cls d σ H =>
  PySem.W.exmOne K cls c = some true ∧ ∀ a, H a = none → ts a cls d { nx := fun σ' H' => D.nx (σ'.set i none) H', rt := D.rt, bk := fun σ' H' => D.bk (σ'.set i none) H', ct := fun σ' H' => D.ct (σ'.set i none) H' } (σ.set i (some (.ref a))) H
theorem ps_try1 (hs : X.stack = X.env :: X.outer) (hf : X.env.frame = some X.env.locals) (hN : X.N.Nodup) (hi : X.N[i]? = some n) (hln : X.env.kindOf n = some .local) (hc : Names X x c)
    (hb : ∀ (W : WX) (pn : List (Addr × Obj)) (xe : Value → Shared → Prop), L2N.Takes (X.tr pn xe) W → PassesOwn (model X.prog X.w) X.A X.env xe → PSs (X.tr pn xe) body (tb W))
    (hsu : ∀ (a : Addr) (oe : Obj) (cls : Value) (d : Option Addr) (pn : List (Addr × Obj)), L2N.Zn cls d oe → (∃ vs, oe.data = .fields vs) → PSs (X.suite a ((a, oe) :: pn)) (b₀ :: suite) (ts a cls d)) :
    PS X (.Try body (.ExceptHandler (some (.Name x np)) (some n) (b₀ :: suite) pos' :: hds) [] [] pos) (fun D σ H => tb (wAs1 X.K c i ts D) D σ H) := by
  refine ⟨fun pins s σ H D I h => ?_⟩
  have ok := I.ok
  have hfr : X.A.frames = some (X.env :: X.outer) := by rw [ok.frames, hs]
  refine wpAny_Try_except ?_
  refine wpAny_mono ((hb (wAs1 X.K c i ts D) (X.pn ++ pins) (fun e s₁ => wpAny (model X.prog X.w) X.A (noteFrame e X.env) (fun _ s₂ => wpAny (model X.prog X.w) X.A (setFlight e none) (fun _ s₃ =>
    wpAny (model X.prog X.w) X.A (handleBy e X.env (.ExceptHandler (some (.Name x np)) (some n) (b₀ :: suite) pos' :: hds)) (SP X pins D) X.xe s₃) X.xe s₂) X.xe s₁) (fun u s' xx => ?_) PassesOwn.looking).run [] s σ H D (I.toTry _) h) (fun f s1 hsp => ?_) (fun e s1 he => he)
  · obtain ⟨a, B, sI, pins', σ', H', cls, d, rfl, J', nb, up, sky, na, os, ag, hb1, hyes⟩ := xx
    have J : Inv X pins σ' H' sI := J'.ofTry ok
    have sky' : Sky B (X.env :: X.outer) a (L2N.Zn cls d) X.env.locals s'.heap := by rw [← hs]; exact sky
    show wpAny (model X.prog X.w) X.A (noteFrame (.ref a) X.env) _ _ _
    refine L2N.Sky.land L2N.Zn.steady hfr hf sky' fun h3 fl3 up3 => ?_
    have J3 : Inv X pins σ' H' { s' with heap := h3 } := J.landed nb fl3.1 (up.trans up3) os ag
    obtain ⟨oe3, vs3, he3, hz3, hd3⟩ := fl3.there
    have nfr : a ∉ frs (X.env :: X.outer) := fun hm => by
      obtain ⟨_, o', e', hnf⟩ := fl3.2.2.1.mem hm
      rw [he3] at e'
      cases e'
      exact hnf _ hd3
    have nL : a ≠ X.env.locals := fun z => nfr (List.mem_filterMap.mpr ⟨X.env, List.mem_cons_self, by rw [hf, z]⟩)
    have nF : a ∉ X.fs := fun hm => by
      obtain ⟨e, he, q⟩ := List.mem_filterMap.mp hm
      exact nfr (List.mem_filterMap.mpr ⟨e, List.mem_cons_of_mem _ he, q⟩)
    have S3 := J3.suite he3 hd3 na nL nF
    refine wpAny_handleBy_cons (codeAny_handlers_test ?_) (by intro q; cases q)
    have LT : PySem.W.Looks (model X.prog X.w) h3 (typeOf (.ref a)) cls := fun A Q E s k q => wpAny_typeOf_ref (k _ _ he3) (by rw [hz3.1]; exact q)
    have LM := PySem.W.exm_one (M := model X.prog X.w) (J3.kIn) LT hb1
    have test : ∀ {Q : Value → Shared → Prop} {E : Value → Shared → Prop}, Q c { s' with heap := h3 } → wpAny (model X.prog X.w) (X.A.mark (some (.ref a))) (eval (.Name x np) X.env) Q E { s' with heap := h3 } := fun {Q E} q => by
      obtain ⟨hg, hdbg, hm | ⟨hm, hv, hnn⟩⟩ := hc
      · exact ld_glob (X := X.suite a ((a, oe3) :: (X.pn ++ pins))) S3 hg hm q hdbg
      · exact ld_blt (X := X.suite a ((a, oe3) :: (X.pn ++ pins))) S3 hg hm hv q hnn hdbg
    refine test (LM.here ?_)
    refine codeAny_handlers_suite_as ?_
    refine HandSPX.lands_againZ fl3 fun h4 fl4 up4 => ?_
    have J4 : Inv X pins σ' H' { s' with heap := h4 } := J.landed nb fl4.1 ((up.trans up3).trans up4) os ag
    obtain ⟨oe4, vs4, he4, hz4, hd4⟩ := fl4.there
    have S4 := J4.suite he4 hd4 na nL nF
    refine store_ok (X := X.suite a ((a, oe4) :: (X.pn ++ pins))) (v := .ref a) S4 hN hi (.inl hln) rfl (fun s5 S5 => ?_) (.inr hln)
    refine wpAny_mono ((hsu a oe4 cls d (X.pn ++ pins) hz4 ⟨_, hd4⟩).run [] s5 _ H' _ S5 (hyes a na)) (fun f s6 hsp => ?_) (fun _ _ z => False.elim z)
    have fin : ∀ {σ6 : L2.St} {H6 : Hp} {Q : Shared → Prop}, Inv (X.suite a ((a, oe4) :: (X.pn ++ pins))) [] σ6 H6 s6 → (∀ s7, Inv X pins (σ6.set i none) H6 s7 → Q s7) →
        wpAny (model X.prog X.w) X.A (do bindName X.env n .none; unbindBehindTheSuite X.env n pos') (fun _ s7 => Q s7) X.xe s6 := fun {σ6 H6 Q} S6 hq => gone_ok (S6.unsuite ok) hN hi hln hq
    match f, hsp with
    | .next, ⟨σ6, H6, S6, q6⟩ => exact fin S6 fun s7 J7 => ⟨_, _, J7, q6⟩
    | .brk, ⟨σ6, H6, S6, q6⟩ => exact fin S6 fun s7 J7 => ⟨_, _, J7, q6⟩
    | .cont, ⟨σ6, H6, S6, q6⟩ => exact fin S6 fun s7 J7 => ⟨_, _, J7, q6⟩
    | .ret u, ⟨v6, σ6, H6, S6, r6, q6⟩ => exact fin S6 fun s7 J7 => ⟨_, _, _, J7, r6, q6⟩
  · match f, hsp with
    | .next, ⟨σ', H', J', q⟩ => exact wpAny_execs_nil ⟨σ', H', J'.ofTry ok, q⟩
    | .brk, ⟨σ', H', J', q⟩ => exact ⟨σ', H', J'.ofTry ok, q⟩
    | .cont, ⟨σ', H', J', q⟩ => exact ⟨σ', H', J'.ofTry ok, q⟩
    | .ret u, ⟨v, σ', H', J', r, q⟩ => exact ⟨v, σ', H', J'.ofTry ok, r, q⟩
/-- what is known of two classes -/
def SubE (K : PySem.W.Frag) (sub : Str → Str → Option Bool) : Prop := ∀ c' c, sub c' c = some true → PySem.W.exmOne K (.ref (He.ga K c')) (.ref (He.ga K c)) = some true
variable {W : WX} {cn : Str} {sub : Str → Str → Option Bool} {f g : MP.Env → Store → SRes}
theorem s_try (hs : X.stack = X.env :: X.outer) (hf : X.env.frame = some X.env.locals) (hN : X.N.Nodup) (hi : X.N[i]? = some n) (hln : X.env.kindOf n = some .local) (hc : Names X x (.ref (He.ga X.K x))) (hsub : SubE X.K sub)
    (hb : ∀ (W : WX) (pn : List (Addr × Obj)) (xe : Value → Shared → Prop), L2N.Takes (X.tr pn xe) W → PassesOwn (model X.prog X.w) X.A X.env xe → SsOk (X.tr pn xe) xr0 W body f)
    (hsu : ∀ (a : Addr) (oe : Obj) (cls : Value) (d : Option Addr) (pn : List (Addr × Obj)), L2N.Zn cls d oe → (∃ vs, oe.data = .fields vs) → SsOk (X.suite a ((a, oe) :: pn)) (xrS X.K a cls d) W0 (b₀ :: suite) g) :
    SOk X xr0 W (.Try body (.ExceptHandler (some (.Name x np)) (some n) (b₀ :: suite) pos' :: hds) [] [] pos) (fun ρ S => match f ρ S with
      | .exc c' ns l ρ1 S1 => (match sub c' x with
        | some true => (match g (ρ1.set i (some (.exc c' ns l))) S1 with
          | .go f ρ2 S2 => .go f ((dropX ρ2).set i none) S2
          | _ => .stuck)
        | _ => .stuck)
      | r => r) := by
  refine ⟨_, ps_try1 (tb := fun W => rdS X.K xr0 W f) (ts := fun a cls d => rdS X.K (xrS X.K a cls d) W0 g) (hds := hds) hs hf hN hi hln hc (fun W pn xe h1 h2 => (hb W pn xe h1 h2).rd) (fun a oe cls d pn h1 h2 => (hsu a oe cls d pn h1 h2).rd), fun σ w S ρ D er sr h => ?_⟩
  refine ⟨w, S, ρ, rfl, er, sr, ?_⟩
  dsimp only at h
  match hf : f ρ S with
  | .go .next ρ1 S1 => rw [hf] at h; exact h
  | .go .brk ρ1 S1 => rw [hf] at h; exact h
  | .go .cont ρ1 S1 => rw [hf] at h; exact h
  | .go (.ret q) ρ1 S1 => rw [hf] at h; exact h
  | .stuck => rw [hf] at h; exact h
  | .exc c' ns l ρ1 S1 =>
    rw [hf] at h
    dsimp only at h
    intro w1 σ1 d x1 s1 er1 hd
    cases es : sub c' x with
    | none => simp only [es] at h; exact h.elim
    | some b =>
      cases b with
      | false => simp only [es] at h; exact h.elim
      | true =>
        simp only [es] at h
        refine ⟨hsub _ _ es, fun a ha => ⟨w1, S1, ρ1.set i (some (.exc c' ns l)), rfl, (er1.xr (xr := xrS X.K a (.ref (He.ga X.K c')) d)).set (show RelX X.K _ w1 (.exc c' ns l) (.ref a) from ⟨rfl, rfl, hd⟩), s1, ?_⟩⟩
        have back : ∀ {w' : Wd} {σ' : L2.St} {ρ2 : MP.Env}, EnvR X.K (xrS X.K a (.ref (He.ga X.K c')) d) w' σ' ρ2 → EnvR X.K xr0 w' (σ'.set i none) ((dropX ρ2).set i none) := fun e => e.drop.unset
        match hg : g (ρ1.set i (some (.exc c' ns l))) S1 with
        | .go .next ρ2 S2 => rw [hg] at h; exact fun w' σ' x' s' e' => h w' _ (x1.trans x') s' (back e')
        | .go .brk ρ2 S2 => rw [hg] at h; exact fun w' σ' x' s' e' => h w' _ (x1.trans x') s' (back e')
        | .go .cont ρ2 S2 => rw [hg] at h; exact fun w' σ' x' s' e' => h w' _ (x1.trans x') s' (back e')
        | .go (.ret q) ρ2 S2 => rw [hg] at h; exact fun w' v x' s' e' => h w' v (x1.trans x') s' e'
        | .exc c2 ns2 l2 ρ2 S2 => rw [hg] at h; exact h.elim
        | .stuck => rw [hg] at h; exact h.elim
end
end MP
set_option Elab.async false
set_option linter.all false
set_option maxRecDepth 100000
set_option maxHeartbeats 4000000
/-! MPRaise: raise of own exceptions with fields. -/
namespace MP
open PySem PySem.Spec PyProof.Rows L2
def Flds (fs : List Str) (ys : List V) (k : Nat) (gs : List (Str × V)) : Prop := gs.length = k ∧ ∀ i f y, i < k → fs[i]? = some f → ys[i]? = some y → gs.lookup f = some y
/-- the module's own _kept: a number comes back as it is -/
def spK : Sp := fun vs H Q _ => ∃ i : Int, vs = [.int i] ∧ Q (.int i) H
theorem kept_fn {P : Program} {w : World} {K : PySem.W.Frag} {mg : Str → Option Value} {base : Heap} {x qual : Str} {params : Arguments} {scope : Scope} {f : Addr} {fd : FuncData} {N : List Str} {er : List Stmt} {p1 p2 p3 p4 p5 p6 p7 : Pos}
    (F : FunD K x qual params [.If (.Call (.Name "isinstance" p1) [.Name "value" p2, .Name "list" p3] [] p4) er [] p5, .Return (some (.Name "value" p6)) p7] scope [] [] f fd) (S : FnScope N ["value"] scope) (hN : N[0]? = some ("value" : Str)) (v0 : scope.names.lookup ("value" : Str) = some .local)
    (gi : scope.names.lookup ("isinstance" : Str) = some .globalImplicit) (gl : scope.names.lookup ("list" : Str) = some .globalImplicit) (mi : mg "isinstance" = none) (ml : mg "list" = none) : FnOk P w K mg base (L2N.CX P w) 1 f fd ["value"] spK := by
  refine F.ok S (fun vs H Q E h => ?_) fun cdv A outer s H vs Q E room h => ?_
  · obtain ⟨i, rfl, _⟩ := h
    rfl
  · obtain ⟨i, rfl, q⟩ := h
    have pv : ∀ p, PE (cxOf (L2N.CX P w) P w K mg base N qual scope f cdv A outer s H E) (.Name "value" p) (tVar 0) := fun p => pe_var hN (.inl v0)
    refine ⟨_, pss_cons (ps_if (pt_val (pe_callB call_isi gi mi (by first | rfl | decide +kernel) (pa_cons (pv _) (pa_cons (pe_bltn gl ml (by first | rfl | decide +kernel) (v := .ty "list") rfl (by decide) (by decide)) pa_nil)))) pss_never pss_nil) (pss_cons (ps_ret (pv _)) pss_nil), ?_⟩
    refine ⟨.int i, rfl, ?_⟩
    refine ⟨.int i, .ty "list", _, _, _, rfl, .ty "list", .base (.int i), isTy_ok .int .list, ?_⟩
    exact ⟨false, rfl, .int i, rfl, q⟩
/-- what a raise knows of it -/
structure KeptF (P : Program) (w : World) (K : PySem.W.Frag) (mg : Str → Option Value) (base : Heap) : Prop where
  ex : ∃ kf fd, mg "_kept" = some (.ref kf) ∧ PySem.W.keepIn K (.ref kf) = true ∧ FnOk P w K mg base (L2N.CX P w) 1 kf fd ["value"] spK ∧ Binds K fd ["value"] []
/-- the promise of such an __init__ -/
def spO (C : Addr) (fs : List Str) (kp : Nat → Bool) : Sp := fun vs H Q E => ∃ a ys, vs = .ref a :: ys ∧ ys.length = fs.length ∧ fs ≠ [] ∧ (∀ (i : Nat) y, kp i = true → ys[i]? = some y → ∃ n : Int, y = .int n) ∧ H a = some (exo a C none) ∧
  ∀ d H2 gs, H d = none → d ≠ a → H2 a = some (exo a C (some d)) → H2 d = some (exd d gs) → Flds fs ys fs.length gs → (∀ b, b ≠ a → b ≠ d → H2 b = H b) → Q .non H2
/-- what a field is set to: the parameter, or it by way of _kept -/
inductive ValE (f : Str) : Bool → Expr → Prop
  | name {p : Pos} : ValE f false (.Name f p)
  | kept {p5 p3 p6 : Pos} : ValE f true (.Call (.Name "_kept" p5) [.Name f p3] [] p6)
theorem ValE.swap {f : Str} {b : Bool} {ev : Expr} (v : ValE f b ev) (t : Option Expr) (line : Nat) (env : PySem.Env) : swapsWith ev t line env = pure false := by
  cases v <;> rfl
/-- self.f = f, .. from the k-th on -/
inductive InitB (s : Str) (fs : List Str) (kp : Nat → Bool) : Nat → List Stmt → Prop
  | nil {k : Nat} (h : k = fs.length) : InitB s fs kp k []
  | cons {k : Nat} {f : Str} {p1 p2 p4 : Pos} {ev : Expr} {r : List Stmt} (h : fs[k]? = some f) (hv : ValE f (kp k) ev) (hr : InitB s fs kp (k + 1) r) : InitB s fs kp k (.Assign [.Attribute (.Name s p1) f p2] ev p4 :: r)
theorem flds_put {fs : List Str} {ys : List V} {k : Nat} {gs : List (Str × V)} {f : Str} {y : V} (nd : fs.Nodup) (h : Flds fs ys k gs) (hf : fs[k]? = some f) (hy : ys[k]? = some y) : Flds fs ys (k + 1) ((f, y) :: gs) := by
  refine ⟨by rw [List.length_cons, h.1], fun i g z hi hg hz => ?_⟩
  rw [lookup_put]
  by_cases q : i = k
  · subst q
    rw [hf] at hg
    rw [hy] at hz
    cases hg
    cases hz
    rw [if_pos rfl]
  · have ne : g ≠ f := fun e => q (by
      subst e
      exact (List.getElem?_inj (List.getElem?_eq_some_iff.mp hg).1 nd).mp (hg.trans hf.symm))
    rw [if_neg ne]
    exact h.2 i g z (by omega) hg hz
section
variable {X : Cx} {C : Addr} {fs : List Str} {s : Str} {kp : Nat → Bool}
theorem val_ok {k : Nat} {f : Str} {b : Bool} {ev : Expr} (hN : X.N[k + 1]? = some f) (hv : Vis X.env.scope f ∧ (f == ("__debug__" : Str)) = false ∧ (f == ("__classdict__" : Str)) = false)
    (hk : b = true → KeptF X.prog X.w X.K X.mg X.base ∧ Gl X "_kept" ∧ Room 1 X.A ∧ Passes (L2N.CX X.prog X.w) X fun _ _ _ => False) (v : ValE f b ev) :
    (∃ t, PE X ev t ∧ ∀ σ H Q y, σ[k + 1]? = some (some y) → (b = true → ∃ n : Int, y = .int n) → Q y H → t σ H Q) := by
  cases v with
  | @name p => exact ⟨_, pe_var hN hv.1 hv.2.1 hv.2.2, fun σ H Q y e _ q => ⟨y, e, q⟩⟩
  | @kept p5 p3 p6 =>
    obtain ⟨⟨kf, fd, hm, hkp, F, hb⟩, hg, hr, hp⟩ := hk rfl
    refine ⟨_, pe_call (E := fun _ _ _ => False) F hr hg hm hkp hb .nil hp (pa_cons (pe_var hN hv.1 hv.2.1 hv.2.2) pa_nil) (by decide), fun σ H Q y e h q => ?_⟩
    obtain ⟨n, rfl⟩ := h rfl
    exact ⟨.int n, e, n, rfl, q⟩
/-- behind the first field -/
def tRest (C : Addr) (fs : List Str) (kp : Nat → Bool) (k : Nat) : TS := fun D σ H => ∃ a d ys gs, σ = some (.ref a) :: ys.map some ∧ ys.length = fs.length ∧ (∀ (i : Nat) y, kp i = true → ys[i]? = some y → ∃ n : Int, y = .int n) ∧ d ≠ a ∧ H a = some (exo a C (some d)) ∧ H d = some (exd d gs) ∧ Flds fs ys k gs ∧
  ∀ H2 gs2, H2 a = some (exo a C (some d)) → H2 d = some (exd d gs2) → Flds fs ys fs.length gs2 → (∀ b, b ≠ a → b ≠ d → H2 b = H b) → D.nx σ H2
theorem init_rest (hN : X.N = s :: fs) (T : OexC X.K C) (nd : fs.Nodup) (hl : fs.length ≤ 900) (hv : ∀ x ∈ X.N, Vis X.env.scope x ∧ (x == ("__debug__" : Str)) = false ∧ (x == ("__classdict__" : Str)) = false) (hno : ∀ f ∈ fs, PySem.W.findIn X.K (.ref C) f = some none)
    (hk : ∀ i, kp i = true → KeptF X.prog X.w X.K X.mg X.base ∧ Gl X "_kept" ∧ Room 1 X.A ∧ Passes (L2N.CX X.prog X.w) X fun _ _ _ => False) :
    ∀ {body : List Stmt} {k : Nat}, InitB s fs kp k body → PSs X body (tRest C fs kp k)
  | _, k, .nil h => by
    refine ⟨fun pins st σ H D I ⟨a, d, ys, gs, e, l, hki, hda, ha, hd, hf, q⟩ => pss_nil.run pins st σ H D I ?_⟩
    subst h
    exact q H gs ha hd hf fun _ _ _ => rfl
  | _, k, .cons (f := f) (p1 := p1) (p2 := p2) (p4 := p4) (r := r) h hve hr => by
    have ih := init_rest hN T nd hl hv hno hk hr
    have h0 : X.N[0]? = some s := by rw [hN]; rfl
    have h1 : X.N[k + 1]? = some f := by rw [hN]; exact h
    have v0 := hv s (List.mem_of_getElem? h0)
    have v1 := hv f (List.mem_of_getElem? h1)
    obtain ⟨t, pt, qt⟩ := val_ok h1 v1 (hk k) hve
    have ps := ps_ost (X := X) (f := f) (p' := p2) (pos := p4) (pe_var (pos := p1) h0 v0.1 v0.2.1 v0.2.2) pt (hve.swap _ _ _)
    refine ⟨fun pins st σ H D I ⟨a, d, ys, gs, e, l, hki, hda, ha, hd, hf, q⟩ => (pss_cons ps ih).run pins st σ H D I ?_⟩
    have hk : k < ys.length := by rw [l]; exact (List.getElem?_eq_some_iff.mp h).1
    have hy : ys[k]? = some ys[k] := List.getElem?_eq_getElem hk
    have eσ : σ[k + 1]? = some (some ys[k]) := by
      rw [e, List.getElem?_cons_succ, List.getElem?_map, hy]
      rfl
    refine qt σ H _ ys[k] eσ (fun b => hki k ys[k] b hy) ⟨.ref a, by rw [e]; rfl, a, C, rfl, T, hno f (List.mem_of_getElem? h), .inr ⟨d, gs, ha, hd, ?_, ?_⟩⟩
    · rw [hf.1]
      have : k < fs.length := (List.getElem?_eq_some_iff.mp h).1
      omega
    · refine ⟨a, d, ys, _, e, l, hki, hda, by rw [upd_ne (Ne.symm hda)]; exact ha, upd_same, flds_put nd hf h hy, fun H2 gs2 h1 h2 h3 h4 => q H2 gs2 h1 h2 h3 fun b hb hb2 => ?_⟩
      rw [h4 b hb hb2, upd_ne hb2]
theorem init_all (hN : X.N = s :: fs) (T : OexC X.K C) (nd : fs.Nodup) (hl : fs.length ≤ 900) (hv : ∀ x ∈ X.N, Vis X.env.scope x ∧ (x == ("__debug__" : Str)) = false ∧ (x == ("__classdict__" : Str)) = false) (hno : ∀ f ∈ fs, PySem.W.findIn X.K (.ref C) f = some none)
    (hk : ∀ i, kp i = true → KeptF X.prog X.w X.K X.mg X.base ∧ Gl X "_kept" ∧ Room 1 X.A ∧ Passes (L2N.CX X.prog X.w) X fun _ _ _ => False)
    {body : List Stmt} (hb : InitB s fs kp 0 body) (hne : fs ≠ []) : PSs X body (fun D σ H => ∃ a ys, σ = some (.ref a) :: ys.map some ∧ ys.length = fs.length ∧ (∀ (i : Nat) y, kp i = true → ys[i]? = some y → ∃ n : Int, y = .int n) ∧ H a = some (exo a C none) ∧
      ∀ d H2 gs, H d = none → d ≠ a → H2 a = some (exo a C (some d)) → H2 d = some (exd d gs) → Flds fs ys fs.length gs → (∀ b, b ≠ a → b ≠ d → H2 b = H b) → D.nx σ H2) := by
  cases hb with
  | nil h => exact absurd (List.length_eq_zero_iff.mp h.symm) hne
  | @cons _ f p1 p2 p4 ev r h hve hr =>
    have ih := init_rest hN T nd hl hv hno hk hr
    have h0 : X.N[0]? = some s := by rw [hN]; rfl
    have h1 : X.N[0 + 1]? = some f := by rw [hN]; exact h
    have v0 := hv s (List.mem_of_getElem? h0)
    have v1 := hv f (List.mem_of_getElem? h1)
    obtain ⟨t, pt, qt⟩ := val_ok h1 v1 (hk 0) hve
    have ps := ps_ost (X := X) (f := f) (p' := p2) (pos := p4) (pe_var (pos := p1) h0 v0.1 v0.2.1 v0.2.2) pt (hve.swap _ _ _)
    refine ⟨fun pins st σ H D I ⟨a, ys, e, l, hki, ha, q⟩ => (pss_cons ps ih).run pins st σ H D I ?_⟩
    have hk : 0 < ys.length := by rw [l]; exact (List.getElem?_eq_some_iff.mp h).1
    have hy : ys[0]? = some ys[0] := List.getElem?_eq_getElem hk
    have eσ : σ[0 + 1]? = some (some ys[0]) := by
      rw [e, List.getElem?_cons_succ, List.getElem?_map, hy]
      rfl
    refine qt σ H _ ys[0] eσ (fun b => hki 0 ys[0] b hy) ⟨.ref a, by rw [e]; rfl, a, C, rfl, T, hno f (List.mem_of_getElem? h), .inl ⟨ha, fun d hd hda => ?_⟩⟩
    refine ⟨a, d, ys, _, e, l, hki, hda, upd_same, by rw [upd_ne hda, upd_same], flds_put nd ⟨rfl, fun i f y hi => absurd hi (Nat.not_lt_zero _)⟩ h hy, fun H2 gs2 h1 h2 h3 h4 => q d H2 gs2 hd hda h1 h2 h3 fun b hb hb2 => ?_⟩
    rw [h4 b hb hb2, upd_ne hb, upd_ne hb2]
variable {e : Expr} {es : List Expr} {ta : TA} {k : Nat} {fI : Addr} {fd : FuncData} {ps : List Str} {x : Str} {p pos : Pos}
/-- C(e, ..) as it is raised -/
def tMkF (C : Addr) (fs : List Str) (kp : Nat → Bool) (ta : TA) : St → Hp → XK → Prop := fun σ H Q => ta σ H fun vs H1 => vs.length = fs.length ∧ (∀ (i : Nat) y, kp i = true → vs[i]? = some y → ∃ n : Int, y = .int n) ∧ ∀ d gs, H1 d = none → Flds fs vs fs.length gs → Q (.ref C) (some d) (upd H1 d (.xd gs))
theorem pmk_flds (T : OexC X.K C) (iC : PySem.W.findIn X.K (.ref C) "__init__" = some (some (.ref fI))) (tI : PySem.W.typeIn X.K (.ref fI) = some (.type "function")) (hne : fs ≠ []) (hl : fs.length ≤ 900)
    (F1 : FnOk X.prog X.w X.K X.mg X.base (L2N.CX X.prog X.w) k fI fd ps (spO C fs kp)) (hr : Room (k + 1) X.A) (hb : Binds X.K fd ps []) (hx : Passes (L2N.CX X.prog X.w) X (fun _ _ _ => False)) (hg : Gl X x) (hm : X.mg x = some (.ref C)) (ha : PA X (e :: es) ta)
    (hdb : (x == ("__debug__" : Str)) = false) (he : starEach (e :: es) X.env = (false, eval e X.env) :: starEach es X.env) (hpl : (backTo pos (starEach es X.env)).any (·.1) = false) :
    L2N.PMk X (.Call (.Name x p) (e :: es) [] pos) (tMkF C fs kp ta) := by
  intro pins s σ H Q I h
  obtain ⟨nm, q, N, bs, bm, sn, sub, ab, col, dd, k0, k1, k2, k3, k5, hC, hbm⟩ := T.cls
  refine wpAny_Call_Name_kw (ld_glob I hg hm ?_ hdb)
  refine PySem.W.callWith_K (h₀ := X.base) I.ok.mod.kin T.kC (thn (ha.run pos pins s σ H _ I h) fun us s1 ⟨vs, H1, I1, r1, hz, hki, q1⟩ => ⟨I1.kIn, ?_⟩) he hpl
  show wpAny _ _ (call (.ref C) us) _ _ _
  obtain ⟨hp, g, dr, tk, os⟩ := s1
  have hsz : hp.objs.size ≤ hp.objs.size + 1 := Nat.le_succ _
  have hn : H1 (hp.objs.size + 1) = none := I1.hok.fresh hsz
  have kk : ∀ b o, hp.get? b = some o → ((hp.push (PySem.W.kdv_tup us)).push (PySem.HandSPX.excO C hp.objs.size)).get? b = some o := fun b o e => Heap.get?_push_of_some _ (Heap.get?_push_of_some _ e)
  have hget : ((hp.push (PySem.W.kdv_tup us)).push (PySem.HandSPX.excO C hp.objs.size)).get? (hp.objs.size + 1) = some (PySem.HandSPX.excO C hp.objs.size) := by heap_get
  have I2 : Inv X pins σ (upd H1 (hp.objs.size + 1) (exo (hp.objs.size + 1) C none)) ⟨(hp.push (PySem.W.kdv_tup us)).push (PySem.HandSPX.excO C hp.objs.size), g, dr, tk, os⟩ :=
    I1.laid (t' := tk) (a := hp.objs.size + 1) (o := exo (hp.objs.size + 1) C none) (h' := (hp.push (PySem.W.kdv_tup us)).push (PySem.HandSPX.excO C hp.objs.size)) kk hsz (exo_ok hget)
  have r2 : Vals (V.ref (hp.objs.size + 1) :: vs) (Value.ref (hp.objs.size + 1) :: us) := .cons rfl r1
  have hq : spO C fs kp (V.ref (hp.objs.size + 1) :: vs) (upd H1 (hp.objs.size + 1) (exo (hp.objs.size + 1) C none)) (fun v H2 => v = .non ∧ ∃ d gs, H2 (hp.objs.size + 1) = some (exo (hp.objs.size + 1) C (some d)) ∧ H2 d = some (exd d gs) ∧ H1 d = none ∧ Q (.ref C) (some d) (upd (del H2 (hp.objs.size + 1)) d (.xd gs))) (fun _ _ _ => False) := by
    refine ⟨hp.objs.size + 1, vs, rfl, hz, hne, hki, upd_same, fun d H2 gs hd hda h1 h2 h3 h4 => ⟨rfl, d, gs, h1, h2, ?_, ?_⟩⟩
    · rw [upd_ne hda] at hd
      exact hd
    · rw [upd_ne hda] at hd
      have e : upd (del H2 (hp.objs.size + 1)) d (.xd gs) = upd H1 d (.xd gs) := by
        funext b
        by_cases q1 : b = d
        · rw [q1, upd_same, upd_same]
        · rw [upd_ne q1, upd_ne q1]
          by_cases q2 : b = hp.objs.size + 1
          · rw [q2, del_same]
            exact hn.symm
          · rw [del_ne q2, h4 b q2 q1, upd_ne q2]
      rw [e]
      exact q1 d gs hd h3
  have hlen : (Value.ref (hp.objs.size + 1) :: us).length = ps.length := by rw [← r2.length]; exact F1.len _ _ _ _ hq
  have b := hb _ (Value.ref (hp.objs.size + 1) :: us) I2.kIn (by rw [List.append_nil]; exact hlen)
  rw [List.append_nil] at b
  have hus : us.length ≤ sizeLine := by
    have l2 := line_eq
    rw [← r1.length]
    omega
  refine wpAny_call (PySem.HandSPX.call_own F.excBase_ValueError (fun Y => PySem.HandSPX.refsVE_contains Y bm hbm) (I1.kIn _ _ hC) (PySem.W.looks_findIn I1.kIn iC) (fun self => PySem.W.bind_fn I1.kIn self tI) hus
    (codeAny_mono (F1.run _ X.stack _ _ ⟨Value.ref (hp.objs.size + 1) :: us, []⟩ _ _ _ (fun _ _ _ => False) (hr.make C us []) (I2.env0.make C us []) b r2 hq) fun r s' hq' => ?_))
  match r, hq' with
  | .error er, hq' => exact hx pins σ _ _ er s' I2 hq'
  | .ok (.ret u), hq' =>
    obtain ⟨v, H2, os2, bare2, un2, hok2, rv, ev, d, gs, ea, ed, hd1, q2⟩ := hq'
    subst ev
    obtain ⟨h2, g2, d2, t2, os'⟩ := s'
    obtain ⟨t0, G, J, kG, ge, hoe, na⟩ := mk_end0 (d2 := d2) (t2 := t2) I1 hsz kk un2 hok2 os2 bare2 ea ed hd1
    exact ⟨rv, ⟨hp.objs.size + 1, _, _, ⟨G, g2, d2, t2, os'⟩, _, .ref C, some d, rfl, J, kG, ge, hoe, ⟨rfl, rfl, fun vs e => by cases e; rfl⟩, rfl, rfl, na, rfl, bare2, raises_own T.exC T.tyC, q2⟩⟩
  | .ok .next, hq' => exact False.elim hq'
  | .ok .brk, hq' => exact False.elim hq'
  | .ok .cont, hq' => exact False.elim hq'
end
theorem look_at {α : Type} {f : Str} : ∀ {ns : List Str} {l : List α} {x : α}, lookA f ns l = some x → ∃ i : Nat, ns[i]? = some f ∧ l[i]? = some x
  | [], l, x, h => by cases l <;> cases h
  | n :: ns, [], x, h => by cases h
  | n :: ns, y :: l, x, h => by
    have h' : (if n = f then some y else lookA f ns l) = some x := h
    by_cases z : n = f
    · rw [if_pos z] at h'
      cases h'
      exact ⟨0, by rw [z]; rfl, rfl⟩
    · rw [if_neg z] at h'
      obtain ⟨i, h1, h2⟩ := look_at h'
      exact ⟨i + 1, h1, h2⟩
theorem kept_plain : ∀ {fs : List (Str × Bool)} {rs : List R} {S : Store}, (∃ ds : List D, keptAll fs rs S = .ok ds S ∧ rs = ds.map .dat ∧ ds.length = fs.length ∧ ∀ (i : Nat) f d, fs[i]? = some (f, true) → ds[i]? = some d → ∃ n : Int, d = .int n) ∨ keptAll fs rs S = .stuck
  | [], [], S => .inl ⟨[], rfl, rfl, rfl, fun i f d h => by simp at h⟩
  | [], r :: rs, S => .inr rfl
  | f :: fs, [], S => .inr rfl
  | (f, k) :: fs, r :: rs, S => by
    have one : (∃ d, kept1 k r S = .ok (.dat d) S ∧ r = .dat d ∧ (k = true → ∃ n : Int, d = .int n)) ∨ (kept1 k r S = .stuck) ∨ ∃ q, kept1 k r S = .ok q S ∧ ∀ d, q ≠ .dat d := by
      cases k with
      | true =>
        cases r with
        | own k => exact .inr (.inl rfl)
        | exc c ns l => exact .inr (.inl rfl)
        | dat d =>
          cases d with
          | int i => exact .inl ⟨.int i, rfl, rfl, fun _ => ⟨i, rfl⟩⟩
          | _ => exact .inr (.inl rfl)
      | false =>
        cases r with
        | own k => exact .inr (.inr ⟨.own k, rfl, fun d z => nomatch z⟩)
        | exc c ns l => exact .inr (.inr ⟨.exc c ns l, rfl, fun d z => nomatch z⟩)
        | dat d => exact .inl ⟨d, rfl, rfl, fun z => nomatch z⟩
    have step : ∀ q, kept1 k r S = .ok q S → keptAll ((f, k) :: fs) (r :: rs) S = (match q with
        | .dat d => M.bind (keptAll fs rs) fun ds => M.pure (d :: ds)
        | _ => M.stuck) S := fun q e => bind_at e
    rcases one with ⟨d, h1, h2, h3⟩ | h1 | ⟨q, h1, h2⟩
    · rw [step _ h1]
      rcases kept_plain (fs := fs) (rs := rs) (S := S) with ⟨ds, g1, g2, g3, g4⟩ | g1
      · refine .inl ⟨d :: ds, bind_at g1, by rw [h2, g2]; rfl, by rw [List.length_cons, g3]; rfl, fun i f' d' hi hd => ?_⟩
        cases i with
        | zero =>
          cases hi
          cases hd
          exact h3 rfl
        | succ i => exact g4 i f' d' hi hd
      · refine .inr ?_
        show M.bind (keptAll fs rs) (fun ds => M.pure (d :: ds)) S = _
        unfold M.bind
        rw [g1]
    · refine .inr ?_
      show M.bind (kept1 k r) _ S = _
      unfold M.bind
      rw [h1]
    · rw [step _ h1]
      refine .inr ?_
      cases q with
      | dat d => exact absurd rfl (h2 d)
      | own k => rfl
      | exc c ns l => rfl
section
variable {X : Cx} {xr : XR} {W : WX} {C : CallsX} {c : Str} {es : List Expr} {ms : MP.Env → M (List R)} {fs : List (Str × Bool)} {p pc pos : Pos}
/-- which fields go by way of _kept -/
def kpOf (fs : List (Str × Bool)) (i : Nat) : Bool := match fs[i]? with
  | some q => q.2
  | none => false
theorem s_raise (hx : xr.Ok) (hc : X.calm = true) (tk : L2N.Takes X W) (hxc : C.xc c = some ⟨fs⟩) (hm : ∀ ta, PA X es ta → L2N.PMk X (.Call (.Name c p) es [] pc) (tMkF (He.ga X.K c) (fs.map (·.1)) (kpOf fs) ta)) (he : AOk X xr W es ms) :
    SOk X xr W (.Raise (some (.Call (.Name c p) es [] pc)) none pos) (fun ρ S => SRes.of ρ ((M.bind (ms ρ) fun rs => raiseR C c rs) S) fun _ _ => .stuck) := by
  obtain ⟨t, pt, q⟩ := he
  refine ⟨_, L2N.ps_raise hc tk (hm t pt), fun σ w S ρ D er sr h => q σ w S ρ _ er sr ?_⟩
  cases e : ms ρ S with
  | stuck =>
    unfold M.bind at h
    simp only [e] at h
    exact h.elim
  | exc c' ns l S1 =>
    unfold M.bind at h
    simp only [e] at h
    exact fun w1 d x s hd => h w1 σ d x s (er.ext hx x) hd
  | ok rs S1 =>
    dsimp only at h
    rw [bind_at e] at h
    intro w1 vs x1 s1 rr
    unfold raiseR at h
    simp only [hxc] at h
    rcases kept_plain (fs := fs) (rs := rs) (S := S1) with ⟨ds, h1, h2, h3, h3k⟩ | h1
    · rw [bind_at h1] at h
      refine ⟨by rw [← rr.length, h2, List.length_map, List.length_map]; exact h3, fun i y hk hy => ?_, fun d gs hd hf => ?_⟩
      · unfold kpOf at hk
        cases ef : fs[i]? with
        | none => rw [ef] at hk; cases hk
        | some q =>
          obtain ⟨f, b⟩ := q
          rw [ef] at hk
          have hk : b = true := hk
          subst hk
          have hi := (List.getElem?_eq_some_iff.mp ef).1
          have ed : ds[i]? = some ds[i] := List.getElem?_eq_getElem (by rw [h3]; exact hi)
          obtain ⟨n, en⟩ := h3k i f _ ef ed
          obtain ⟨v, g1, g2⟩ := rr.get (i := i) (r := .dat ds[i]) (by rw [h2, List.getElem?_map, ed]; rfl)
          rw [hy] at g1
          cases g1
          rw [en] at g2
          exact ⟨n, g2⟩
      have er1 := (er.ext hx x1).ext hx (ext_new (o := .xd gs) s1 hd)
      refine h (w1.new d (.xd gs)) σ (some d) (x1.trans (ext_new s1 hd)) (s1.new hd) er1 (.inr ⟨d, gs, rfl, nlive_new s1 hd, new_same, fun f y hy => ?_⟩)
      obtain ⟨i, h4, h5⟩ := look_at hy
      have h6 : rs[i]? = some (.dat y) := by rw [h2, List.getElem?_map, h5]; rfl
      obtain ⟨v, h7, h8⟩ := rr.get h6
      exact ⟨v, hf.2 i f v (List.getElem?_eq_some_iff.mp h4).1 h4 h7, Rel.ext (r := .dat y) (ext_new s1 hd) h8⟩
    · unfold M.bind at h
      rw [h1] at h
      exact h.elim
theorem s_never {st : Stmt} {f : MP.Env → Store → SRes} (h : ∀ ρ S, f ρ S = .stuck) : SOk X xr W st f := ⟨_, ps_never, fun σ w S ρ D er sr hh => by rw [h] at hh; exact hh⟩
end
end MP
set_option Elab.async false
set_option linter.all false
set_option maxRecDepth 100000
set_option maxHeartbeats 4000000
/-! MPMore: while, break, continue; methods, properties, operators of own classes; defaults; chains; in. -/
namespace MP
open PySem PySem.Spec PyProof.Rows L2
section
variable {X : Cx} {xr : XR} {W : WX} {c : Expr} {body : List Stmt} {f : MP.Env → Store → SRes} {mc : MP.Env → M Bool} {pos : Pos}
theorem s_brk : SOk X xr W (.Break pos) (fun ρ S => .go .brk ρ S) := ⟨_, ps_break, fun σ w S ρ D er sr h => h w σ (Ext.refl _) sr er⟩
theorem s_cont : SOk X xr W (.Continue pos) (fun ρ S => .go .cont ρ S) := ⟨_, ps_continue, fun σ w S ρ D er sr h => h w σ (Ext.refl _) sr er⟩
theorem s_while (hx : xr.Ok) (hp : PassesOwn (model X.prog X.w) X.A X.env X.xe) (hc : TOk X xr W c mc) (hb : SsOk X xr W body f) : SOk X xr W (.While c body [] pos) (fun ρ S => whileX mc f ρ S) := by
  obtain ⟨tc, pc, qc⟩ := hc
  obtain ⟨tb, pb, qb⟩ := hb
  refine ⟨_, ps_while hp pc pb, fun σ w S ρ D er sr h => ?_⟩
  dsimp only at h
  unfold whileX at h
  by_cases z : ∃ n r, whileN mc f n ρ S = some r
  case neg => rw [dif_neg z] at h; exact h.elim
  rw [dif_pos z] at h
  have hr := z.choose_spec.choose_spec
  generalize z.choose_spec.choose = r at h hr
  generalize z.choose = n0 at hr
  refine ⟨fun m σ' H => ∃ w2 S2 ρ2, w2.H = H ∧ Ext w w2 ∧ SR X.K w2 S2 ∧ EnvR X.K xr w2 σ' ρ2 ∧ whileN mc f m ρ2 S2 = some r, ⟨n0, w, S, ρ, rfl, Ext.refl _, sr, er, hr⟩, ?_⟩
  rintro m σ' H ⟨w2, S2, ρ2, eH, x2, s2, er2, hw⟩
  subst eH
  cases m with
  | zero => cases hw
  | succ m =>
    unfold whileN at hw
    refine qc σ' w2 S2 ρ2 _ er2 s2 ?_
    cases hcm : mc ρ2 S2 with
    | stuck =>
      rw [hcm] at hw
      cases (show some SRes.stuck = some r from hw)
      exact h
    | exc c ns l S3 =>
      rw [hcm] at hw
      cases (show some (SRes.exc c ns l ρ2 S3) = some r from hw)
      exact fun w' d x s' hd => h w' σ' d (x2.trans x) s' (er2.ext hx x) hd
    | ok b S3 =>
      rw [hcm] at hw
      intro w3 b' x3 s3 eb
      have eb : b = b' := eb
      subst eb
      have er3 := er2.ext hx x3
      have x23 := x2.trans x3
      cases b with
      | false =>
        cases (show some (SRes.go .next ρ2 S3) = some r from hw)
        exact h w3 σ' x23 s3 er3
      | true =>
        rw [if_pos rfl]
        refine ⟨fun σ' H => ∃ m', m' < m + 1 ∧ ∃ w2 S2 ρ2, w2.H = H ∧ Ext w w2 ∧ SR X.K w2 S2 ∧ EnvR X.K xr w2 σ' ρ2 ∧ whileN mc f m' ρ2 S2 = some r, fun σ'' H' q => q, ?_⟩
        refine qb σ' w3 S3 ρ2 _ er3 s3 ?_
        have hw : (match f ρ2 S3 with
          | .go .next ρ2 S2 => whileN mc f m ρ2 S2
          | .go .cont ρ2 S2 => whileN mc f m ρ2 S2
          | .go .brk ρ2 S2 => some (.go .next ρ2 S2)
          | .go (.ret r) ρ2 S2 => some (.go (.ret r) ρ2 S2)
          | .exc c ns l ρ2 S2 => some (.exc c ns l ρ2 S2)
          | .stuck => some .stuck) = some r := hw
        match hf : f ρ2 S3 with
        | .go .next ρ4 S4 =>
          rw [hf] at hw
          exact fun w' σ4 x4 s4 er4 => ⟨m, Nat.lt_succ_self _, w', S4, ρ4, rfl, x23.trans x4, s4, er4, hw⟩
        | .go .cont ρ4 S4 =>
          rw [hf] at hw
          exact fun w' σ4 x4 s4 er4 => ⟨m, Nat.lt_succ_self _, w', S4, ρ4, rfl, x23.trans x4, s4, er4, hw⟩
        | .go .brk ρ4 S4 =>
          rw [hf] at hw
          cases (show some (SRes.go .next ρ4 S4) = some r from hw)
          exact fun w' σ4 x4 s4 er4 => h w' σ4 (x23.trans x4) s4 er4
        | .go (.ret q) ρ4 S4 =>
          rw [hf] at hw
          cases (show some (SRes.go (.ret q) ρ4 S4) = some r from hw)
          exact fun w' v4 x4 s4 r4 => h w' v4 (x23.trans x4) s4 r4
        | .exc c ns l ρ4 S4 =>
          rw [hf] at hw
          cases (show some (SRes.exc c ns l ρ4 S4) = some r from hw)
          exact fun w' σ4 d x4 s4 er4 hd => h w' σ4 d (x23.trans x4) s4 er4 hd
        | .stuck =>
          rw [hf] at hw
          cases (show some SRes.stuck = some r from hw)
          exact h
end
/-! ### methods -/
theorem look_none : ∀ {fs : List (Str × V)} {n : Str}, n ∉ fs.map (·.1) → fs.lookup n = none
  | [], _, _ => rfl
  | (g, v) :: fs, n, h => by
    rw [List.map_cons, List.mem_cons, not_or] at h
    rw [lookup_put, if_neg h.1]
    exact look_none h.2
theorem recv_at {K : PySem.W.Frag} {w : Wd} {S : Store} {x : R} {u : V} {c n : Str} {β : Type} {rel : Wd → Unit → β → Prop} {E : XK} {Q : β → Hp → Prop} (s : SR K w S) (r : Rel K w x u) (h : Hop K rel E w Q (recvR c n x S)) : recvR c n x S = .ok () S ∧ ∃ a dx fs, u = .ref a ∧ w.H a = some (.ins (He.ga K c) dx fs) ∧ fs.lookup n = none := by
  unfold recvR at h ⊢
  cases x with
  | exc c ns l => exact h.elim
  | dat d =>
    cases d with
    | obj c' ns l =>
      obtain ⟨a, dx, fs, e1, _, h1, h2, h3⟩ := r
      dsimp only at h ⊢
      by_cases z : c' = c ∧ n ∉ ns
      · rw [if_pos z]
        refine ⟨rfl, a, dx, fs, e1, by rw [← z.1]; exact h1, look_none (by rw [h2]; exact z.2)⟩
      · rw [if_neg z] at h
        exact h.elim
    | _ => exact h.elim
  | own k =>
    obtain ⟨hk, e1⟩ := r
    obtain ⟨cc, hc, hr⟩ := s.get hk
    dsimp only at h ⊢
    rw [hc] at h ⊢
    cases cc with
    | obj c' ns rs =>
      obtain ⟨dx, fs, h1, h2, h3⟩ := hr
      dsimp only at h ⊢
      by_cases z : c' = c ∧ n ∉ ns
      · rw [if_pos z]
        refine ⟨rfl, _, dx, fs, e1, by rw [← z.1]; exact h1, look_none (by rw [h2]; exact z.2)⟩
      · rw [if_neg z] at h
        exact h.elim
    | lst rs => exact h.elim
    | tup rs => exact h.elim
theorem recv_next {γ δ : Type} {K : PySem.W.Frag} {rel : Wd → γ → δ → Prop} {w : Wd} {S : Store} {x : R} {u : V} {c n : Str} {E : XK} {Q : δ → Hp → Prop} {f : Unit → M γ} (s : SR K w S) (r : Rel K w x u) (h : Hop K rel E w Q (M.bind (recvR c n x) f S)) : (∃ a dx fs, u = .ref a ∧ w.H a = some (.ins (He.ga K c) dx fs) ∧ fs.lookup n = none) ∧ Hop K rel E w Q (f () S) := by
  have q := h.bind (r1 := fun _ (_ : Unit) (_ : Unit) => True) (Q1 := fun _ H => True) fun _ _ _ _ _ _ _ _ => trivial
  obtain ⟨e, q2⟩ := recv_at s r q
  refine ⟨q2, ?_⟩
  unfold M.bind at h
  rw [e] at h
  exact h
theorem wp_meth {prog : Program} {w : World} {A : Around} {s : Shared} {E : Value → Shared → Prop} {env : PySem.Env} {o : Expr} {name : Str} {apos pos : Pos} {args : List Expr} {Q : Value → Shared → Prop}
    (hbase : attributeBase o name env (eval o env) = eval o env)
    (hfew : ((backTo pos (starEach args env)).all (fun x => !x.1) && (backToKw pos (keywordEach [] env)).all (fun x => x.1.isSome)
      && decide (args.length + ([] : List Keyword).length + (if ([] : List Keyword).isEmpty then 0 else 1) < 30)) = true)
    (hline : (apos.endLine == pos.line) = true)
    (h : ∀ pl : Sem Bool, wpAny (model prog w) A (eval o env) (fun ov s₁ => wpAny (model prog w) A (getMethod ov name pl) (fun fx s₂ => wpAny (model prog w) A (callWith pos fx.1 fx.2 (backTo pos (starEach args env)) (backToKw pos (keywordEach [] env))) Q E s₂) E s₁) E s) :
    wpAny (model prog w) A (eval (.Call (.Attribute o name apos) args [] pos) env) Q E s := by
  rw [arm_eval_Call, hbase]
  refine wpAny_bind (wpAny_mono (h (do return (← importBound o env).getD true)) (fun ov s₁ h₁ => ?_) fun _ _ e => e)
  refine wpAny_bind (wpAny_standAt ?_)
  have hform : methodCallForm (args.length + ([] : List Keyword).length) (backTo pos (starEach args env)) (backToKw pos (keywordEach [] env)) = true := hfew
  have hpos : methodCallPos true o env apos pos = pure pos := by unfold methodCallPos; simp [hline]
  unfold methodCall
  rw [hform]
  refine wpAny_bind (wpAny_holding (wpAny_mono h₁ (fun fx s₂ h₂ => ?_) fun _ _ e => e))
  exact wpAny_bind (wpAny_of_eq hpos h₂)
/-- the form of a method's call -/
structure MForm (X : Cx) (o : Expr) (m : Str) (apos pos : Pos) (es : List Expr) : Prop where
  base : attributeBase o m X.env (eval o X.env) = eval o X.env
  few : ((backTo pos (starEach es X.env)).all (fun x => !x.1) && (backToKw pos (keywordEach [] X.env)).all (fun x => x.1.isSome)
      && decide (es.length + ([] : List Keyword).length + (if ([] : List Keyword).isEmpty then 0 else 1) < 30)) = true
  line : (apos.endLine == pos.line) = true
section
variable {X : Cx} {xr : XR} {W : WX} {a b c e o : Expr} {es : List Expr} {ma mb mc : MP.Env → M R} {ms : MP.Env → M (List R)} {pos p p0 p1 p2 : Pos} {k : Nat} {f C : Addr} {fd : FuncData} {ps : List Str} {sp : Sp} {x m : Str}
variable {ta tb tc : TE} {t : TA} {E : St → XK} {dvs : List V} {ds : List Value}
theorem pe_methS (he : PE X o ta) (c : Cls X.K C) (hm : Meth X.K C m f) (F : FnOk X.prog X.w X.K X.mg X.base (L2N.CX X.prog X.w) k f fd ps sp) (hr : Room k X.A) (hb : Binds X.K fd ps []) (hx : ∀ σ, PassesAt (L2N.CX X.prog X.w) X σ (E σ)) (ha : PA X (e :: es) t)
    (hst : starEach (e :: es) X.env = (false, eval e X.env) :: starEach es X.env) (hpl : (backTo pos (starEach es X.env)).any (·.1) = false) (ht : MForm X o m p1 pos (e :: es)) :
    PE X (.Call (.Attribute o m p1) (e :: es) [] pos) (fun σ H Q => ta σ H fun x H1 => ∃ a dx fs, x = .ref a ∧ H1 a = some (.ins C dx fs) ∧ fs.lookup m = none ∧ t σ H1 fun vs H2 => sp (x :: vs) H2 Q (E σ)) := by
  refine ⟨fun pins s σ H Q I h => ?_⟩
  refine wp_meth ht.base ht.few ht.line fun pl => (thn (he.run pins s σ H _ I h) fun u s1 ⟨x, H1, I1, rx, a, dx, fs, ex, ea, l, q⟩ => ?_)
  subst ex
  obtain rfl : u = Value.ref a := rx
  refine getmeth_ok I1 ea c hm l ?_
  refine PySem.W.callWith_K (first := [.ref a]) (h₀ := X.base) I.ok.mod.kin hm.kp (thn (ha.run pos pins s1 σ H1 _ I1 q) fun us s2 ⟨vs, H2, I2, r, q2⟩ => ⟨I2.kIn, ?_⟩) hst hpl
  exact run_fnSD (E := E) (us := .ref a :: us) (vs := .ref a :: vs) (dvs := []) (ds := []) F hr hb .nil (hx σ) I2 (.cons rfl r) (by rw [List.append_nil]; exact q2)
theorem pe_methS0 (he : PE X o ta) (c : Cls X.K C) (hm : Meth X.K C m f) (F : FnOk X.prog X.w X.K X.mg X.base (L2N.CX X.prog X.w) k f fd ps sp) (hr : Room k X.A) (hb : Binds X.K fd ps []) (hx : ∀ σ, PassesAt (L2N.CX X.prog X.w) X σ (E σ)) (ht : MForm X o m p1 pos []) :
    PE X (.Call (.Attribute o m p1) [] [] pos) (fun σ H Q => ta σ H fun x H1 => ∃ a dx fs, x = .ref a ∧ H1 a = some (.ins C dx fs) ∧ fs.lookup m = none ∧ sp [x] H1 Q (E σ)) := by
  refine ⟨fun pins s σ H Q I h => ?_⟩
  refine wp_meth ht.base ht.few ht.line fun pl => (thn (he.run pins s σ H _ I h) fun u s1 ⟨x, H1, I1, rx, a, dx, fs, ex, ea, l, q⟩ => ?_)
  subst ex
  obtain rfl : u = Value.ref a := rx
  refine getmeth_ok I1 ea c hm l ?_
  exact PySem.W.callWith_K0 (first := [.ref a]) I1.kIn hm.kp (run_fnSD (E := E) (us := [.ref a]) (vs := [.ref a]) (dvs := []) (ds := []) F hr hb .nil (hx σ) I1 (.cons rfl .nil) q)
theorem e_meth {g : List R → M R} {cn : Str} (hx : xr.Ok) (c : Cls X.K (He.ga X.K cn)) (hm : Meth X.K (He.ga X.K cn) m f) (F : FnOk X.prog X.w X.K X.mg X.base (L2N.CX X.prog X.w) k f fd ps sp) (hs : SpOk X.K sp g) (hr : Room k X.A) (hb : Binds X.K fd ps []) (tk : L2N.Takes X W)
    (he : starEach (e :: es) X.env = (false, eval e X.env) :: starEach es X.env) (hpl : (backTo pos (starEach es X.env)).any (·.1) = false) (ht : MForm X a m p1 pos (e :: es)) (ha : EOk X xr W a ma) (hes : AOk X xr W (e :: es) ms) :
    EOk X xr W (.Call (.Attribute a m p1) (e :: es) [] pos) (fun ρ => M.bind (ma ρ) fun x => M.bind (recvR cn m x) fun _ => M.bind (ms ρ) fun xs => g (x :: xs)) := by
  obtain ⟨ta, pa, qa⟩ := ha
  obtain ⟨ts, pss, qs⟩ := hes
  refine ⟨_, pe_methS (E := WE W) pa c hm F hr hb (fun σ => L2N.passAt tk σ) pss he hpl ht, fun σ w S ρ Q er sr h => qa σ w S ρ _ er sr (h.bind fun w1 x u S1 e1 s1 rx h1 => ?_)⟩
  obtain ⟨⟨a', dx, fs, eu, ea, el⟩, h2⟩ := recv_next s1 rx h1
  refine ⟨a', dx, fs, eu, ea, el, qs σ w1 S1 ρ _ (er.ext hx e1) s1 (h2.bind fun w2 xs us S2 e2 s2 rs h3 => ?_)⟩
  exact hs w2 S2 (x :: xs) (u :: us) Q _ s2 ⟨u, us, rfl, rx.ext e2, rs⟩ h3
theorem e_meth0 {g : List R → M R} {cn : Str} (hx : xr.Ok) (c : Cls X.K (He.ga X.K cn)) (hm : Meth X.K (He.ga X.K cn) m f) (F : FnOk X.prog X.w X.K X.mg X.base (L2N.CX X.prog X.w) k f fd ps sp) (hs : SpOk X.K sp g) (hr : Room k X.A) (hb : Binds X.K fd ps []) (tk : L2N.Takes X W)
    (ht : MForm X a m p1 pos []) (ha : EOk X xr W a ma) :
    EOk X xr W (.Call (.Attribute a m p1) [] [] pos) (fun ρ => M.bind (ma ρ) fun x => M.bind (recvR cn m x) fun _ => M.bind (M.pure []) fun xs => g (x :: xs)) := by
  obtain ⟨ta, pa, qa⟩ := ha
  refine ⟨_, pe_methS0 (E := WE W) pa c hm F hr hb (fun σ => L2N.passAt tk σ) ht, fun σ w S ρ Q er sr h => qa σ w S ρ _ er sr (h.bind fun w1 x u S1 e1 s1 rx h1 => ?_)⟩
  obtain ⟨⟨a', dx, fs, eu, ea, el⟩, h2⟩ := recv_next s1 rx h1
  exact ⟨a', dx, fs, eu, ea, el, hs w1 S1 [x] [u] Q _ s1 ⟨u, [], rfl, rx, rfl⟩ h2⟩
end
/-! ### operators of own classes -/
section
variable {K : PySem.W.Frag} {prog : Program} {w : World} {A : Around} {s : Shared} {E : Value → Shared → Prop} {C f a b : Addr} {nm : String}
theorem fills_own {Q : Bool → Shared → Prop} (X : K.In s.heap) (hs : PySem.W.selfFirst K C = true) (hf : PySem.W.findIn K (.ref C) (dunder nm) = some (some (.ref f))) (q : Q true s) : wpAny (model prog w) A (fillsNumberSlot (.ref C) nm) Q E s := by
  unfold PySem.W.selfFirst at hs
  cases hc : PySem.W.clsIn K C with
  | none => rw [hc] at hs; cases hs
  | some cd =>
    rw [hc] at hs
    have hh : cd.mro.head? = some (.ref C) := by simpa using hs
    obtain ⟨r, hm⟩ : ∃ r, cd.mro = .ref C :: r := by
      cases e : cd.mro with
      | nil => rw [e] at hh; cases hh
      | cons x r => rw [e] at hh; cases hh; exact ⟨r, rfl⟩
    unfold fillsNumberSlot
    dsimp only
    refine wpAny_bind (wpAny_bind ((PySem.W.looks_clsIn X hc).here (wpAny_pure ?_)))
    rw [hm]
    unfold List.anyM
    refine wpAny_bind ?_
    dsimp only
    unfold List.anyM
    refine wpAny_bind (wpAny_bind ((PySem.W.looks_findIn X hf).here ?_))
    dsimp only
    rw [if_pos (show (!ownNameWrapper (Value.ref f) (dunder nm)) = true from rfl)]
    exact wpAny_pure (wpAny_pure (wpAny_pure q))
theorem try_own {Q : Option Value → Shared → Prop} {oa : Obj} {od : Option Obj} (X : K.In s.heap) (I : PySem.W.InstAt s.heap a oa C od) {n : Str} (hf : PySem.W.findIn K (.ref C) n = some (some (.ref f))) (hfn : PySem.W.isFn K (.ref f) = true)
    (hcall : wpAny (model prog w) A (call (.ref f) [.ref a, .ref b]) (fun v s' => v ≠ .notImplemented ∧ Q (some v) s') E s) : wpAny (model prog w) A (tryMethod (.ref a) n (.ref b)) Q E s := by
  unfold tryMethod callSpecial? specialOf
  refine wpAny_bind (wpAny_bind (wpAny_bind (I.type.here ((PySem.W.looks_findIn X hf).here ?_))))
  refine wpAny_holding ?_
  unfold bindSpecial
  refine wpAny_bind (wpAny_bind ((PySem.W.looks_typeIn X (beq_iff_eq.mp hfn)).here ?_))
  rw [if_pos (by decide)]
  refine wpAny_pure (wpAny_bind (wpAny_mono hcall (fun v s' h => wpAny_pure ?_) fun _ _ z => z))
  obtain ⟨h1, h2⟩ := h
  cases v <;> first | exact absurd rfl h1 | exact wpAny_pure h2
theorem binop_own {op : Operator} {Q : Value → Shared → Prop} {oa ob : Obj} {od od2 : Option Obj} (X : K.In s.heap) (hs : PySem.W.selfFirst K C = true) (I : PySem.W.InstAt s.heap a oa C od) (I2 : PySem.W.InstAt s.heap b ob C od2)
    (hf : PySem.W.findIn K (.ref C) (dunder op.info.2) = some (some (.ref f))) (hfn : PySem.W.isFn K (.ref f) = true)
    (hcall : wpAny (model prog w) A (call (.ref f) [.ref a, .ref b]) (fun v s' => v ≠ .notImplemented ∧ Q v s') E s) : wpAny (model prog w) A (binaryOp op (.ref a) (.ref b)) Q E s := by
  unfold binaryOp
  refine wpAny_holding ?_
  dsimp only
  unfold binaryOp1
  refine wpAny_bind (wpAny_bind (I.type.here (wpAny_bind (I2.type.here ?_))))
  refine wpAny_bind (fills_own X hs hf ?_)
  rw [if_pos (beq_self_eq_true _)]
  refine wpAny_bind (wpAny_pure ?_)
  dsimp only
  rw [if_neg (show ¬ (true && false) = true from Bool.false_ne_true)]
  rw [if_neg (show ¬ false = true from Bool.false_ne_true)]
  rw [if_neg (show ¬ (true && false && !false) = true from Bool.false_ne_true)]
  refine wpAny_bind (wpAny_pure ?_)
  rw [if_neg (show ¬ false = true from Bool.false_ne_true)]
  rw [if_pos (show true = true from rfl)]
  refine wpAny_bind (try_own X I hf hfn (wpAny_mono hcall (fun v s' h => ⟨h.1, ?_⟩) fun _ _ z => z))
  dsimp only
  exact wpAny_pure (wpAny_pure h.2)
end
section
variable {X : Cx} {xr : XR} {W : WX} {a b c e o : Expr} {es : List Expr} {ma mb mc : MP.Env → M R} {ms : MP.Env → M (List R)} {pos p p0 p1 p2 : Pos} {k : Nat} {f C : Addr} {fd : FuncData} {ps : List Str} {sp : Sp} {x m : Str}
variable {ta tb tc : TE} {t : TA} {E : St → XK} {dvs : List V} {ds : List Value}
/-- a value that the model never takes for NotImplemented -/
def Gv (v : V) : Prop := ∀ u, RelV v u → u ≠ .notImplemented
theorem Rel.gv {K : PySem.W.Frag} {w : Wd} {r : R} {v : V} (h : Rel K w r v) : Gv v := by
  intro u ru
  cases r with
  | exc c ns l => exact h.elim
  | own k =>
    obtain ⟨_, e⟩ := h
    subst e
    cases (show u = Value.ref _ from ru)
    exact fun z => nomatch z
  | dat d =>
    cases d with
    | non =>
      cases (show v = .non from h)
      cases (show u = Value.none from ru)
      exact fun z => nomatch z
    | bl b =>
      cases (show v = .bl b from h)
      cases (show u = Value.bool b from ru)
      exact fun z => nomatch z
    | int i =>
      cases (show v = .int i from h)
      obtain ⟨t, q⟩ := (show ∃ t, u = Value.int i t from ru)
      subst q
      exact fun z => nomatch z
    | str i =>
      cases (show v = .str i from h)
      obtain ⟨t, q⟩ := (show ∃ t, u = Value.str i t from ru)
      subst q
      exact fun z => nomatch z
    | tup l =>
      obtain ⟨a, vs, e, _⟩ := h
      subst e
      cases (show u = Value.ref _ from ru)
      exact fun z => nomatch z
    | lst l =>
      obtain ⟨a, vs, e, _⟩ := h
      subst e
      cases (show u = Value.ref _ from ru)
      exact fun z => nomatch z
    | slst l =>
      obtain ⟨a, vs, e, _⟩ := h
      subst e
      cases (show u = Value.ref _ from ru)
      exact fun z => nomatch z
    | obj c ns l =>
      obtain ⟨a, dx, fs, e, _⟩ := h
      subst e
      cases (show u = Value.ref _ from ru)
      exact fun z => nomatch z
theorem Hop.gv {K : PySem.W.Frag} {w : Wd} {E : XK} {Q : VK} {r : Res R} (h : Hop K (Rel K) E w Q r) : Hop K (Rel K) E w (fun v H => Gv v ∧ Q v H) r := by
  cases r with
  | ok a S => exact fun w' v x s rv => ⟨rv.gv, h w' v x s rv⟩
  | exc c ns l S => exact h
  | stuck => exact h
theorem pe_opm {op : Operator} (ha : PE X a ta) (hb : PE X b tb) (hs : PySem.W.selfFirst X.K C = true) (hm : Meth X.K C (dunder op.info.2) f) (F : FnOk X.prog X.w X.K X.mg X.base (L2N.CX X.prog X.w) k f fd ps sp) (hr : Room k X.A) (hbd : Binds X.K fd ps []) (hx : ∀ σ, PassesAt (L2N.CX X.prog X.w) X σ (E σ)) :
    PE X (.BinOp a op b pos) (fun σ H Q => ta σ H fun x H1 => tb σ H1 fun y H2 => ∃ a dx fs a2 dx2 fs2, x = .ref a ∧ y = .ref a2 ∧ H2 a = some (.ins C dx fs) ∧ H2 a2 = some (.ins C dx2 fs2) ∧ sp [x, y] H2 (fun v H => Gv v ∧ Q v H) (E σ)) := by
  refine ⟨fun pins s σ H Q I h => ?_⟩
  refine wpAny_BinOp (binT ha hb I h fun v u s2 x y H2 I2 rx ry ⟨a, dx, fs, a2, dx2, fs2, ex, ey, ea, ea2, q⟩ => ?_)
  subst ex ey
  obtain rfl : v = Value.ref a := rx
  obtain rfl : u = Value.ref a2 := ry
  obtain ⟨mA, O, _⟩ := ins_get I2.hok ea
  obtain ⟨od, J, _⟩ := O.look
  obtain ⟨mA2, O2, _⟩ := ins_get I2.hok ea2
  obtain ⟨od2, J2, _⟩ := O2.look
  refine binop_own I2.kIn hs J J2 hm.at_ hm.fn ?_
  refine wpAny_mono (run_fnSD (E := E) (us := [.ref a, .ref a2]) (vs := [.ref a, .ref a2]) (dvs := []) (ds := []) F hr hbd .nil (hx σ) I2 (.cons rfl (.cons rfl .nil)) q) (fun r s' h' => ?_) fun _ _ z => z
  obtain ⟨v, H', I', rv, g, q⟩ := h'
  exact ⟨g r rv, v, H', I', rv, q⟩
theorem meth_at {K : PySem.W.Frag} {w : Wd} {S : Store} {x : R} {u : V} {cn : Str} {CC : Calls} {fi : Nat} {rs : List R} {E : XK} {Q : VK} (s : SR K w S) (r : Rel K w x u) (h : Hop K (Rel K) E w Q (methR CC fi cn (x :: rs) S)) : (∃ a dx fs, u = .ref a ∧ w.H a = some (.ins (He.ga K cn) dx fs)) ∧ Hop K (Rel K) E w Q (CC.fn fi (x :: rs) S) := by
  unfold methR at h
  cases x with
  | exc c ns l => exact h.elim
  | dat d =>
    cases d with
    | obj c' ns l =>
      obtain ⟨a, dx, fs, e1, _, h1, h2, h3⟩ := r
      dsimp only at h
      by_cases z : c' = cn
      · rw [if_pos z] at h
        exact ⟨⟨a, dx, fs, e1, by rw [← z]; exact h1⟩, h⟩
      · rw [if_neg z] at h
        exact h.elim
    | _ => exact h.elim
  | own k =>
    obtain ⟨hk, e1⟩ := r
    obtain ⟨cc, hc, hr⟩ := s.get hk
    dsimp only at h
    rw [hc] at h
    cases cc with
    | obj c' ns rs =>
      obtain ⟨dx, fs, h1, h2, h3⟩ := hr
      dsimp only at h
      by_cases z : c' = cn
      · rw [if_pos z] at h
        exact ⟨⟨_, dx, fs, e1, by rw [← z]; exact h1⟩, h⟩
      · rw [if_neg z] at h
        exact h.elim
    | lst rs => exact h.elim
    | tup rs => exact h.elim
theorem obj_at {K : PySem.W.Frag} {w : Wd} {S : Store} {x : R} {u : V} {cn : Str} {α : Type} {m : M α} {β : Type} {rel : Wd → α → β → Prop} {E : XK} {Q : β → Hp → Prop} (s : SR K w S) (r : Rel K w x u) (h : Hop K rel E w Q (objR cn x m S)) : (∃ a dx fs, u = .ref a ∧ w.H a = some (.ins (He.ga K cn) dx fs)) ∧ Hop K rel E w Q (m S) := by
  unfold objR at h
  cases x with
  | exc c ns l => exact h.elim
  | dat d =>
    cases d with
    | obj c' ns l =>
      obtain ⟨a, dx, fs, e1, _, h1, h2, h3⟩ := r
      dsimp only at h
      by_cases z : c' = cn
      · rw [if_pos z] at h
        exact ⟨⟨a, dx, fs, e1, by rw [← z]; exact h1⟩, h⟩
      · rw [if_neg z] at h
        exact h.elim
    | _ => exact h.elim
  | own k =>
    obtain ⟨hk, e1⟩ := r
    obtain ⟨cc, hc, hr⟩ := s.get hk
    dsimp only at h
    rw [hc] at h
    cases cc with
    | obj c' ns rs =>
      obtain ⟨dx, fs, h1, h2, h3⟩ := hr
      dsimp only at h
      by_cases z : c' = cn
      · rw [if_pos z] at h
        exact ⟨⟨_, dx, fs, e1, by rw [← z]; exact h1⟩, h⟩
      · rw [if_neg z] at h
        exact h.elim
    | lst rs => exact h.elim
    | tup rs => exact h.elim
theorem e_opm {CC : Calls} {fi : Nat} {cn : Str} {op : Operator} (hx : xr.Ok) (hs : PySem.W.selfFirst X.K (He.ga X.K cn) = true) (hm : Meth X.K (He.ga X.K cn) (dunder op.info.2) f) (F : FnOk X.prog X.w X.K X.mg X.base (L2N.CX X.prog X.w) k f fd ps sp) (hsp : SpOk X.K sp (CC.fn fi)) (hr : Room k X.A) (hbd : Binds X.K fd ps []) (tk : L2N.Takes X W)
    (ha : EOk X xr W a ma) (hb : EOk X xr W b mb) : EOk X xr W (.BinOp a op b pos) (fun ρ => M.bind (ma ρ) fun x => M.bind (mb ρ) fun y => objR cn y (methR CC fi cn [x, y])) := by
  obtain ⟨ta, pa, qa⟩ := ha
  obtain ⟨tb, pb, qb⟩ := hb
  refine ⟨_, pe_opm (E := WE W) pa pb hs hm F hr hbd (fun σ => L2N.passAt tk σ), fun σ w S ρ Q er sr h => qa σ w S ρ _ er sr (h.bind fun w1 x u S1 e1 s1 rx h1 => qb σ w1 S1 ρ _ (er.ext hx e1) s1 (h1.bind fun w2 y v S2 e2 s2 ry h2 => ?_))⟩
  obtain ⟨⟨a2, dx2, fs2, ey, ea2⟩, h3⟩ := obj_at s2 ry h2
  obtain ⟨⟨a1, dx1, fs1, ex, ea1⟩, h4⟩ := meth_at s2 (rx.ext e2) h3
  exact ⟨a1, dx1, fs1, a2, dx2, fs2, ex, ey, ea1, ea2, hsp w2 S2 [x, y] [u, v] _ _ s2 ⟨u, [v], rfl, rx.ext e2, v, [], rfl, ry, rfl⟩ h4.gv⟩
/-! ### properties -/
theorem e_prop {CC : Calls} {fi : Nat} {cn n : Str} {pa' g : Addr} (hx : xr.Ok) (cl : Cls X.K (He.ga X.K cn)) (hp : PropOf X.K (He.ga X.K cn) n pa' g) (F : FnOk X.prog X.w X.K X.mg X.base (L2N.CX X.prog X.w) k g fd ps sp) (hsp : SpOk X.K sp (CC.fn fi)) (hr : Room (k + 1) X.A) (hbd : Binds X.K fd ps [])
    (hpass : Passes (L2N.CX X.prog X.w) X.nox (fun _ _ _ => False)) (hb : attributeBase a n X.env (eval a X.env) = eval a X.env) (ha : EOk X xr W a ma) : EOk X xr W (.Attribute a n pos) (fun ρ => M.bind (ma ρ) fun x => M.noX (methR CC fi cn [x])) := by
  obtain ⟨ta, pa, qa⟩ := ha
  refine ⟨_, pe_prop (E := fun _ _ _ => False) pa cl hp F hr hbd .nil hpass hb, fun σ w S ρ Q er sr h => qa σ w S ρ _ er sr (h.bind fun w1 x u S1 e1 s1 rx h1 => ?_)⟩
  have h2 : Hop X.K (Rel X.K) (fun _ _ _ => False) w1 Q (methR CC fi cn [x] S1) := by
    unfold M.noX at h1
    cases e : methR CC fi cn [x] S1 with
    | ok a S' => simp only [e] at h1; exact h1
    | exc c ns l S' => simp only [e] at h1; exact h1.elim
    | stuck => simp only [e] at h1; exact h1.elim
  obtain ⟨⟨a1, dx1, fs1, ex, ea1⟩, h4⟩ := meth_at s1 rx h2
  subst ex
  exact ⟨a1, dx1, fs1, rfl, ea1, hsp w1 S1 [x] [.ref a1] _ _ s1 ⟨.ref a1, [], rfl, rx, rfl⟩ h4⟩
/-! ### defaults -/
theorem rels_ints {K : PySem.W.Frag} {w : Wd} : ∀ ns : List Int, Rels K w (intsD ns) (ns.map V.int)
  | [] => rfl
  | i :: ns => ⟨.int i, ns.map V.int, rfl, rfl, rels_ints ns⟩
theorem e_callD {g : List R → M R} {ns : List Int} (hx : xr.Ok) (F : FnOk X.prog X.w X.K X.mg X.base (L2N.CX X.prog X.w) k f fd ps sp) (hs : SpOk X.K sp g) (hr : Room k X.A) (hg : Gl X x) (hm : X.mg x = some (.ref f)) (hk : PySem.W.keepIn X.K (.ref f) = true) (hb : ∃ dv, Vals (ns.map V.int) dv ∧ Binds X.K fd ps dv)
    (tk : L2N.Takes X W) (hdb : (x == ("__debug__" : Str)) = false) (he : starEach (a :: es) X.env = (false, eval a X.env) :: starEach es X.env) (hpl : (backTo pos (starEach es X.env)).any (·.1) = false) (ha : EOk X xr W a ma) (hes : AOk X xr W es ms) :
    EOk X xr W (.Call (.Name x p0) (a :: es) [] pos) (fun ρ => M.bind (ma ρ) fun x => M.bind (ms ρ) fun xs => g (x :: xs ++ intsD ns)) := by
  obtain ⟨ta, pa, qa⟩ := ha
  obtain ⟨ts, pss, qs⟩ := hes
  obtain ⟨dv, hd, hb⟩ := hb
  refine ⟨_, pe_callSD (E := WE W) F hr hg hm hk hb hd (fun σ => L2N.passAt tk σ) (pa_cons pa pss he) hdb he hpl, fun σ w S ρ Q er sr h => qa σ w S ρ _ er sr (h.bind fun w1 x u S1 e1 s1 rx h1 => qs σ w1 S1 ρ _ (er.ext hx e1) s1 (h1.bind fun w2 xs us S2 e2 s2 rs h2 => ?_))⟩
  exact hs w2 S2 (x :: xs ++ intsD ns) (u :: us ++ ns.map V.int) Q _ s2 (Rels.append (show Rels X.K w2 (x :: xs) (u :: us) from ⟨u, us, rfl, rx.ext e2, rs⟩) (rels_ints ns)) h2
theorem e_makeD {CC : Calls} {m : Bool} {fi : Nat} {cn : Str} {ns : List Int} (hx : xr.Ok) (Mk' : Mk X.K (He.ga X.K cn) f) (F : FnOk X.prog X.w X.K X.mg X.base (L2N.CX X.prog X.w) k f fd ps sp) (hs : SpOk X.K sp (CC.fn fi)) (hr : Room (k + 1) X.A) (hg : Gl X x) (hm : X.mg x = some (.ref (He.ga X.K cn)))
    (hb : ∃ dv, Vals (ns.map V.int) dv ∧ Binds X.K fd ps dv)
    (tk : L2N.Takes X W) (hdb : (x == ("__debug__" : Str)) = false) (he : starEach (a :: es) X.env = (false, eval a X.env) :: starEach es X.env) (hpl : (backTo pos (starEach es X.env)).any (·.1) = false) (ha : EOk X xr W a ma) (hes : AOk X xr W es ms) :
    EOk X xr W (.Call (.Name x p0) (a :: es) [] pos) (fun ρ => M.bind (ma ρ) fun x => M.bind (ms ρ) fun xs => makeR CC m fi cn (x :: xs ++ intsD ns)) := by
  obtain ⟨ta, pa, qa⟩ := ha
  obtain ⟨ts, pss, qs⟩ := hes
  obtain ⟨dv, hd, hb⟩ := hb
  have pas := pa_cons pa pss he
  refine ⟨fun σ H Q => tCons ta ts σ H fun vs H1 => ∀ x dx, H1 x = none → H1 dx = none → dx ≠ x → sp (.ref x :: (vs ++ ns.map V.int)) (upd (upd H1 dx (.own x)) x (.ins (He.ga X.K cn) dx [])) (fun v H2 => v = .non ∧ Q (.ref x) H2) (WE W σ), ⟨fun pins s σ H Q I h => ?_⟩, fun σ w S ρ Q er sr h => ?_⟩
  · refine wpAny_Call_Name_kw (ld_glob I hg hm ?_ hdb)
    refine PySem.W.callWith_K (h₀ := X.base) I.ok.mod.kin Mk'.kp (thn (pas.run pos pins s σ H _ I h) fun us s1 ⟨vs, H1, I1, r, q⟩ => ⟨I1.kIn, ?_⟩) he hpl
    have hq := q (s1.heap.objs.size + 1) s1.heap.objs.size (I1.hok.fresh (Nat.le_succ _)) (I1.hok.fresh (Nat.le_refl _)) (Nat.ne_of_lt (Nat.lt_succ_self _))
    have I2 := Inv.made (C := He.ga X.K cn) I1
    have r2 : Vals (V.ref (s1.heap.objs.size + 1) :: (vs ++ ns.map V.int)) (Value.ref (s1.heap.objs.size + 1) :: (us ++ dv)) := .cons rfl (r.append hd)
    have hl : (Value.ref (s1.heap.objs.size + 1) :: us ++ dv).length = ps.length := by rw [List.cons_append, ← r2.length]; exact F.len _ _ _ _ hq
    have b := hb _ (Value.ref (s1.heap.objs.size + 1) :: us) I2.kIn hl
    refine wpAny_call (make_map (f := f) I1.kIn Mk'.makes Mk'.init (beq_iff_eq.mp Mk'.fn) (codeAny_mono (F.run _ X.stack _ _ ⟨Value.ref (s1.heap.objs.size + 1) :: us, []⟩ _ _ _ (WE W σ) (hr.make (He.ga X.K cn) us []) (I2.env0.make (He.ga X.K cn) us []) b r2 hq) fun z s' hq' => ?_))
    match z, hq' with
    | .error e, hq' => exact L2N.passAt tk σ pins _ _ e s' I2 hq'
    | .ok (.ret u), hq' =>
      obtain ⟨v, H', I3, rv, ev, q3⟩ := I2.after hq'
      subst ev
      exact ⟨rv, ⟨V.ref (s1.heap.objs.size + 1), H', I3, rfl, q3⟩⟩
    | .ok .next, hq' => exact False.elim hq'
    | .ok .brk, hq' => exact False.elim hq'
    | .ok .cont, hq' => exact False.elim hq'
  · refine qa σ w S ρ _ er sr (h.bind fun w1 x u S1 e1 s1 rx h1 => qs σ w1 S1 ρ _ (er.ext hx e1) s1 (h1.bind fun w2 xs us S2 e2 s2 rs h2 => ?_))
    exact make_ok hs w2 S2 (x :: xs ++ intsD ns) (u :: us ++ ns.map V.int) Q _ s2 (Rels.append (show Rels X.K w2 (x :: xs) (u :: us) from ⟨u, us, rfl, rx.ext e2, rs⟩) (rels_ints ns)) h2
/-! ### chains, in -/
theorem e_chain {op op' : CmpOp} {r r' : R2} {f g : R → R → M R} (hx : xr.Ok) (ho : OpR X (compareOp op) r) (ho' : OpR X (compareOp op') r') (hm : lastMarks [op, op'] [b, c] = false)
    (hr : ∀ w S x y u v E Q, SR X.K w S → Rel X.K w x u → Rel X.K w y v → Hop X.K (Rel X.K) E w Q (f x y S) → r u v w.H Q) (hr' : ∀ w S x y u v E Q, SR X.K w S → Rel X.K w x u → Rel X.K w y v → Hop X.K (Rel X.K) E w Q (g x y S) → r' u v w.H Q)
    (ha : EOk X xr W a ma) (hb : EOk X xr W b mb) (hc : EOk X xr W c mc) :
    EOk X xr W (.Compare a [op, op'] [b, c] pos) (fun ρ => M.bind (ma ρ) fun x => M.bind (mb ρ) fun y => M.bind (M.bind (f x y) truB) fun t => if t = true then M.bind (mc ρ) fun z => g y z else M.pure (.dat (.bl false))) ∧
    TOk X xr W (.Compare a [op, op'] [b, c] pos) (fun ρ => M.bind (M.bind (ma ρ) fun x => M.bind (mb ρ) fun y => M.bind (M.bind (f x y) truB) fun t => if t = true then M.bind (mc ρ) fun z => g y z else M.pure (.dat (.bl false))) truB) := by
  obtain ⟨ta, pa, qa⟩ := ha
  obtain ⟨tb, pb, qb⟩ := hb
  obtain ⟨tc, pc, qc⟩ := hc
  have key : ∀ σ w S ρ (Q : VK), EnvR X.K xr w σ ρ → SR X.K w S → Hop X.K (Rel X.K) (WE W σ) w Q (M.bind (ma ρ) (fun x => M.bind (mb ρ) fun y => M.bind (M.bind (f x y) truB) fun t => if t = true then M.bind (mc ρ) fun z => g y z else M.pure (.dat (.bl false))) S) → tChain r r' ta tb tc σ w.H Q := by
    intro σ w S ρ Q er sr h
    refine qa σ w S ρ _ er sr (h.bind fun w1 x u S1 e1 s1 rx h1 => qb σ w1 S1 ρ _ (er.ext hx e1) s1 (h1.bind fun w2 y v S2 e2 s2 ry h2 => ?_))
    have er2 := (er.ext hx e1).ext hx e2
    have q2 := h2.bind (r1 := fun (_ : Wd) (b : Bool) (v : Bool) => b = v) (Q1 := fun (b : Bool) H => if b = true then tc σ H fun w' H4 => r' v w' H4 Q else Q (.bl false) H) fun w3 t t' S3 e3 s3 et h3 => by
      have et : t = t' := et
      subst et
      cases t with
      | true =>
        rw [if_pos rfl]
        exact qc σ w3 S3 ρ _ (er2.ext hx e3) s3 (h3.bind fun w4 z zv S4 e4 s4 rz h4 => hr' w4 S4 y z v zv (WE W σ) Q s4 ((ry.ext e3).ext e4) rz h4)
      | false =>
        rw [if_neg Bool.false_ne_true]
        exact h3 w3 (.bl false) (Ext.refl _) s3 rfl
    exact hr w2 S2 x y u v (WE W σ) _ s2 (rx.ext e2) ry (hop_truB q2 fun b w' q => ⟨b, rfl, q⟩)
  refine ⟨⟨_, pe_chain ho ho' pa pb pc hm, key⟩, ⟨_, pt_chain ho ho' pa pb pc hm, fun σ w S ρ Q er sr h => key σ w S ρ _ er sr (hop_truB h fun b w' q => ⟨b, rfl, q⟩)⟩⟩
theorem flat_ok {K : PySem.W.Frag} {w : Wd} {d : D} {u : V} (h : flatD d = true) (r : Rep K w d u) : flatV u = true := by
  cases d with
  | non => cases (show u = .non from r); rfl
  | bl b => cases (show u = .bl b from r); rfl
  | int b => cases (show u = .int b from r); rfl
  | str b => cases (show u = .str b from r); rfl
  | _ => cases h
theorem eqF_ok {K : PySem.W.Frag} {w : Wd} {d y : D} {u v : V} {c : Bool} (e : eqF d y = some c) (hu : Rep K w d u) (hv : Rep K w y v) : flatV v = true ∧ eqV v u = c := by
  cases d with
  | int i =>
    cases y with
    | int j =>
      cases e
      cases (show u = .int i from hu)
      cases (show v = .int j from hv)
      refine ⟨rfl, ?_⟩
      show (j == i) = decide (i = j)
      exact Bool.eq_iff_iff.mpr ⟨fun h => decide_eq_true (eq_of_beq h).symm, fun h => beq_iff_eq.mpr (of_decide_eq_true h).symm⟩
    | _ => cases e
  | str i =>
    cases y with
    | str j =>
      cases e
      cases (show u = .str i from hu)
      cases (show v = .str j from hv)
      refine ⟨rfl, ?_⟩
      show (j == i) = decide (i = j)
      exact Bool.eq_iff_iff.mpr ⟨fun h => decide_eq_true (eq_of_beq h).symm, fun h => beq_iff_eq.mpr (of_decide_eq_true h).symm⟩
    | _ => cases e
  | _ => cases e
theorem inF_ok {K : PySem.W.Frag} {w : Wd} {d : D} {u : V} (hu : Rep K w d u) : ∀ {rs : List R} {vs : List V} {b : Bool}, inF d rs = some b → Rels K w rs vs → vs.all flatV = true ∧ inV u vs = b
  | [], vs, b, h, e => by
    cases h
    have e : vs = [] := e
    subst e
    exact ⟨rfl, rfl⟩
  | r :: rs, vs, b, h, ⟨v, vr, ev, h1, h2⟩ => by
    subst ev
    cases r with
    | own k => cases h
    | exc c ns l => cases h
    | dat y =>
      unfold inF at h
      cases e1 : eqF d y with
      | none => simp only [e1] at h; cases h
      | some c =>
        cases e2 : inF d rs with
        | none => simp only [e1, e2] at h; cases h
        | some c2 =>
          simp only [e1, e2] at h
          cases h
          obtain ⟨g2, g3⟩ := eqF_ok e1 hu h1
          obtain ⟨k2, k3⟩ := inF_ok hu e2 h2
          refine ⟨by rw [List.all_cons, g2, k2]; rfl, ?_⟩
          unfold inV at k3 ⊢
          rw [List.any_cons, g3, k3]
theorem items_seq {K : PySem.W.Frag} {w : Wd} {S : Store} {y : R} {v : V} {rs : List R} (s : SR K w S) (r : Rel K w y v) (e : itemsR S y = some rs) : ∃ p vs, v = .ref p ∧ (SqL K w.H p vs ∨ SqT K w.H p vs) ∧ Rels K w rs vs := by
  obtain ⟨a, vs, e1, q, hz, h2⟩ := items_sq s r e
  exact ⟨a, vs, e1, q, h2⟩
theorem inR_ok {K : PySem.W.Frag} (n : Bool) : ∀ w S x y u v E Q, SR K w S → Rel K w x u → Rel K w y v → Hop K (Rel K) E w Q (inR n x y S) → rIn K n u v w.H Q := by
  intro w S x y u v E Q s rx ry h
  unfold inR at h
  cases x with
  | own k => exact h.elim
  | exc c ns l => exact h.elim
  | dat d =>
    cases e : itemsR S y with
    | none => simp only [e] at h; exact h.elim
    | some rs =>
      simp only [e] at h
      by_cases hf : flatD d = true
      · rw [if_pos hf] at h
        cases e2 : inF d rs with
        | none => simp only [e2] at h; exact h.elim
        | some b =>
          simp only [e2] at h
          obtain ⟨p, vs, e3, hq, hr⟩ := items_seq s ry e
          obtain ⟨k2, k3⟩ := inF_ok rx e2 hr
          refine ⟨p, vs, e3, hq, flat_ok hf rx, k2, ?_⟩
          rw [k3]
          exact hop_ok h s rfl
      · rw [if_neg hf] at h
        exact h.elim
end
/-! ### isinstance of own classes -/
structure InsB (K : PySem.W.Frag) (C : Addr) : Prop where
  cl : Cls K C
  ha : PySem.W.findIn K (.ref C) "__class__" = some (some (.builtin "object.__class__"))
  hn : PySem.W.specialIn K (.builtin "object.__class__") "__get__" = some (some (.builtin "getset_descriptor.__get__"))
  htk : PySem.W.takesIn K (.builtin "object.__class__") = some true
  hm : PySem.W.mroIn K C (.type "object") = some true
/-- what is known of isinstance(x, c) where x is of the type n -/
structure InsT (K : PySem.W.Frag) (n c : Str) (b : Bool) : Prop where
  ty : ∀ t : BTy, n = t.x → PySem.W.kitOne K (.type t.nm) (.ref (He.ga K c)) = some b
  non : n = "NoneType" → PySem.W.kitOne K (.type "NoneType") (.ref (He.ga K c)) = some b
  own : n ∉ bNames → InsB K (He.ga K n) ∧ PySem.W.kitOne K (.ref (He.ga K n)) (.ref (He.ga K c)) = some b
theorem tyN_at {K : PySem.W.Frag} {w : Wd} {S : Store} {x : R} {u : V} {n c : Str} {b : Bool} (s : SR K w S) (r : Rel K w x u) (e : tyN S x = some n) (T : InsT K n c b) : ∃ t, TyX K w.H u t ∧ PySem.W.kitOne K t (.ref (He.ga K c)) = some b := by
  have viaT : ∀ y : R, y = x → (tyR S y).map BTy.x = some n → ∃ t, TyX K w.H u t ∧ PySem.W.kitOne K t (.ref (He.ga K c)) = some b := by
    intro y ey h
    subst ey
    obtain ⟨t, e1, e2⟩ := Option.map_eq_some_iff.mp h
    exact ⟨_, ty_at s r e1, T.ty t e2.symm⟩
  have viaO : ∀ c' a dx fs, (if c' ∈ bNames then none else some c') = some n → u = .ref a → w.H a = some (.ins (He.ga K c') dx fs) → ∃ t, TyX K w.H u t ∧ PySem.W.kitOne K t (.ref (He.ga K c)) = some b := by
    intro c' a dx fs h eu ea
    by_cases z : c' ∈ bNames
    · rw [if_pos z] at h
      cases h
    · rw [if_neg z] at h
      cases h
      obtain ⟨I, k⟩ := T.own z
      subst eu
      exact ⟨_, .base (.ins ea I.cl I.ha I.hn I.htk I.hm), k⟩
  cases x with
  | exc c ns l => cases e
  | own k =>
    unfold tyN at e
    cases ek : S[k]? with
    | none => simp only [ek] at e; exact viaT (.own k) rfl e
    | some cc =>
      cases cc with
      | obj c' ns rs =>
        simp only [ek] at e
        obtain ⟨hk, e1⟩ := r
        obtain ⟨c2, hc, hr⟩ := s.get hk
        rw [ek] at hc
        cases hc
        obtain ⟨dx, fs, h1, h2, h3⟩ := hr
        exact viaO c' _ dx fs e e1 h1
      | lst rs => simp only [ek] at e; exact viaT (.own k) rfl e
      | tup rs => simp only [ek] at e; exact viaT (.own k) rfl e
  | dat d =>
    cases d with
    | obj c' ns l =>
      obtain ⟨a, dx, fs, e1, _, h1, h2, h3⟩ := r
      exact viaO c' a dx fs e e1 h1
    | non =>
      cases e
      cases (show u = .non from r)
      exact ⟨_, .base .non, T.non rfl⟩
    | bl b => exact viaT _ rfl e
    | int b => exact viaT _ rfl e
    | str b => exact viaT _ rfl e
    | tup b => exact viaT _ rfl e
    | lst b => exact viaT _ rfl e
    | slst b => exact viaT _ rfl e
section
variable {X : Cx} {xr : XR} {W : WX} {a : Expr} {ma : MP.Env → M R} {pos p0 p1 : Pos}
theorem e_isC {CC : Calls} (c : Str) (hg : Gl X "isinstance") (hm : X.mg "isinstance" = none) (hgC : Gl X c) (hmC : X.mg c = some (.ref (He.ga X.K c))) (hdb : (c == ("__debug__" : Str)) = false) (hI : ∀ n b, CC.ins n c = some b → InsT X.K n c b)
    (he : starEach [a, .Name c p1] X.env = (false, eval a X.env) :: starEach [.Name c p1] X.env) (he2 : starEach [.Name c p1] X.env = (false, eval (.Name c p1) X.env) :: starEach [] X.env)
    (hpl : (backTo pos (starEach [.Name c p1] X.env)).any (·.1) = false) (ha : EOk X xr W a ma) : EOk X xr W (.Call (.Name "isinstance" p0) [a, .Name c p1] [] pos) (fun ρ => M.bind (ma ρ) fun x => isCR CC x c) := by
  obtain ⟨ta, pa, qa⟩ := ha
  have pC : PE X (.Name c p1) (tC (.ref (He.ga X.K c))) := pe_glob hgC hmC rfl hdb
  refine ⟨_, pe_callB call_isi hg hm (by first | rfl | decide +kernel) (pa_cons pa (pa_cons pC pa_nil he2) he) (by decide) (by decide) he hpl, fun σ w S ρ Q er sr h => qa σ w S ρ _ er sr (h.bind fun w1 x u S1 e1 s1 rx h1 => ?_)⟩
  unfold isCR at h1
  cases e : tyN S1 x with
  | none => simp only [e] at h1; exact h1.elim
  | some n =>
    simp only [e] at h1
    cases e2 : CC.ins n c with
    | none => simp only [e2] at h1; exact h1.elim
    | some b =>
      simp only [e2] at h1
      obtain ⟨t, ty, k⟩ := tyN_at s1 rx e (hI n b e2)
      exact ⟨u, .ref (He.ga X.K c), t, _, b, rfl, .own _, ty, k, hop_ok h1 s1 rfl⟩
end
end MP
set_option Elab.async false
set_option linter.all false
set_option maxRecDepth 100000
set_option maxHeartbeats 4000000
/-! MPSide: what holds of the code's form. -/
namespace MP
open PySem PySem.Spec PyProof.Rows L2
theorem star_e (e : IE) (r : List Expr) (env : PySem.Env) : starEach (e.e :: r) env = (false, eval e.e env) :: starEach r env := by
  cases e <;> rfl
theorem star_nil (env : PySem.Env) : starEach [] env = [] := rfl
theorem plain_es (pos : Pos) (env : PySem.Env) : ∀ es : IEs, (backTo pos (starEach es.es env)).any (·.1) = false
  | .nil => rfl
  | .cons e r => by
    show (backTo pos (starEach (e.e :: r.es) env)).any (·.1) = false
    rw [star_e]
    show (false || (backTo pos (starEach r.es env)).any (·.1)) = false
    rw [plain_es pos env r]
    rfl
theorem allp_es (pos : Pos) (env : PySem.Env) : ∀ es : IEs, (backTo pos (starEach es.es env)).all (fun x => !x.1) = true
  | .nil => rfl
  | .cons e r => by
    show (backTo pos (starEach (e.e :: r.es) env)).all (fun x => !x.1) = true
    rw [star_e]
    show (true && (backTo pos (starEach r.es env)).all (fun x => !x.1)) = true
    rw [allp_es pos env r]
    rfl
def IEs.len : IEs → Nat
  | .nil => 0
  | .cons _ r => r.len + 1
def IKs.nms : IKs → List Str
  | .nil => []
  | .cons n _ _ r => n :: r.nms
theorem len_es : ∀ es : IEs, es.es.length = es.len
  | .nil => rfl
  | .cons e r => by
    show r.es.length + 1 = _
    rw [len_es r]
    rfl
theorem kw_all (pos : Pos) (env : PySem.Env) : ∀ ks : IKs, (backToKw pos (keywordEach ks.ks env)).all (·.1.isSome) = true ∧ (backToKw pos (keywordEach ks.ks env)).filterMap (·.1) = ks.nms ∧ (backToKw pos (keywordEach ks.ks env)).any (·.1.isNone) = false
  | .nil => ⟨rfl, rfl, rfl⟩
  | .cons n e p r => by
    obtain ⟨h1, h2, h3⟩ := kw_all pos env r
    refine ⟨?_, ?_, ?_⟩
    · show (true && (backToKw pos (keywordEach r.ks env)).all (·.1.isSome)) = true
      rw [h1]
      rfl
    · show n :: (backToKw pos (keywordEach r.ks env)).filterMap (·.1) = _
      rw [h2]
      rfl
    · show (false || (backToKw pos (keywordEach r.ks env)).any (·.1.isNone)) = false
      rw [h3]
      rfl
theorem behind_ok (op : Cop) (e : IE) : behindInMarks op.o e.e = false := by
  cases e <;> rfl
theorem last_ok (op op2 : Cop) (e e2 : IE) : lastMarks [op.o, op2.o] [e.e, e2.e] = false := behind_ok op2 e2
/-- an attribute's base -/
def plainB : IE → Bool
  | .callKK _ _ _ _ _ _ => false
  | _ => true
theorem base_ok (e : IE) (f : Str) (env : PySem.Env) (h : plainB e = true) : attributeBase e.e f env (eval e.e env) = eval e.e env := by
  cases e with
  | callKK => cases h
  | _ => rfl
theorem folded_ok (it : II) (env : PySem.Env) (x : Value) : foldedSetIterable it.e env x = pure x := by
  cases it with
  | of e => cases e <;> rfl
  | _ => rfl
def plainI : IE → Bool
  | .tup _ _ _ => false
  | _ => true
theorem plainIx (e : IE) (h : plainI e = true) : PlainIx e.e := by
  cases e with
  | tup => cases h
  | _ => intro o i; rfl
/-- a test that is an expression's value -/
def tstV : IE → Bool
  | .cmp _ _ _ _ => false
  | .isN _ _ _ _ _ => false
  | .not _ _ => false
  | .and _ _ _ => false
  | .or _ _ _ => false
  | .ifx _ _ _ _ => false
  | .chain _ _ _ _ _ _ => false
  | .inn _ _ _ _ => false
  | _ => true
theorem tst_ok (e : IE) (env : PySem.Env) (h : tstV e = true) : ∀ whole, isTrue e.e env whole = (do let v ← whole; standAt e.e.pos; holding [v] (truthy v)) := by
  cases e <;> first | (cases h; done) | (intro w; rfl)
def noLc : IE → Bool
  | .lc _ _ _ _ _ _ _ _ => false
  | .lc2 _ _ _ _ _ _ _ _ _ _ _ _ => false
  | _ => true
theorem swap_ok (e : IE) (t : Option Expr) (line : Nat) (env : PySem.Env) (h : noLc e = true) : swapsWith e.e t line env = pure false := by
  cases e <;> first | (cases h; done) | rfl
theorem ev_len (C : Calls) : ∀ (es : IEs) (ρ : MP.Env) (S : Store) (rs : List R) (S' : Store), evEs C es ρ S = .ok rs S' → rs.length = es.len
  | .nil, ρ, S, rs, S', h => by
    cases (show Res.ok [] S = Res.ok rs S' from h)
    rfl
  | .cons e r, ρ, S, rs, S', h => by
    obtain ⟨x, S1, _, h2⟩ := bind_ok (show M.bind _ _ S = _ from h)
    obtain ⟨xs, S2, h3, h4⟩ := bind_ok h2
    cases (show Res.ok (x :: xs) S2 = Res.ok rs S' from h4)
    show xs.length + 1 = r.len + 1
    rw [ev_len C r ρ S1 xs S' h3]
theorem ek_len (C : Calls) : ∀ (ks : IKs) (ρ : MP.Env) (S : Store) (rs : List R) (S' : Store), evKs C ks ρ S = .ok rs S' → rs.length = ks.nms.length
  | .nil, ρ, S, rs, S', h => by
    cases (show Res.ok [] S = Res.ok rs S' from h)
    rfl
  | .cons n e p r, ρ, S, rs, S', h => by
    obtain ⟨x, S1, _, h2⟩ := bind_ok (show M.bind _ _ S = _ from h)
    obtain ⟨xs, S2, h3, h4⟩ := bind_ok h2
    cases (show Res.ok (x :: xs) S2 = Res.ok rs S' from h4)
    show xs.length + 1 = r.nms.length + 1
    rw [ek_len C r ρ S1 xs S' h3]
/-! ### the static tables -/
structure SC where
  N : List Str
  sc : Scope
  calm : Bool
structure ST where
  T : Tab
  tops : List (Nat × Str)
  hots : List (Nat × Str)
  cls : List (Str × Nat)
  attrs : List (Str × Str)
  xcs : List (Str × List (Str × Bool))
  blt : List Str
  gis : List (Str × Int)
  exn : List Str
  kws : List (Nat × Nat × List Str × List Nat)
  math : List (Str × String)
  mets : List (Str × Str × Nat)
  ops : List Str
  props : List (Str × Str × Nat)
  dfs : List (Nat × List Int)
  kwo : List Nat := []
def okV (Γ : SC) (i : Nat) (x : Str) : Bool := decide (Γ.N[i]? = some x) && (match Γ.sc.names.lookup x with | some .local => true | some .cell => true | some .free => true | _ => false) && !(x == ("__debug__" : Str)) && !(x == ("__classdict__" : Str))
def okG (Γ : SC) (x : Str) : Bool := decide (Γ.sc.names.lookup x = some .globalImplicit)
def okN (Γ : SC) (i : Nat) (x : Str) : Bool := decide (Γ.N[i]? = some x) && (match Γ.sc.names.lookup x with | some .local => true | some .cell => true | _ => false)
def okT (Γ : SC) : IT → Bool
  | .one i x _ => okN Γ i x
  | .many l _ _ => Γ.calm && l.all fun q => okN Γ q.1 q.2.1
def IT.many? : IT → Bool
  | .one _ _ _ => false
  | .many _ _ _ => true
def Cop.isEq : Cop → Bool
  | .eq => true
  | .ne => true
  | _ => false
def Bf.calm : Bf → Bool
  | .max => true
  | .min => true
  | .sum => true
  | .all => true
  | .tuple => true
  | .list => true
  | _ => false
/-- an operator's method -/
def Bop.dn : Bop → Str
  | .add => "__add__" | .sub => "__sub__" | .mul => "__mul__" | .fdiv => "__floordiv__" | .mod => "__mod__" | .pow => "__pow__"
theorem dn_ok (op : Bop) : dunder op.o.info.2 = op.dn := by
  cases op <;> decide +kernel
theorem meth_look (X : Cx) (o : IE) (n : Str) (p1 p : Pos) (es : IEs) (h : plainB o = true) (hl : es.len < 20) (hp : (p1.endLine == p.line) = true) : MForm X o.e n p1 p es.es where
  base := base_ok o n _ h
  few := by
    have q1 := allp_es p X.env es
    have q2 : es.es.length = es.len := len_es es
    rw [Bool.and_eq_true, Bool.and_eq_true]
    refine ⟨⟨q1, rfl⟩, decide_eq_true ?_⟩
    rw [q2]
    show es.len + 0 + 0 < 30
    omega
  line := hp
mutual
def okE (s : ST) (Γ : SC) : IE → Bool
  | .var i x _ => okV Γ i x
  | .int _ _ _ => true
  | .bl _ _ _ => true
  | .non _ _ => true
  | .str _ _ _ => true
  | .gint i x _ => okG Γ x && decide ((x, i) ∈ s.gis) && !(x == ("__debug__" : Str))
  | .bin _ _ a b _ => okE s Γ a && okE s Γ b
  | .neg a _ => okE s Γ a
  | .cmp _ a b _ => okE s Γ a && okE s Γ b
  | .isN _ a _ _ _ => okE s Γ a
  | .not a _ => okE s Γ a && okTst a
  | .and a r _ => okE s Γ a && okTst a && okEs s Γ r && okTsts r
  | .or a r _ => okE s Γ a && okTst a && okEs s Γ r && okTsts r
  | .ifx c a b _ => okE s Γ c && okTst c && okE s Γ a && okE s Γ b
  | .lst _ es _ => okEs s Γ es && decide (es.len ≤ 1000)
  | .tup es _ _ => okEs s Γ es && decide (es.len ≤ 1000)
  | .ix a i _ => okE s Γ a && okE s Γ i && plainI i
  | .sl _ a lo hi _ _ => okE s Γ a && okEs s Γ lo && decide (lo.len ≤ 1) && okEs s Γ hi && decide (hi.len ≤ 1)
  | .attr a c f _ => okE s Γ a && decide ((c, f) ∈ s.attrs) && plainB a
  | .call f x a es _ _ => okG Γ x && (if Γ.calm then decide ((f, x) ∈ s.tops) && decide (f ∉ s.kwo) else decide ((f, x) ∈ s.hots)) && okE s Γ a && okEs s Γ es
  | .callK f x a es kw pm _ _ => Γ.calm && okG Γ x && decide ((f, x) ∈ s.tops) && decide ((f, es.len + 1, kw.nms, pm) ∈ s.kws) && okE s Γ a && okEs s Γ es && okKs s Γ kw
  | .callKK f x kw pm _ _ => Γ.calm && okG Γ x && decide ((f, x) ∈ s.tops) && decide ((f, 0, kw.nms, pm) ∈ s.kws) && okKs s Γ kw
  | .bi _ f a es _ _ => (Γ.calm || !f.calm) && okG Γ f.x && decide (f.x ∈ s.blt) && okE s Γ a && okEs s Γ es
  | .gcd l a b _ _ => okG Γ (if l then "lcm" else "gcd") && decide (((if l then "lcm" else "gcd" : Str), (if l then "math.lcm" else "math.gcd")) ∈ s.math) && okE s Γ a && okE s Γ b
  | .make _ f c a es _ _ => Γ.calm && okG Γ c && decide ((c, f) ∈ s.cls) && okE s Γ a && okEs s Γ es
  | .meth f c o n es p1 p => Γ.calm && decide ((c, n, f) ∈ s.mets) && plainB o && decide (es.len < 20) && (p1.endLine == p.line) && okE s Γ o && okEs s Γ es
  | .callD f x a es ds _ _ => Γ.calm && okG Γ x && decide ((f, x) ∈ s.tops) && decide ((f, ds) ∈ s.dfs) && okE s Γ a && okEs s Γ es
  | .makeD _ f c a es ds _ _ => Γ.calm && okG Γ c && decide ((c, f) ∈ s.cls) && decide ((f, ds) ∈ s.dfs) && okE s Γ a && okEs s Γ es
  | .opm f c op a b _ => Γ.calm && decide ((c, op.dn, f) ∈ s.mets) && decide (c ∈ s.ops) && okE s Γ a && okE s Γ b
  | .prop f c o n _ => Γ.calm && decide ((c, n, f) ∈ s.props) && plainB o && okE s Γ o
  | .chain _ _ a b c _ => okE s Γ a && okE s Γ b && okE s Γ c
  | .inn _ a b _ => okE s Γ a && okE s Γ b
  | .lmeth o n es p1 p => okE s Γ o && okEs s Γ es && plainB o && decide (es.len < 20) && (p1.endLine == p.line) && (match n, es with
    | .append, .nil => false
    | _, _ => true)
  | .isT a T _ _ _ => okG Γ "isinstance" && decide (("isinstance" : Str) ∈ s.blt) && okG Γ T.x && decide (T.x ∈ s.blt) && okE s Γ a
  | .isC a c _ _ _ => okG Γ "isinstance" && decide (("isinstance" : Str) ∈ s.blt) && okG Γ c && decide (c ∈ s.exn) && okE s Γ a
  | .xIs i x c _ _ _ _ => okV Γ i x && okG Γ "isinstance" && decide (("isinstance" : Str) ∈ s.blt) && okG Γ c && decide (c ∈ s.exn)
  | .xAt i x _ _ _ => okV Γ i x
  | .lc _ e t it cs own sc _ => Γ.calm && okII s Γ t.many? it && blkC Γ.N Γ.sc sc own && okT ⟨Γ.N, sc, true⟩ t && (t.ix.all fun i => decide (i ∈ own.map (·.2))) && okEs s ⟨Γ.N, sc, true⟩ cs && okTsts cs && decide (cs.len ≤ 1) && okE s ⟨Γ.N, sc, true⟩ e
  | .lc2 _ e t it cs t2 it2 cs2 own vs2 sc _ => Γ.calm && okII s Γ t.many? it && blkC Γ.N Γ.sc sc own && okT ⟨Γ.N, sc, true⟩ t && (t.ix.all fun i => decide (i ∈ own.map (·.2))) && okEs s ⟨Γ.N, sc, true⟩ cs && okTsts cs && decide (cs.len ≤ 1) &&
      okII s ⟨Γ.N, sc, true⟩ t2.many? it2 && okT ⟨Γ.N, sc, true⟩ t2 && (t2.ix.all fun i => decide (i ∈ vs2)) && (vs2.all fun i => decide (i ∈ own.map (·.2))) && okEs s ⟨Γ.N, sc, true⟩ cs2 && okTsts cs2 && decide (cs2.len ≤ 1) && okE s ⟨Γ.N, sc, true⟩ e
def okEs (s : ST) (Γ : SC) : IEs → Bool
  | .nil => true
  | .cons e r => okE s Γ e && okEs s Γ r
def okKs (s : ST) (Γ : SC) : IKs → Bool
  | .nil => true
  | .cons _ e _ r => okE s Γ e && okKs s Γ r
def okII (s : ST) (Γ : SC) (m : Bool) : II → Bool
  | .of e => okE s Γ e
  | .rng1 a _ _ => okG Γ "range" && decide (("range" : Str) ∈ s.blt) && okE s Γ a
  | .rng2 a b _ _ => okG Γ "range" && decide (("range" : Str) ∈ s.blt) && okE s Γ a && okE s Γ b
  | .enum a _ _ => m && okG Γ "enumerate" && decide (("enumerate" : Str) ∈ s.blt) && okE s Γ a
  | .zip a b _ _ => m && okG Γ "zip" && decide (("zip" : Str) ∈ s.blt) && okE s Γ a && okE s Γ b
  | .zip3 _ _ _ _ _ => false
/-- fit to be a test -/
def okTst : IE → Bool
  | .ifx _ _ _ _ => false
  | _ => true
def okTsts : IEs → Bool
  | .nil => true
  | .cons e r => okTst e && okTsts r
end
end MP
set_option Elab.async false
set_option linter.all false
set_option maxRecDepth 100000
set_option maxHeartbeats 4000000
/-! MPSound: what is sound of expressions. -/
namespace MP
open PySem PySem.Spec PyProof.Rows L2
/-- where the defs and the classes stand -/
structure FA where
  adr : Nat → Addr
  fd : Nat → FuncData
  ps : Nat → List Str
/-- the promise of the n-th evaluation -/
def spF (K : PySem.W.Frag) (T : Tab) (n f : Nat) : Sp := fun vs H Q E => ∃ w S rs, w.H = H ∧ SR K w S ∧ Rels K w rs vs ∧ Hop K (Rel K) E w Q (callN T n f rs S)
structure GF (P : Program) (w : World) (K : PySem.W.Frag) (mg : Str → Option Value) (base : Heap) (s : ST) (a : FA) : Prop where
  top : ∀ q ∈ s.tops, mg q.2 = some (.ref (a.adr q.1)) ∧ PySem.W.keepIn K (.ref (a.adr q.1)) = true ∧ (q.1 ∉ s.kwo → Binds K (a.fd q.1) (a.ps q.1) []) ∧ (q.2 == ("__debug__" : Str)) = false ∧ ∃ F, s.T.fns[q.1]? = some F
  hot : ∀ q ∈ s.hots, q ∈ s.tops ∧ q.1 ∉ s.kwo
  cls : ∀ q ∈ s.cls, Mk K (He.ga K q.1) (a.adr q.2) ∧ mg q.1 = some (.ref (He.ga K q.1)) ∧ Binds K (a.fd q.2) (a.ps q.2) [] ∧ (q.1 == ("__debug__" : Str)) = false ∧ ∃ F, s.T.fns[q.2]? = some F
  attrs : ∀ q ∈ s.attrs, Cls K (He.ga K q.1) ∧ NoAttr K (He.ga K q.1) q.2
  blt : ∀ x ∈ s.blt, mg x = none
  gis : ∀ q ∈ s.gis, ∃ t, mg q.1 = some (.int q.2 t)
  exn : ∀ x ∈ s.exn, mg x = some (.ref (He.ga K x)) ∧ (x == ("__debug__" : Str)) = false
  kws : ∀ q ∈ s.kws, KwB (a.fd q.1) (a.ps q.1) q.2.1 q.2.2.1 q.2.2.2
  math : ∀ q ∈ s.math, mg q.1 = some (.builtin q.2)
  sub : ∀ c' c b, s.T.sub c' c = some b → c ∈ s.exn → ExcC K (He.ga K c') ∧ PySem.W.kitOne K (.ref (He.ga K c')) (.ref (He.ga K c)) = some b
  subE : SubE K s.T.sub
  xf : ∀ c f, s.T.xf c f = true → XfC K (He.ga K c) ∧ PySem.W.findIn K (.ref (He.ga K c)) f = some none
  xcs : ∀ q ∈ s.xcs, ∃ fI fd ps, OexC K (He.ga K q.1) ∧ PySem.W.findIn K (.ref (He.ga K q.1)) "__init__" = some (some (.ref fI)) ∧ PySem.W.typeIn K (.ref fI) = some (.type "function") ∧ q.2.map (·.1) ≠ [] ∧ (q.2.map (·.1)).length ≤ 900 ∧
    FnOk P w K mg base (L2N.CX P w) 2 fI fd ps (spO (He.ga K q.1) (q.2.map (·.1)) (kpOf q.2)) ∧ Binds K fd ps [] ∧ mg q.1 = some (.ref (He.ga K q.1)) ∧ (q.1 == ("__debug__" : Str)) = false
  mets : ∀ q ∈ s.mets, Cls K (He.ga K q.1) ∧ Meth K (He.ga K q.1) q.2.1 (a.adr q.2.2) ∧ Binds K (a.fd q.2.2) (a.ps q.2.2) [] ∧ ∃ F, s.T.fns[q.2.2]? = some F
  opc : ∀ c ∈ s.ops, PySem.W.selfFirst K (He.ga K c) = true
  props : ∀ q ∈ s.props, Cls K (He.ga K q.1) ∧ (∃ p, PropOf K (He.ga K q.1) q.2.1 p (a.adr q.2.2)) ∧ Binds K (a.fd q.2.2) (a.ps q.2.2) [] ∧ ∃ F, s.T.fns[q.2.2]? = some F
  dfs : ∀ q ∈ s.dfs, ∃ dv, Vals (q.2.map V.int) dv ∧ Binds K (a.fd q.1) (a.ps q.1) dv
  ins : ∀ n c b, s.T.ins n c = some b → InsT K n c b
/-- the defs keep their promises at level n -/
structure FL (P : Program) (w : World) (K : PySem.W.Frag) (mg : Str → Option Value) (base : Heap) (s : ST) (a : FA) (n : Nat) : Prop where
  calm : ∀ f F, s.T.fns[f]? = some F → FnOk P w K mg base (L2N.CX P w) (3 * n + 1) (a.adr f) (a.fd f) (a.ps f) (spF K s.T n f)
  hot : ∀ q ∈ s.hots, L2H.FnH P w K mg base (L2N.CX P w) (3 * n + 1) (a.adr q.1) (a.fd q.1) (a.ps q.1) (spF K s.T n q.1)
structure XF (s : ST) (a : FA) (n : Nat) (Γ : SC) (X : Cx) (xr : XR) (W : WX) : Prop where
  gf : GF X.prog X.w X.K X.mg X.base s a
  fl : FL X.prog X.w X.K X.mg X.base s a n
  N : X.N = Γ.N
  nd : X.N.Nodup
  sc : ∀ x k, Γ.sc.names.lookup x = some k → X.env.scope.names.lookup x = some k ∨ (k = .free ∧ X.env.scope.names.lookup x = some .cell)
  fnc : ∀ x, Γ.sc.names.lookup x = some .cell → X.fn x = true
  calm : Γ.calm = true → X.calm = true ∧ Room (3 * n + 3) X.A ∧ xr = xr0
  hot : Γ.calm = false → L2H.RoomH (3 * n + 3) X.A ∧ L2H.HotC X ∧ XAt X xr
  tk : L2N.Takes X W
  xok : xr.Ok
section
variable {s : ST} {a : FA} {n : Nat} {Γ : SC} {X : Cx} {xr : XR} {W : WX}
theorem XF.units (x : XF s a n Γ X xr W) : X.A.units + 64 < cLine := by
  cases h : Γ.calm with
  | true => exact (x.calm h).2.1.units
  | false =>
    have := (x.hot h).1.un
    omega
theorem XF.xat (x : XF s a n Γ X xr W) : XAt X xr := by
  cases h : Γ.calm with
  | true =>
    have e := (x.calm h).2.2
    subst e
    exact fun _ _ _ _ _ z => z.elim
  | false => exact (x.hot h).2.2
theorem XF.gl (x : XF s a n Γ X xr W) {y : Str} (h : okG Γ y = true) : Gl X y := by
  rcases x.sc y _ (of_decide_eq_true h) with q | q
  · exact q
  · cases q.1
theorem XF.vis (x : XF s a n Γ X xr W) {i : Nat} {y : Str} (h : okV Γ i y = true) : X.N[i]? = some y ∧ Vis X.env.scope y ∧ (y == ("__debug__" : Str)) = false ∧ (y == ("__classdict__" : Str)) = false := by
  unfold okV at h
  rw [Bool.and_eq_true, Bool.and_eq_true, Bool.and_eq_true] at h
  obtain ⟨⟨⟨h1, h2⟩, h3⟩, h4⟩ := h
  refine ⟨by rw [x.N]; exact of_decide_eq_true h1, ?_, by simpa using h3, by simpa using h4⟩
  cases e : Γ.sc.names.lookup y with
  | none => rw [e] at h2; cases h2
  | some k =>
    rcases x.sc y k e with q | ⟨q1, q2⟩
    · cases k with
      | «local» => exact .inl q
      | cell => exact .inr (.inl q)
      | free => exact .inr (.inr q)
      | _ => rw [e] at h2; cases h2
    · exact .inr (.inl q2)
theorem XF.nm (x : XF s a n Γ X xr W) {i : Nat} {y : Str} (h : okN Γ i y = true) : NmOk X i y := by
  unfold okN at h
  rw [Bool.and_eq_true] at h
  obtain ⟨h1, h2⟩ := h
  have e1 : X.N[i]? = some y := by rw [x.N]; exact of_decide_eq_true h1
  cases e : Γ.sc.names.lookup y with
  | none => rw [e] at h2; cases h2
  | some k =>
    rcases x.sc y k e with q | ⟨q1, q2⟩
    · cases k with
      | «local» => exact ⟨e1, .inl q, .inr q⟩
      | cell => exact ⟨e1, .inr q, .inl (x.fnc y e)⟩
      | _ => rw [e] at h2; cases h2
    · subst q1
      rw [e] at h2
      cases h2
theorem XF.tg (x : XF s a n Γ X xr W) {t : IT} (h : okT Γ t = true) : ITOk X t := by
  cases t with
  | one i y p => exact x.nm h
  | many l k p =>
    have h : (Γ.calm && l.all fun q => okN Γ q.1 q.2.1) = true := h
    rw [Bool.and_eq_true] at h
    exact ⟨(x.calm h.1).1, fun q hq => x.nm (List.all_eq_true.mp h.2 q hq)⟩
/-- within a comprehension -/
theorem XF.blk (x : XF s a n Γ X xr W) (hc : Γ.calm = true) (sc : Scope) : Blks X sc fun Y => XF s a n ⟨Γ.N, sc, true⟩ Y xr W0 := fun st H C cl fp =>
  { gf := x.gf
    fl := x.fl
    N := x.N
    nd := x.nd
    sc := fun y k h => by
      have e : ∀ (names : List (Str × NameKind)) (k : NameKind), names.lookup y = some k → (names.map fun (n, k) => if (k == NameKind.free && X.env.scope.kind == .function && X.env.kindOf n == some .cell) then (n, NameKind.cell) else (n, k)).lookup y = some k ∨ (k = .free ∧ (names.map fun (n, k) => if (k == NameKind.free && X.env.scope.kind == .function && X.env.kindOf n == some .cell) then (n, NameKind.cell) else (n, k)).lookup y = some .cell) := by
        intro names
        induction names with
        | nil => intro k h; cases h
        | cons q r ih =>
          intro k h
          obtain ⟨z, kz⟩ := q
          rw [List.lookup_cons] at h
          rw [List.map_cons]
          by_cases hz : y == z
          · rw [hz] at h
            cases h
            by_cases hk : (k == NameKind.free && X.env.scope.kind == .function && X.env.kindOf z == some .cell) = true
            · right
              refine ⟨?_, ?_⟩
              · rw [Bool.and_eq_true, Bool.and_eq_true] at hk
                exact eq_of_beq hk.1.1
              · simp only [if_pos hk]
                rw [List.lookup_cons, hz]
            · left
              simp only [if_neg hk]
              rw [List.lookup_cons, hz]
          · have hz' : (y == z) = false := by simpa using hz
            rw [hz'] at h
            have q := ih k h
            have lk : ∀ (w : Str × NameKind) (l : List (Str × NameKind)), w.1 = z → (w :: l).lookup y = l.lookup y := fun w l hw => by
              obtain ⟨w1, w2⟩ := w
              have hw' : w1 = z := hw
              subst hw'
              rw [List.lookup_cons, hz']
            have one : (if (kz == NameKind.free && X.env.scope.kind == .function && X.env.kindOf z == some .cell) = true then (z, NameKind.cell) else (z, kz)).1 = z := by split <;> rfl
            rw [lk _ _ one]
            exact q
      exact e sc.names k h
    fnc := fun y h => by
      show (sc.names.lookup y == some .cell) = true
      have h : sc.names.lookup y = some .cell := h
      rw [h]
      rfl
    calm := fun _ => x.calm hc
    hot := fun h => Bool.noConfusion h
    tk := takes0
    xok := x.xok }
theorem spF_ok {K : PySem.W.Frag} {T : Tab} {n f : Nat} : SpOk K (spF K T n f) (fun rs => callN T n f rs) := fun w S rs vs Q E s r h => ⟨w, S, rs, rfl, s, r, h⟩
/-! ### built-in functions -/
theorem e_bif {m : Bool} {e : Expr} {es : List Expr} {ma : MP.Env → M R} {ms : MP.Env → M (List R)} {p0 pos : Pos} (f : Bf) (hx : xr.Ok) (hc : f.calm = true → X.calm = true) (hg : Gl X f.x) (hm : X.mg f.x = none)
    (he : starEach (e :: es) X.env = (false, eval e X.env) :: starEach es X.env) (hpl : (backTo pos (starEach es X.env)).any (·.1) = false) (ha : EOk X xr W e ma) (hs : AOk X xr W es ms) :
    EOk X xr W (.Call (.Name f.x p0) (e :: es) [] pos) (fun ρ => M.bind (ma ρ) fun x => M.bind (ms ρ) fun xs => biR m f (x :: xs)) := by
  cases f with
  | len => exact e_bi hx call_len_seq hg hm (by first | rfl | decide +kernel) (by decide) (by decide) he hpl ha hs (len_ok m)
  | sum => exact e_bi hx (cr_sumAny (hc rfl)) hg hm (by first | rfl | decide +kernel) (by decide) (by decide) he hpl ha hs (sum_ok m)
  | int => exact e_biT hx call_int1 hg hm (by first | rfl | decide +kernel) (by decide) (by decide) he hpl ha hs (int_ok m)
  | abs => exact e_bi hx call_abs hg hm (by first | rfl | decide +kernel) (by decide) (by decide) he hpl ha hs (abs_ok m)
  | max => exact e_bi hx (cr_maxAny (hc rfl)) hg hm (by first | rfl | decide +kernel) (by decide) (by decide) he hpl ha hs (max_ok m)
  | min => exact e_bi hx (cr_minAny (hc rfl)) hg hm (by first | rfl | decide +kernel) (by decide) (by decide) he hpl ha hs (min_ok m)
  | all => exact e_bi hx (cr_all (hc rfl)) hg hm (by first | rfl | decide +kernel) (by decide) (by decide) he hpl ha hs (all_ok m)
  | list => exact e_biT hx call_list_of hg hm (by first | rfl | decide +kernel) (by decide) (by decide) he hpl ha hs (list_ok m)
  | tuple => exact e_biT hx call_tuple_of hg hm (by first | rfl | decide +kernel) (by decide) (by decide) he hpl ha hs (tuple_ok m)
end
end MP
set_option Elab.async false
set_option linter.all false
set_option maxRecDepth 100000
set_option maxHeartbeats 4000000
/-! MPSound2: expressions are sound. -/
namespace MP
open PySem PySem.Spec PyProof.Rows L2
section
variable {X : Cx} {xr : XR} {W : WX} {a b : IE} {ma mb : MP.Env → M R} {p : Pos}
theorem b_op (hx : xr.Ok) (m : Bool) (op : Bop) (ha : EOk X xr W a.e ma) (hb : EOk X xr W b.e mb) : EOk X xr W (.BinOp a.e op.o b.e p) (fun ρ => M.bind (ma ρ) fun x => M.bind (mb ρ) fun y => binR m op x y) := by
  cases op with
  | add => exact e_bin2 hx op_addAny (binadd_ok m) ha hb
  | sub => exact e_bin2 hx op_sub (fun w S x y u v E Q s r1 r2 h => rI_I0 (binsub_ok m w S x y u v E Q s r1 r2 h)) ha hb
  | mul => exact e_bin2 hx op_mulAny (binmul_ok m) ha hb
  | fdiv => exact e_bin2 hx op_fdivW (bindiv_ok m) ha hb
  | mod => exact e_bin2 hx op_mod (binmod_ok m) ha hb
  | pow => exact e_bin2 hx op_powW (binpow_ok m) ha hb
theorem b_cmp (hx : xr.Ok) (hu : X.A.units + 64 < cLine) (op : Cop) (ha : EOk X xr W a.e ma) (hb : EOk X xr W b.e mb) : EOk X xr W (.Compare a.e [op.o] [b.e] p) (fun ρ => M.bind (ma ρ) fun x => M.bind (mb ρ) fun y => cmpR op x y) ∧
    TOk X xr W (.Compare a.e [op.o] [b.e] p) (fun ρ => M.bind (M.bind (ma ρ) fun x => M.bind (mb ρ) fun y => cmpR op x y) truB) := by
  have hm := behind_ok op b
  cases op with
  | lt =>
    have k := cmp_int (X := X) (op := .lt) (g := fun i j => decide (i < j)) (fun x y S h => cmpR_n .lt (fun z => nomatch z) (fun z => nomatch z) x y S h) (fun _ _ _ => rfl)
    exact ⟨e_cmp2 hx op_lt hm k ha hb, t_cmp2 hx op_lt hm k ha hb⟩
  | le =>
    have k := cmp_int (X := X) (op := .le) (g := fun i j => decide (i ≤ j)) (fun x y S h => cmpR_n .le (fun z => nomatch z) (fun z => nomatch z) x y S h) (fun _ _ _ => rfl)
    exact ⟨e_cmp2 hx op_le hm k ha hb, t_cmp2 hx op_le hm k ha hb⟩
  | gt =>
    have k := cmp_int (X := X) (op := .gt) (g := fun i j => decide (j < i)) (fun x y S h => cmpR_n .gt (fun z => nomatch z) (fun z => nomatch z) x y S h) (fun _ _ _ => rfl)
    exact ⟨e_cmp2 hx op_gt hm k ha hb, t_cmp2 hx op_gt hm k ha hb⟩
  | ge =>
    have k := cmp_int (X := X) (op := .ge) (g := fun i j => decide (j ≤ i)) (fun x y S h => cmpR_n .ge (fun z => nomatch z) (fun z => nomatch z) x y S h) (fun _ _ _ => rfl)
    exact ⟨e_cmp2 hx op_ge hm k ha hb, t_cmp2 hx op_ge hm k ha hb⟩
  | eq => exact ⟨e_cmp2 hx (op_eqAny hu) hm cmpeq_ok ha hb, t_cmp2 hx (op_eqAny hu) hm cmpeq_ok ha hb⟩
  | ne => exact ⟨e_cmp2 hx (op_neAny hu) hm cmpne_ok ha hb, t_cmp2 hx (op_neAny hu) hm cmpne_ok ha hb⟩
/-- both, for an expression that is tested by its value -/
theorem both {e : IE} {m : MP.Env → M R} (h : EOk X xr W e.e m) (hv : tstV e = true) : EOk X xr W e.e m ∧ (okTst e = true → TOk X xr W e.e (fun ρ => M.bind (m ρ) truB)) := ⟨h, fun _ => t_val h (tst_ok e X.env hv)⟩
end
abbrev SE (s : ST) (a : FA) (n : Nat) (e : IE) : Prop := ∀ (Γ : SC) (X : Cx) (xr : XR) (W : WX), XF s a n Γ X xr W → okE s Γ e = true → EOk X xr W e.e (evE (s.T.C n).toCalls e) ∧ (okTst e = true → TOk X xr W e.e (fun ρ => M.bind (evE (s.T.C n).toCalls e ρ) truB))
structure SEs' (s : ST) (n : Nat) (X : Cx) (xr : XR) (W : WX) (es : IEs) : Prop where
  all : AOk X xr W es.es (evEs (s.T.C n).toCalls es)
  bool : okTsts es = true → es ≠ .nil → ∀ p, (EOk X xr W (.BoolOp .And es.es p) (evAnd (s.T.C n).toCalls es) ∧ WOk X xr W (.BoolOp .And es.es p) (fun ρ => M.bind (evAnd (s.T.C n).toCalls es ρ) truB)) ∧
    (EOk X xr W (.BoolOp .Or es.es p) (evOr (s.T.C n).toCalls es) ∧ WOk X xr W (.BoolOp .Or es.es p) (fun ρ => M.bind (evOr (s.T.C n).toCalls es ρ) truB))
  ifs : okTsts es = true → es.len ≤ 1 → TsOk X xr W es.es (evTs (s.T.C n).toCalls es)
  opt : es.len ≤ 1 → POk X xr W es.o (fun ρ => M.bind (evEs (s.T.C n).toCalls es ρ) optI)
abbrev SEs (s : ST) (a : FA) (n : Nat) (es : IEs) : Prop := ∀ (Γ : SC) (X : Cx) (xr : XR) (W : WX), XF s a n Γ X xr W → okEs s Γ es = true → SEs' s n X xr W es
abbrev SKs (s : ST) (a : FA) (n : Nat) (es : IKs) : Prop := ∀ (Γ : SC) (X : Cx) (xr : XR) (W : WX), XF s a n Γ X xr W → okKs s Γ es = true → KOk X xr W es.ks (evKs (s.T.C n).toCalls es)
abbrev SII (s : ST) (a : FA) (n : Nat) (it : II) : Prop := ∀ (Γ : SC) (X : Cx) (xr : XR) (W : WX), XF s a n Γ X xr W → ∀ t : IT, okII s Γ t.many? it = true → IOk X xr W t.e it.e (evII (s.T.C n).toCalls it)
section
variable {s : ST} {a : FA} {n : Nat} {Γ : SC} {X : Cx} {xr : XR} {W : WX}
theorem c_nil : SEs' s n X xr W .nil where
  all := a_nil
  bool := fun _ h => absurd rfl h
  ifs := fun _ _ => ts_nil
  opt := fun _ => o_none
theorem c_cons {e : IE} {r : IEs} (x : XF s a n Γ X xr W) (he : EOk X xr W e.e (evE (s.T.C n).toCalls e) ∧ (okTst e = true → TOk X xr W e.e (fun ρ => M.bind (evE (s.T.C n).toCalls e ρ) truB))) (hr : SEs' s n X xr W r) : SEs' s n X xr W (.cons e r) where
  all := a_cons x.xok he.1 hr.all (star_e e _ _)
  bool := fun ht _ p => by
    have ht : (okTst e && okTsts r) = true := by simpa only [okTsts] using ht
    rw [Bool.and_eq_true] at ht
    cases r with
    | nil => exact ⟨⟨e_one he.1, w_one (he.2 ht.1)⟩, ⟨e_one he.1, w_one (he.2 ht.1)⟩⟩
    | cons e2 r2 =>
      have q := hr.bool ht.2 (fun z => nomatch z) p
      exact ⟨⟨e_and x.xok he.1 q.1.1, w_and x.xok (he.2 ht.1) q.1.2⟩, ⟨e_or x.xok he.1 q.2.1, w_or x.xok (he.2 ht.1) q.2.2⟩⟩
  ifs := fun ht hl => by
    have ht : (okTst e && okTsts r) = true := by simpa only [okTsts] using ht
    rw [Bool.and_eq_true] at ht
    cases r with
    | nil => exact ts_one (he.2 ht.1)
    | cons e2 r2 => exact absurd hl (by simp [IEs.len])
  opt := fun hl => by
    cases r with
    | nil =>
      have q := o_some he.1
      have e9 : (fun ρ => M.bind (evEs (s.T.C n).toCalls (.cons e .nil) ρ) optI) = fun ρ => M.bind (evE (s.T.C n).toCalls e ρ) fun x => optI [x] := by
        funext ρ
        show M.bind (M.bind _ fun x => M.bind (M.pure []) fun xs => M.pure (x :: xs)) optI = _
        rw [bind_assoc]
        rfl
      rw [e9]
      exact q
    | cons e2 r2 => exact absurd hl (by simp [IEs.len])
end
section
variable {s : ST} {a : FA} {n : Nat}
/-! ### the cases -/
theorem k_var {i x p} : SE s a n (.var i x p) := fun Γ X xr W x h => by
  simp only [okE] at h
  have v := x.vis h
  exact both (e := .var _ _ _) (e_var v.1 v.2.1 v.2.2.1 v.2.2.2) rfl
theorem k_int {i k p} : SE s a n (.int i k p) := fun Γ X xr W x h => both (e := .int _ _ _) e_int rfl
theorem k_bl {i k p} : SE s a n (.bl i k p) := fun Γ X xr W x h => both (e := .bl _ _ _) e_bl rfl
theorem k_non {k p} : SE s a n (.non k p) := fun Γ X xr W x h => both (e := .non _ _) e_non rfl
theorem k_str {z k p} : SE s a n (.str z k p) := fun Γ X xr W x h => both (e := .str _ _ _) e_str rfl
theorem k_gint {i y p} : SE s a n (.gint i y p) := fun Γ X xr W x h => by
  simp only [okE, Bool.and_eq_true, decide_eq_true_eq] at h
  exact both (e := .gint _ _ _) (e_gint (x.gl h.1.1) (x.gf.gis _ h.1.2) (by simpa using h.2)) rfl
theorem k_bin {m op e1 e2 p} (h1 : SE s a n e1) (h2 : SE s a n e2) : SE s a n (.bin m op e1 e2 p) := fun Γ X xr W x h => by
  simp only [okE, Bool.and_eq_true] at h
  exact both (e := .bin m op e1 e2 p) (b_op x.xok m op (h1 Γ X xr W x h.1).1 (h2 Γ X xr W x h.2).1) rfl
theorem k_neg {e1 p} (h1 : SE s a n e1) : SE s a n (.neg e1 p) := fun Γ X xr W x h => by
  simp only [okE] at h
  exact both (e := .neg e1 p) (e_neg (h1 Γ X xr W x h).1) rfl
theorem k_cmp {op e1 e2 p} (h1 : SE s a n e1) (h2 : SE s a n e2) : SE s a n (.cmp op e1 e2 p) := fun Γ X xr W x h => by
  simp only [okE, Bool.and_eq_true] at h
  have q := b_cmp (p := p) x.xok x.units op (h1 Γ X xr W x h.1).1 (h2 Γ X xr W x h.2).1
  exact ⟨q.1, fun _ => q.2⟩
theorem k_isN {b e1 k p1 p} (h1 : SE s a n e1) : SE s a n (.isN b e1 k p1 p) := fun Γ X xr W x h => by
  simp only [okE] at h
  have q := (h1 Γ X xr W x h).1
  exact ⟨e_isN q, fun _ => t_isN q⟩
theorem k_not {e1 p} (h1 : SE s a n e1) : SE s a n (.not e1 p) := fun Γ X xr W x h => by
  simp only [okE, Bool.and_eq_true] at h
  have q := h1 Γ X xr W x h.1
  exact ⟨e_not q.1, fun _ => t_not (q.2 h.2)⟩
theorem k_and {e1 r p} (h1 : SE s a n e1) (h2 : SEs s a n r) : SE s a n (.and e1 r p) := fun Γ X xr W x h => by
  simp only [okE, Bool.and_eq_true] at h
  have q := h1 Γ X xr W x h.1.1.1
  have c := c_cons x q (h2 Γ X xr W x h.1.2)
  have ht : okTsts (.cons e1 r) = true := by simp only [okTsts, Bool.and_eq_true]; exact ⟨h.1.1.2, h.2⟩
  have z := (c.bool ht (fun z => nomatch z) p).1
  cases r with
  | nil => exact ⟨z.1, fun _ => z.2.t⟩
  | cons e2 r2 => exact ⟨z.1, fun _ => z.2.t⟩
theorem k_or {e1 r p} (h1 : SE s a n e1) (h2 : SEs s a n r) : SE s a n (.or e1 r p) := fun Γ X xr W x h => by
  simp only [okE, Bool.and_eq_true] at h
  have q := h1 Γ X xr W x h.1.1.1
  have c := c_cons x q (h2 Γ X xr W x h.1.2)
  have ht : okTsts (.cons e1 r) = true := by simp only [okTsts, Bool.and_eq_true]; exact ⟨h.1.1.2, h.2⟩
  have z := (c.bool ht (fun z => nomatch z) p).2
  cases r with
  | nil => exact ⟨z.1, fun _ => z.2.t⟩
  | cons e2 r2 => exact ⟨z.1, fun _ => z.2.t⟩
theorem k_ifx {c e1 e2 p} (h0 : SE s a n c) (h1 : SE s a n e1) (h2 : SE s a n e2) : SE s a n (.ifx c e1 e2 p) := fun Γ X xr W x h => by
  simp only [okE, Bool.and_eq_true] at h
  exact ⟨e_ifx x.xok ((h0 Γ X xr W x h.1.1.1).2 h.1.1.2) (h1 Γ X xr W x h.1.2).1 (h2 Γ X xr W x h.2).1, fun z => by simp [okTst] at z⟩
theorem k_lst {m es p} (h1 : SEs s a n es) : SE s a n (.lst m es p) := fun Γ X xr W x h => by
  simp only [okE, Bool.and_eq_true, decide_eq_true_eq] at h
  exact both (e := .lst m es p) (e_lst m (h1 Γ X xr W x h.1).all fun ρ S rs S' e => by rw [ev_len _ _ _ _ _ _ e]; exact h.2) rfl
theorem k_tup {es k p} (h1 : SEs s a n es) : SE s a n (.tup es k p) := fun Γ X xr W x h => by
  simp only [okE, Bool.and_eq_true, decide_eq_true_eq] at h
  exact both (e := .tup es k p) (e_tup (h1 Γ X xr W x h.1).all fun ρ S rs S' e => by rw [ev_len _ _ _ _ _ _ e]; exact h.2) rfl
theorem k_ix {e1 e2 p} (h1 : SE s a n e1) (h2 : SE s a n e2) : SE s a n (.ix e1 e2 p) := fun Γ X xr W x h => by
  simp only [okE, Bool.and_eq_true] at h
  exact both (e := .ix e1 e2 p) (e_ix x.xok (plainIx e2 h.2) (h1 Γ X xr W x h.1.1).1 (h2 Γ X xr W x h.1.2).1) rfl
theorem k_sl {m e1 lo hi p2 p} (h1 : SE s a n e1) (h2 : SEs s a n lo) (h3 : SEs s a n hi) : SE s a n (.sl m e1 lo hi p2 p) := fun Γ X xr W x h => by
  simp only [okE, Bool.and_eq_true, decide_eq_true_eq] at h
  exact both (e := .sl m e1 lo hi p2 p) (e_sl m x.xok (h1 Γ X xr W x h.1.1.1.1).1 ((h2 Γ X xr W x h.1.1.1.2).opt h.1.1.2) ((h3 Γ X xr W x h.1.2).opt h.2)) rfl
theorem k_attr {e1 c f p} (h1 : SE s a n e1) : SE s a n (.attr e1 c f p) := fun Γ X xr W x h => by
  simp only [okE, Bool.and_eq_true, decide_eq_true_eq] at h
  have q := x.gf.attrs _ h.1.2
  exact both (e := .attr e1 c f p) (e_attr q.1 q.2 (base_ok e1 f _ h.2) (h1 Γ X xr W x h.1.1).1) rfl
theorem k_call {f y e1 es p0 p} (h1 : SE s a n e1) (h2 : SEs s a n es) : SE s a n (.call f y e1 es p0 p) := fun Γ X xr W x h => by
  simp only [okE, Bool.and_eq_true] at h
  obtain ⟨⟨⟨hg, hf⟩, he⟩, hes⟩ := h
  refine both (e := .call f y e1 es p0 p) ?_ rfl
  cases hc : Γ.calm with
  | true =>
    rw [hc, if_pos rfl] at hf
    rw [Bool.and_eq_true, decide_eq_true_eq, decide_eq_true_eq] at hf
    obtain ⟨g1, g2, g3, g4, F, g5⟩ := x.gf.top _ hf.1
    exact e_call x.xok (x.fl.calm f F g5) spF_ok ((x.calm hc).2.1.mono (by omega)) (x.gl hg) g1 g2 (g3 hf.2) x.tk g4 (star_e e1 _ _) (plain_es p _ es) (h1 Γ X xr W x he).1 (h2 Γ X xr W x hes).all
  | false =>
    rw [hc, if_neg Bool.false_ne_true] at hf
    have hf := of_decide_eq_true hf
    obtain ⟨g1, g2, g3, g4, F, g5⟩ := x.gf.top _ (x.gf.hot _ hf).1
    exact e_callH x.xok (x.fl.hot _ hf) spF_ok ((x.hot hc).1.mono (by omega)) (x.hot hc).2.1 (x.gl hg) g1 g2 (g3 (x.gf.hot _ hf).2) x.tk g4 (star_e e1 _ _) (plain_es p _ es) (h1 Γ X xr W x he).1 (h2 Γ X xr W x hes).all
theorem k_callK {f y e1 es kw pm p0 p} (h1 : SE s a n e1) (h2 : SEs s a n es) (h3 : SKs s a n kw) : SE s a n (.callK f y e1 es kw pm p0 p) := fun Γ X xr W x h => by
  simp only [okE, Bool.and_eq_true, decide_eq_true_eq] at h
  obtain ⟨⟨⟨⟨⟨⟨hc, hg⟩, hf⟩, hk⟩, he⟩, hes⟩, hkw⟩ := h
  obtain ⟨g1, g2, g3, g4, F, g5⟩ := x.gf.top _ hf
  obtain ⟨k1, k2, k3⟩ := kw_all p X.env kw
  refine both (e := .callK f y e1 es kw pm p0 p) (e_callK x.xok (x.fl.calm f F g5) spF_ok ((x.calm hc).2.1.mono (by omega)) (x.gl hg) g1 g2 (x.gf.kws _ hk) x.tk g4 (star_e e1 _ _) k1 k2 ?_ (h1 Γ X xr W x he).1 (h2 Γ X xr W x hes).all (h3 Γ X xr W x hkw)
    (fun ρ S xs S' e => by rw [ev_len _ _ _ _ _ _ e]) (fun ρ S xs S' e => ek_len _ _ _ _ _ _ e)) rfl
  rw [k3, show (backTo p (starEach (e1.e :: es.es) X.env)).any (·.1) = false from plain_es p X.env (.cons e1 es)]
  rfl
theorem k_callKK {f y kw pm p0 p} (h3 : SKs s a n kw) : SE s a n (.callKK f y kw pm p0 p) := fun Γ X xr W x h => by
  simp only [okE, Bool.and_eq_true, decide_eq_true_eq] at h
  obtain ⟨⟨⟨⟨hc, hg⟩, hf⟩, hk⟩, hkw⟩ := h
  obtain ⟨g1, g2, g3, g4, F, g5⟩ := x.gf.top _ hf
  obtain ⟨k1, k2, k3⟩ := kw_all p X.env kw
  refine both (e := .callKK f y kw pm p0 p) (e_callKK x.xok (x.fl.calm f F g5) spF_ok ((x.calm hc).2.1.mono (by omega)) (x.gl hg) g1 g2 (x.gf.kws _ hk) x.tk g4 k1 k2 ?_ (h3 Γ X xr W x hkw) (fun ρ S xs S' e => ek_len _ _ _ _ _ _ e)) rfl
  rw [k3]
  rfl
theorem k_bi {m f e1 es p0 p} (h1 : SE s a n e1) (h2 : SEs s a n es) : SE s a n (.bi m f e1 es p0 p) := fun Γ X xr W x h => by
  simp only [okE, Bool.and_eq_true, decide_eq_true_eq] at h
  obtain ⟨⟨⟨⟨hc, hg⟩, hb⟩, he⟩, hes⟩ := h
  refine both (e := .bi m f e1 es p0 p) (e_bif f x.xok (fun z => ?_) (x.gl hg) (x.gf.blt _ hb) (star_e e1 _ _) (plain_es p _ es) (h1 Γ X xr W x he).1 (h2 Γ X xr W x hes).all) rfl
  rw [z] at hc
  have hc' : Γ.calm = true := by simpa using hc
  exact (x.calm hc').1
theorem k_gcd {l e1 e2 p0 p} (h1 : SE s a n e1) (h2 : SE s a n e2) : SE s a n (.gcd l e1 e2 p0 p) := fun Γ X xr W x h => by
  simp only [okE, Bool.and_eq_true, decide_eq_true_eq] at h
  obtain ⟨⟨⟨hg, hm⟩, ha⟩, hb⟩ := h
  have q := x.gf.math _ hm
  have s2 : starEach [e2.e] X.env = (false, eval e2.e X.env) :: starEach [] X.env := star_e e2 _ _
  have pl : (backTo p (starEach [e2.e] X.env)).any (·.1) = false := plain_es p _ (.cons e2 .nil)
  refine both (e := .gcd l e1 e2 p0 p) ?_ rfl
  cases l with
  | true => exact e_lcm x.xok (x.gl hg) q (by decide) (star_e e1 _ _) s2 pl (h1 Γ X xr W x ha).1 (h2 Γ X xr W x hb).1
  | false => exact e_gcd x.xok (x.gl hg) q (by decide) (star_e e1 _ _) s2 pl (h1 Γ X xr W x ha).1 (h2 Γ X xr W x hb).1
theorem k_make {m f c e1 es p0 p} (h1 : SE s a n e1) (h2 : SEs s a n es) : SE s a n (.make m f c e1 es p0 p) := fun Γ X xr W x h => by
  simp only [okE, Bool.and_eq_true, decide_eq_true_eq] at h
  obtain ⟨⟨⟨⟨hc, hg⟩, hf⟩, he⟩, hes⟩ := h
  obtain ⟨g1, g2, g3, g4, F, g5⟩ := x.gf.cls _ hf
  exact both (e := .make m f c e1 es p0 p) (e_make (CC := (s.T.C n).toCalls) (fi := f) x.xok g1 (x.fl.calm f F g5) spF_ok ((x.calm hc).2.1.mono (by omega)) (x.gl hg) g2 g3 x.tk g4 (star_e e1 _ _) (plain_es p _ es) (h1 Γ X xr W x he).1 (h2 Γ X xr W x hes).all) rfl
theorem k_lmeth {o nm es p1 p} (h1 : SE s a n o) (h2 : SEs s a n es) : SE s a n (.lmeth o nm es p1 p) := fun Γ X xr W x h => by
  simp only [okE, Bool.and_eq_true, decide_eq_true_eq] at h
  obtain ⟨⟨⟨⟨⟨ho, hes⟩, hb⟩, hl⟩, hp⟩, hn⟩ := h
  refine both (e := .lmeth o nm es p1 p) ?_ rfl
  have qo := (h1 Γ X xr W x ho).1
  have qs := h2 Γ X xr W x hes
  cases es with
  | nil =>
    cases nm with
    | append => cases hn
    | pop => exact e_lm0 PySem.F.slot_list_pop PySem.F.type_list_pop (mt_pop) pop_ok (base_ok o _ _ hb) hp qo
  | cons e1 r =>
    have few : ((backTo p (starEach (e1.e :: r.es) X.env)).all (fun x => !x.1) && (backToKw p (keywordEach [] X.env)).all (fun x => x.1.isSome) && decide ((e1.e :: r.es).length + ([] : List Keyword).length + (if ([] : List Keyword).isEmpty then 0 else 1) < 30)) = true := by
      have q1 := allp_es p X.env (.cons e1 r)
      have q2 : (e1.e :: r.es).length = (IEs.cons e1 r).len := len_es (.cons e1 r)
      rw [Bool.and_eq_true, Bool.and_eq_true]
      refine ⟨⟨q1, rfl⟩, decide_eq_true ?_⟩
      rw [q2]
      show (IEs.cons e1 r).len + 0 + 0 < 30
      omega
    have ne : ∀ ρ S rs S', evEs (s.T.C n).toCalls (.cons e1 r) ρ S = .ok rs S' → rs ≠ [] := fun ρ S rs S' e z => by
      have q := ev_len _ _ _ _ _ _ e
      rw [z] at q
      cases q
    cases nm with
    | append => exact e_lm x.xok PySem.F.slot_list_append PySem.F.type_list_append (mt_append) (fun w S y u rs vs E Q s1 r1 _ r2 h => append_ok w S y u rs vs E Q s1 r1 r2 h) ne (base_ok o _ _ hb) few hp (star_e e1 _ _) (plain_es p _ r) qo qs.all
    | pop => exact e_lm x.xok PySem.F.slot_list_pop PySem.F.type_list_pop (mt_popAt) popAt_ok ne (base_ok o _ _ hb) few hp (star_e e1 _ _) (plain_es p _ r) qo qs.all
theorem k_meth {f c o nm es p1 p} (h1 : SE s a n o) (h2 : SEs s a n es) : SE s a n (.meth f c o nm es p1 p) := fun Γ X xr W x h => by
  simp only [okE, Bool.and_eq_true, decide_eq_true_eq] at h
  obtain ⟨⟨⟨⟨⟨⟨hc, hm⟩, hb⟩, hl⟩, hp⟩, ho⟩, hes⟩ := h
  obtain ⟨g1, g2, g3, F, g4⟩ := x.gf.mets _ hm
  refine both (e := .meth f c o nm es p1 p) ?_ rfl
  have qs := h2 Γ X xr W x hes
  cases es with
  | nil => exact e_meth0 x.xok g1 g2 (x.fl.calm f F g4) spF_ok ((x.calm hc).2.1.mono (by omega)) g3 x.tk (meth_look X o nm p1 p .nil hb hl hp) (h1 Γ X xr W x ho).1
  | cons e1 r => exact e_meth x.xok g1 g2 (x.fl.calm f F g4) spF_ok ((x.calm hc).2.1.mono (by omega)) g3 x.tk (star_e e1 _ _) (plain_es p _ r) (meth_look X o nm p1 p (.cons e1 r) hb hl hp) (h1 Γ X xr W x ho).1 qs.all
theorem k_callD {f y e1 es ds p0 p} (h1 : SE s a n e1) (h2 : SEs s a n es) : SE s a n (.callD f y e1 es ds p0 p) := fun Γ X xr W x h => by
  simp only [okE, Bool.and_eq_true, decide_eq_true_eq] at h
  obtain ⟨⟨⟨⟨⟨hc, hg⟩, hf⟩, hd⟩, he⟩, hes⟩ := h
  obtain ⟨g1, g2, g3, g4, F, g5⟩ := x.gf.top _ hf
  exact both (e := .callD f y e1 es ds p0 p) (e_callD x.xok (x.fl.calm f F g5) spF_ok ((x.calm hc).2.1.mono (by omega)) (x.gl hg) g1 g2 (x.gf.dfs _ hd) x.tk g4 (star_e e1 _ _) (plain_es p _ es) (h1 Γ X xr W x he).1 (h2 Γ X xr W x hes).all) rfl
theorem k_makeD {m f c e1 es ds p0 p} (h1 : SE s a n e1) (h2 : SEs s a n es) : SE s a n (.makeD m f c e1 es ds p0 p) := fun Γ X xr W x h => by
  simp only [okE, Bool.and_eq_true, decide_eq_true_eq] at h
  obtain ⟨⟨⟨⟨⟨hc, hg⟩, hf⟩, hd⟩, he⟩, hes⟩ := h
  obtain ⟨g1, g2, g3, g4, F, g5⟩ := x.gf.cls _ hf
  exact both (e := .makeD m f c e1 es ds p0 p) (e_makeD (CC := (s.T.C n).toCalls) (fi := f) x.xok g1 (x.fl.calm f F g5) spF_ok ((x.calm hc).2.1.mono (by omega)) (x.gl hg) g2 (x.gf.dfs _ hd) x.tk g4 (star_e e1 _ _) (plain_es p _ es) (h1 Γ X xr W x he).1 (h2 Γ X xr W x hes).all) rfl
theorem k_opm {f c op e1 e2 p} (h1 : SE s a n e1) (h2 : SE s a n e2) : SE s a n (.opm f c op e1 e2 p) := fun Γ X xr W x h => by
  simp only [okE, Bool.and_eq_true, decide_eq_true_eq] at h
  obtain ⟨⟨⟨⟨hc, hm⟩, ho⟩, he1⟩, he2⟩ := h
  obtain ⟨g1, g2, g3, F, g4⟩ := x.gf.mets _ hm
  rw [← dn_ok] at g2
  exact both (e := .opm f c op e1 e2 p) (e_opm (CC := (s.T.C n).toCalls) (fi := f) x.xok (x.gf.opc _ ho) g2 (x.fl.calm f F g4) spF_ok ((x.calm hc).2.1.mono (by omega)) g3 x.tk (h1 Γ X xr W x he1).1 (h2 Γ X xr W x he2).1) rfl
theorem k_prop {f c o nm p} (h1 : SE s a n o) : SE s a n (.prop f c o nm p) := fun Γ X xr W x h => by
  simp only [okE, Bool.and_eq_true, decide_eq_true_eq] at h
  obtain ⟨⟨⟨hc, hm⟩, hb⟩, ho⟩ := h
  obtain ⟨g1, ⟨pa, g2⟩, g3, F, g4⟩ := x.gf.props _ hm
  exact both (e := .prop f c o nm p) (e_prop (CC := (s.T.C n).toCalls) (fi := f) x.xok g1 g2 (x.fl.calm f F g4) spF_ok ((x.calm hc).2.1.mono (by omega)) g3 (L2N.passes_call (takes0 (X := X.nox)) fun _ _ _ _ z => z.elim) (base_ok o nm _ hb) (h1 Γ X xr W x ho).1) rfl
theorem c_ok (m : Bool) (hu : X.A.units + 64 < cLine) (op : Cop) : ∃ r, OpR X (compareOp op.o) r ∧ ∀ w S x y u v E Q, SR X.K w S → Rel X.K w x u → Rel X.K w y v → Hop X.K (Rel X.K) E w Q (cmpR op x y S) → r u v w.H Q := by
  cases op with
  | lt => exact ⟨_, op_lt, cmp_int (X := X) (op := .lt) (g := fun i j => decide (i < j)) (fun x y S h => cmpR_n .lt (fun z => nomatch z) (fun z => nomatch z) x y S h) (fun _ _ _ => rfl)⟩
  | le => exact ⟨_, op_le, cmp_int (X := X) (op := .le) (g := fun i j => decide (i ≤ j)) (fun x y S h => cmpR_n .le (fun z => nomatch z) (fun z => nomatch z) x y S h) (fun _ _ _ => rfl)⟩
  | gt => exact ⟨_, op_gt, cmp_int (X := X) (op := .gt) (g := fun i j => decide (j < i)) (fun x y S h => cmpR_n .gt (fun z => nomatch z) (fun z => nomatch z) x y S h) (fun _ _ _ => rfl)⟩
  | ge => exact ⟨_, op_ge, cmp_int (X := X) (op := .ge) (g := fun i j => decide (j ≤ i)) (fun x y S h => cmpR_n .ge (fun z => nomatch z) (fun z => nomatch z) x y S h) (fun _ _ _ => rfl)⟩
  | eq => exact ⟨_, op_eqAny hu, cmpeq_ok⟩
  | ne => exact ⟨_, op_neAny hu, cmpne_ok⟩
theorem k_chain {op op2 e1 e2 e3 p} (h1 : SE s a n e1) (h2 : SE s a n e2) (h3 : SE s a n e3) : SE s a n (.chain op op2 e1 e2 e3 p) := fun Γ X xr W x h => by
  simp only [okE, Bool.and_eq_true] at h
  obtain ⟨r, ho, hr⟩ := c_ok (X := X) true x.units op
  obtain ⟨r2, ho2, hr2⟩ := c_ok (X := X) true x.units op2
  have q := e_chain (pos := p) (f := fun x y => cmpR op x y) (g := fun x y => cmpR op2 x y) x.xok ho ho2 (last_ok op op2 e2 e3) hr hr2 (h1 Γ X xr W x h.1.1).1 (h2 Γ X xr W x h.1.2).1 (h3 Γ X xr W x h.2).1
  exact ⟨q.1, fun _ => q.2⟩
theorem k_inn {b e1 e2 p} (h1 : SE s a n e1) (h2 : SE s a n e2) : SE s a n (.inn b e1 e2 p) := fun Γ X xr W x h => by
  simp only [okE, Bool.and_eq_true] at h
  have a1 := (h1 Γ X xr W x h.1).1
  have a2 := (h2 Γ X xr W x h.2).1
  cases b with
  | true => exact ⟨e_cmp2 x.xok op_notIn_seq (by cases e2 <;> rfl) (inR_ok true) a1 a2, fun _ => t_cmp2 x.xok op_notIn_seq (by cases e2 <;> rfl) (inR_ok true) a1 a2⟩
  | false => exact ⟨e_cmp2 x.xok op_in_seq (by cases e2 <;> rfl) (inR_ok false) a1 a2, fun _ => t_cmp2 x.xok op_in_seq (by cases e2 <;> rfl) (inR_ok false) a1 a2⟩
theorem k_isC {e1 c p1 p0 p} (h1 : SE s a n e1) : SE s a n (.isC e1 c p1 p0 p) := fun Γ X xr W x h => by
  simp only [okE, Bool.and_eq_true, decide_eq_true_eq] at h
  obtain ⟨⟨⟨⟨hg, hb⟩, hgC⟩, hC⟩, ha⟩ := h
  have q := x.gf.exn _ hC
  exact both (e := .isC e1 c p1 p0 p) (e_isC (CC := (s.T.C n).toCalls) c (x.gl hg) (x.gf.blt _ hb) (x.gl hgC) q.1 q.2 (fun n' b e => x.gf.ins n' c b e) (star_e e1 _ _) rfl rfl (h1 Γ X xr W x ha).1) rfl
theorem k_isT {e1 T p1 p0 p} (h1 : SE s a n e1) : SE s a n (.isT e1 T p1 p0 p) := fun Γ X xr W x h => by
  simp only [okE, Bool.and_eq_true, decide_eq_true_eq] at h
  obtain ⟨⟨⟨⟨hg, hb⟩, hgT⟩, hbT⟩, ha⟩ := h
  exact both (e := .isT e1 T p1 p0 p) (e_isT T (x.gl hg) (x.gf.blt _ hb) (x.gl hgT) (x.gf.blt _ hbT) (star_e e1 _ _) rfl rfl (h1 Γ X xr W x ha).1) rfl
theorem k_xIs {i y c px p1 p0 p} : SE s a n (.xIs i y c px p1 p0 p) := fun Γ X xr W x h => by
  simp only [okE, Bool.and_eq_true, decide_eq_true_eq] at h
  obtain ⟨⟨⟨⟨hv, hg⟩, hb⟩, hgc⟩, hc⟩ := h
  have v := x.vis hv
  have q := x.gf.exn _ hc
  exact both (e := .xIs i y c px p1 p0 p) (x_is x.xat v.1 v.2.1 v.2.2.1 v.2.2.2 (x.gl hg) (x.gf.blt _ hb) (x.gl hgc) q.1 q.2 (fun c' b e => x.gf.sub c' c b e hc) rfl rfl rfl) rfl
theorem k_xAt {i y f px p} : SE s a n (.xAt i y f px p) := fun Γ X xr W x h => by
  simp only [okE] at h
  have v := x.vis h
  exact both (e := .xAt i y f px p) (x_at x.xat v.1 v.2.1 v.2.2.1 v.2.2.2 (fun c e => x.gf.xf c f e) rfl) rfl
theorem k_lc {m e t it cs own sc p} (h1 : SE s a n e) (h2 : SII s a n it) (h3 : SEs s a n cs) : SE s a n (.lc m e t it cs own sc p) := fun Γ X xr W x h => by
  simp only [okE, Bool.and_eq_true, decide_eq_true_eq] at h
  obtain ⟨⟨⟨⟨⟨⟨⟨⟨hc, hi⟩, hk⟩, ht⟩, ho⟩, hcs⟩, hts⟩, hl⟩, he⟩ := h
  have own_ok : BlkOk X.N X.env.scope sc own := by
    have q := blkOk_by hk
    rw [x.N]
    refine ⟨q.kind, q.uniq, q.ix, fun y hy e => ?_, q.own⟩
    rcases q.free y hy e with z | z
    · rcases x.sc _ _ z with w | w
      · exact .inl w
      · cases w.1
    · rcases x.sc _ _ z with w | w
      · exact .inr w
      · exact .inl w.2
  have B := x.blk hc sc
  exact both (e := .lc m e t it cs own sc p) (e_lc x.xok (x.calm hc).1 x.nd (h2 Γ X xr W x t hi) own_ok (fun i hi => of_decide_eq_true (List.all_eq_true.mp ho i hi)) (fun st H C cl fp => (B st H C cl fp).tg ht)
    (fun st H C cl fp => (h3 _ _ xr W0 (B st H C cl fp) hcs).ifs hts hl) (fun st H C cl fp => (h1 _ _ xr W0 (B st H C cl fp) he).1) (folded_ok it X.env)) rfl
theorem blk_of {Γ : SC} {X : Cx} {xr : XR} {W : WX} {sc : Scope} {own : List (Str × Nat)} (x : XF s a n Γ X xr W) (hk : blkC Γ.N Γ.sc sc own = true) : BlkOk X.N X.env.scope sc own := by
  have q := blkOk_by hk
  rw [x.N]
  refine ⟨q.kind, q.uniq, q.ix, fun y hy e => ?_, q.own⟩
  rcases q.free y hy e with z | z
  · rcases x.sc _ _ z with w | w
    · exact .inl w
    · cases w.1
  · rcases x.sc _ _ z with w | w
    · exact .inr w
    · exact .inl w.2
theorem e_lc2 {X : Cx} {xr : XR} {W : WX} {elt iter iter2 : Expr} {ifs ifs2 : List Expr} {sc : Scope} {own : List (Str × Nat)} {pos : Pos} {t t2 : IT} {me : MP.Env → M R} {mc mc2 : MP.Env → M Bool} {mi mi2 : MP.Env → M (List Itm × Gd)} {m : Bool} {vs2 : List Nat}
    (hx : xr.Ok) (hc : X.calm = true) (hN : X.N.Nodup) (hi : IOk X xr W t.e iter mi) (ok : BlkOk X.N X.env.scope sc own) (hown : ∀ i ∈ t.ix, i ∈ own.map (·.2)) (hown2 : ∀ i ∈ t2.ix, i ∈ vs2) (hv : ∀ i ∈ vs2, i ∈ own.map (·.2)) (hg : Blks X sc fun Y => ITOk Y t) (hg2 : Blks X sc fun Y => ITOk Y t2)
    (ht : Blks X sc fun Y => TsOk Y xr W0 ifs mc) (ht2 : Blks X sc fun Y => TsOk Y xr W0 ifs2 mc2) (hi2 : Blks X sc fun Y => IOk Y xr W0 t2.e iter2 mi2) (he : Blks X sc fun Y => EOk Y xr W0 elt me) (hs : ∀ x, foldedSetIterable iter X.env x = pure x) (hs2 : ∀ env x, foldedSetIterable iter2 env x = pure x) :
    EOk X xr W (.ListComp elt [⟨t.e, iter, ifs, 0⟩, ⟨t2.e, iter2, ifs2, 0⟩] sc pos) (fun ρ => M.bind (mi ρ) fun q => M.bind (lcLoop q.2 (lcTurn t q.2 mc (fun ρ' => M.bind (mi2 ρ') fun q2 =>
      lcLoop q2.2 (lcTurn t2 q2.2 mc2 (fun ρ2 => M.bind (me ρ2) fun r => M.pure [r]) (wipeE ρ' vs2)) q2.1) (wipeE ρ (own.map (·.2)))) q.1) (lcOut m)) :=
  ⟨_, pe_lc2 (tt := rdT X.K xr W0 mc) (tt1 := rdT X.K xr W0 mc2) (wi1 := rdI X.K xr W0 mi2) (te := rdE X.K xr W0 me) hc hN hi.rd ok hv (fun s H C cl fp => pg_T (X := X.blk s H sc (compEnvC sc cl C X.env) fp) hN t (hg s H C cl fp)) (fun s H C cl fp => ht s H C cl fp)
    (fun s H C cl fp => (hi2 s H C cl fp).rd) (fun s H C cl fp => pg_T (X := X.blk s H sc (compEnvC sc cl C X.env) fp) hN t2 (hg2 s H C cl fp)) (fun s H C cl fp => ht2 s H C cl fp) (fun s H C cl fp => (he s H C cl fp).rd) hs hs2, lc2_rd hx hown hown2⟩
theorem k_lc2 {m e t it cs t2 it2 cs2 own vs2 sc p} (h1 : SE s a n e) (h2 : SII s a n it) (h3 : SEs s a n cs) (h4 : SII s a n it2) (h5 : SEs s a n cs2) : SE s a n (.lc2 m e t it cs t2 it2 cs2 own vs2 sc p) := fun Γ X xr W x h => by
  simp only [okE, Bool.and_eq_true, decide_eq_true_eq] at h
  obtain ⟨⟨⟨⟨⟨⟨⟨⟨⟨⟨⟨⟨⟨⟨⟨hc, hi⟩, hk⟩, ht⟩, ho⟩, hcs⟩, hts⟩, hl⟩, hi2⟩, ht2⟩, ho2⟩, hv⟩, hcs2⟩, hts2⟩, hl2⟩, he⟩ := h
  have B := x.blk hc sc
  exact both (e := .lc2 m e t it cs t2 it2 cs2 own vs2 sc p) (e_lc2 x.xok (x.calm hc).1 x.nd (h2 Γ X xr W x t hi) (blk_of x hk) (fun i hi => of_decide_eq_true (List.all_eq_true.mp ho i hi)) (fun i hi => of_decide_eq_true (List.all_eq_true.mp ho2 i hi)) (fun i hi => of_decide_eq_true (List.all_eq_true.mp hv i hi))
    (fun st H C cl fp => (B st H C cl fp).tg ht) (fun st H C cl fp => (B st H C cl fp).tg ht2)
    (fun st H C cl fp => (h3 _ _ xr W0 (B st H C cl fp) hcs).ifs hts hl) (fun st H C cl fp => (h5 _ _ xr W0 (B st H C cl fp) hcs2).ifs hts2 hl2) (fun st H C cl fp => h4 _ _ xr W0 (B st H C cl fp) t2 hi2) (fun st H C cl fp => (h1 _ _ xr W0 (B st H C cl fp) he).1) (folded_ok it X.env) (fun env => folded_ok it2 env)) rfl
theorem t_tup {t : IT} (h : t.many? = true) : ∃ elts kk tp, t.e = .Tuple elts kk tp := by
  cases t with
  | one => cases h
  | many l k p => exact ⟨_, _, _, rfl⟩
theorem k_of {e} (h1 : SE s a n e) : SII s a n (.of e) := fun Γ X xr W x t h => by
  simp only [okII] at h
  exact i_of (h1 Γ X xr W x h).1
theorem k_rng1 {e p0 p} (h1 : SE s a n e) : SII s a n (.rng1 e p0 p) := fun Γ X xr W x t h => by
  simp only [okII, Bool.and_eq_true, decide_eq_true_eq] at h
  exact i_rng1 (x.gl h.1.1) (x.gf.blt _ h.1.2) (star_e e _ _) (h1 Γ X xr W x h.2).1
theorem k_rng2 {e e2 p0 p} (h1 : SE s a n e) (h2 : SE s a n e2) : SII s a n (.rng2 e e2 p0 p) := fun Γ X xr W x t h => by
  simp only [okII, Bool.and_eq_true, decide_eq_true_eq] at h
  exact i_rng2 x.xok (x.gl h.1.1.1) (x.gf.blt _ h.1.1.2) (star_e e _ _) (star_e e2 _ _) rfl (h1 Γ X xr W x h.1.2).1 (h2 Γ X xr W x h.2).1
theorem k_enum {e p0 p} (h1 : SE s a n e) : SII s a n (.enum e p0 p) := fun Γ X xr W x t h => by
  simp only [okII, Bool.and_eq_true, decide_eq_true_eq] at h
  obtain ⟨l, k, tp, et⟩ := t_tup h.1.1.1
  rw [et]
  exact i_enum (x.gl h.1.1.2) (x.gf.blt _ h.1.2) (star_e e _ _) (h1 Γ X xr W x h.2).1
theorem k_zip {e e2 p0 p} (h1 : SE s a n e) (h2 : SE s a n e2) : SII s a n (.zip e e2 p0 p) := fun Γ X xr W x t h => by
  simp only [okII, Bool.and_eq_true, decide_eq_true_eq] at h
  obtain ⟨l, k, tp, et⟩ := t_tup h.1.1.1.1
  rw [et]
  exact i_zip x.xok (x.gl h.1.1.1.2) (x.gf.blt _ h.1.1.2) (star_e e _ _) (star_e e2 _ _) (plain_es p _ (.cons e2 .nil)) (h1 Γ X xr W x h.1.2).1 (h2 Γ X xr W x h.2).1
theorem k_no {e} (h : ∀ Γ, okE s Γ e = false) : SE s a n e := fun Γ X xr W x q => by
  rw [h] at q
  cases q
theorem k_noI {it} (h : ∀ Γ m, okII s Γ m it = false) : SII s a n it := fun Γ X xr W x t q => by
  rw [h] at q
  cases q
end
mutual
theorem sE (s : ST) (a : FA) (n : Nat) : ∀ e : IE, SE s a n e
  | .var _ _ _ => k_var
  | .int _ _ _ => k_int
  | .bl _ _ _ => k_bl
  | .non _ _ => k_non
  | .str _ _ _ => k_str
  | .gint _ _ _ => k_gint
  | .bin _ _ e1 e2 _ => k_bin (sE s a n e1) (sE s a n e2)
  | .neg e1 _ => k_neg (sE s a n e1)
  | .cmp _ e1 e2 _ => k_cmp (sE s a n e1) (sE s a n e2)
  | .isN _ e1 _ _ _ => k_isN (sE s a n e1)
  | .not e1 _ => k_not (sE s a n e1)
  | .and e1 r _ => k_and (sE s a n e1) (sEs s a n r)
  | .or e1 r _ => k_or (sE s a n e1) (sEs s a n r)
  | .ifx c e1 e2 _ => k_ifx (sE s a n c) (sE s a n e1) (sE s a n e2)
  | .lst _ es _ => k_lst (sEs s a n es)
  | .tup es _ _ => k_tup (sEs s a n es)
  | .ix e1 e2 _ => k_ix (sE s a n e1) (sE s a n e2)
  | .sl _ e1 lo hi _ _ => k_sl (sE s a n e1) (sEs s a n lo) (sEs s a n hi)
  | .attr e1 _ _ _ => k_attr (sE s a n e1)
  | .call _ _ e1 es _ _ => k_call (sE s a n e1) (sEs s a n es)
  | .callK _ _ e1 es kw _ _ _ => k_callK (sE s a n e1) (sEs s a n es) (sKs s a n kw)
  | .callKK _ _ kw _ _ _ => k_callKK (sKs s a n kw)
  | .bi _ _ e1 es _ _ => k_bi (sE s a n e1) (sEs s a n es)
  | .gcd _ e1 e2 _ _ => k_gcd (sE s a n e1) (sE s a n e2)
  | .make _ _ _ e1 es _ _ => k_make (sE s a n e1) (sEs s a n es)
  | .meth _ _ o _ es _ _ => k_meth (sE s a n o) (sEs s a n es)
  | .callD _ _ e1 es _ _ _ => k_callD (sE s a n e1) (sEs s a n es)
  | .makeD _ _ _ e1 es _ _ _ => k_makeD (sE s a n e1) (sEs s a n es)
  | .opm _ _ _ e1 e2 _ => k_opm (sE s a n e1) (sE s a n e2)
  | .prop _ _ o _ _ => k_prop (sE s a n o)
  | .chain _ _ e1 e2 e3 _ => k_chain (sE s a n e1) (sE s a n e2) (sE s a n e3)
  | .inn _ e1 e2 _ => k_inn (sE s a n e1) (sE s a n e2)
  | .lmeth o _ es _ _ => k_lmeth (sE s a n o) (sEs s a n es)
  | .isT e1 _ _ _ _ => k_isT (sE s a n e1)
  | .isC e1 _ _ _ _ => k_isC (sE s a n e1)
  | .xIs _ _ _ _ _ _ _ => k_xIs
  | .xAt _ _ _ _ _ => k_xAt
  | .lc _ e _ it cs _ _ _ => k_lc (sE s a n e) (sII s a n it) (sEs s a n cs)
  | .lc2 _ e _ it cs _ it2 cs2 _ _ _ _ => k_lc2 (sE s a n e) (sII s a n it) (sEs s a n cs) (sII s a n it2) (sEs s a n cs2)
theorem sEs (s : ST) (a : FA) (n : Nat) : ∀ es : IEs, SEs s a n es
  | .nil => fun _ _ _ _ _ _ => c_nil
  | .cons e r => fun Γ X xr W x h => by
    have h : (okE s Γ e && okEs s Γ r) = true := by simpa only [okEs] using h
    rw [Bool.and_eq_true] at h
    exact c_cons x (sE s a n e Γ X xr W x h.1) (sEs s a n r Γ X xr W x h.2)
theorem sKs (s : ST) (a : FA) (n : Nat) : ∀ es : IKs, SKs s a n es
  | .nil => fun _ _ _ _ _ _ => k_nil
  | .cons _ e _ r => fun Γ X xr W x h => by
    have h : (okE s Γ e && okKs s Γ r) = true := by simpa only [okKs] using h
    rw [Bool.and_eq_true] at h
    exact k_cons x.xok (sE s a n e Γ X xr W x h.1).1 (sKs s a n r Γ X xr W x h.2)
theorem sII (s : ST) (a : FA) (n : Nat) : ∀ it : II, SII s a n it
  | .of e => k_of (sE s a n e)
  | .rng1 e _ _ => k_rng1 (sE s a n e)
  | .rng2 e e2 _ _ => k_rng2 (sE s a n e) (sE s a n e2)
  | .enum e _ _ => k_enum (sE s a n e)
  | .zip e e2 _ _ => k_zip (sE s a n e) (sE s a n e2)
  | .zip3 _ _ _ _ _ => k_noI fun _ _ => by simp only [okII]
end
end MP
set_option Elab.async false
set_option linter.all false
set_option maxRecDepth 100000
set_option maxHeartbeats 4000000
/-! MPSound3: statements are sound. -/
namespace MP
open PySem PySem.Spec PyProof.Rows L2
def swB (Γ : SC) (x : Str) (px p : Pos) (sc : Scope) : Bool := (Γ.sc.names.lookup x == some .local) && (px.line == p.line) && !(sc.names.any fun (n, k) => n == x && (k == .local || k == .cell))
def isTupE : IE → Bool
  | .tup _ _ _ => true
  | _ => false
def ISs.isNil : ISs → Bool
  | .nil => true
  | _ => false
def IEs.isNil : IEs → Bool
  | .nil => true
  | _ => false
mutual
def okS (s : ST) (Γ : SC) : IS → Bool
  | .asg t e _ => okT Γ t && okE s Γ e && (match t with
    | .one _ _ _ => true
    | .many _ _ _ => !isTupE e)
  | .aug i x op e _ _ => okV Γ i x && okN Γ i x && okE s Γ e && (match op with
    | .add => true
    | .sub => true
    | _ => false)
  | .setIx a i e _ _ => okE s Γ a && okE s Γ i && okE s Γ e
  | .setAt o c f e _ _ => okE s Γ o && okE s Γ e && decide ((c, f) ∈ s.attrs)
  | .expr e _ => okE s Γ e && noLc e
  | .ret e _ => okE s Γ e
  | .ite c a b _ => okE s Γ c && okTst c && okSs s Γ a && okSs s Γ b
  | .for_ t it b _ => Γ.calm && okT Γ t && okII s Γ t.many? it && okSs s Γ b
  | .while_ c b _ => Γ.calm && okE s Γ c && okTst c && okSs s Γ b
  | .raise c _ a _ _ _ => (match s.T.xc c with
    | none => true
    | some X => Γ.calm && okG Γ c && okEs s Γ a && !a.isNil && s.xcs.any fun q => decide (q.1 = c) && decide (X.fs = q.2))
  | .pass _ => true
  | .brk _ => true
  | .cont _ => true
  | .try1 b c i n sss _ _ _ _ => Γ.calm && okSs s Γ b && okG Γ c && decide (c ∈ s.exn) && decide (Γ.N[i]? = some n) && decide (Γ.sc.names.lookup n = some .local) && !sss.isNil && okSs s ⟨Γ.N, Γ.sc, false⟩ sss
def okSs (s : ST) (Γ : SC) : ISs → Bool
  | .nil => true
  | .cons t r => okS s Γ t && okSs s Γ r
end
structure XS (s : ST) (a : FA) (n : Nat) (Γ : SC) (X : Cx) (xr : XR) (W : WX) : Prop extends XF s a n Γ X xr W where
  env : X.env.scope = Γ.sc
  knd : X.env.scope.kind = .function
  po : Γ.calm = true → PassesOwn (model X.prog X.w) X.A X.env X.xe
  stk : X.stack = X.env :: X.outer
  frm : X.env.frame = some X.env.locals
abbrev SS (s : ST) (a : FA) (n : Nat) (st : IS) : Prop := ∀ (Γ : SC) (X : Cx) (xr : XR) (W : WX), XS s a n Γ X xr W → okS s Γ st = true → SOk X xr W st.s (evS (s.T.C n) st)
abbrev SSs (s : ST) (a : FA) (n : Nat) (st : ISs) : Prop := ∀ (Γ : SC) (X : Cx) (xr : XR) (W : WX), XS s a n Γ X xr W → okSs s Γ st = true → SsOk X xr W st.ss (evSs (s.T.C n) st)
theorem swap_other (e : IE) (line : Nat) (env : PySem.Env) (t : Expr) (h : ∀ x p, t ≠ .Name x p) : swapsWith e.e (some t) line env = pure false := by
  cases e <;> first | rfl | (cases t <;> first | rfl | exact absurd rfl (h _ _))
theorem swap_many (e : IE) (env : PySem.Env) (ts : List Expr) (k : Nat) (p : Pos) (h : isTupE e = false) : swappedStores [.Tuple ts k p] e.e env = pure none := by
  cases e <;> first | rfl | cases h
theorem asg_sub (o i : IE) (ps : Pos) (env : PySem.Env) : ∀ v, assign (.Subscript o.e i.e ps) env v = (do
      let ov ← holding [v] (eval o.e env)
      let iv ← holding [v, ov] (eval i.e env)
      standAt ps
      holding [v, ov, iv] (setItem ov iv v)
      release [v, ov, iv] []) := by
  cases i <;> intro v <;> rfl
section
variable {s : ST} {a : FA} {n : Nat}
theorem swap_name {Γ : SC} {X : Cx} {xr : XR} {W : WX} (x : XS s a n Γ X xr W) {elt : Expr} {gs : List Comprehension} {sc : Scope} {p px : Pos} {y : Str} {line : Nat} : swapsWith (.ListComp elt gs sc p) (some (.Name y px)) line X.env = pure (swB Γ y px p sc) := by
  have bk : X.env.blockKind = .function := by
    unfold Env.blockKind
    rw [x.knd]
    rfl
  have kd : X.env.kindOf y = Γ.sc.names.lookup y := by
    unfold Env.kindOf
    rw [x.env]
  show (pure (X.env.blockKind == .function && X.env.kindOf y == some .local && px.line == p.line && !(sc.names.any fun (n, k) => n == y && (k == .local || k == .cell))) : Sem Bool) = _
  rw [bk, kd]
  unfold swB
  rfl
theorem sw_loc {Γ : SC} {X : Cx} {xr : XR} {W : WX} (x : XS s a n Γ X xr W) {sc : Scope} {p px : Pos} {y : Str} (h : swB Γ y px p sc = true) : X.env.scope.names.lookup y = some .local := by
  unfold swB at h
  rw [Bool.and_eq_true, Bool.and_eq_true] at h
  rw [x.env]
  exact eq_of_beq h.1.1
theorem z_asg {t e p} : SS s a n (.asg t e p) := fun Γ X xr W x h => by
  simp only [okS, Bool.and_eq_true] at h
  obtain ⟨⟨ht, he⟩, hm⟩ := h
  have q := (sE s a n e Γ X xr W x.toXF he).1
  have ito := x.toXF.tg ht
  cases t with
  | many l k pt =>
    obtain ⟨te, pe, qe⟩ := q
    have hm' : isTupE e = false := by simpa using hm
    exact s_set (t := .many l k pt) x.xok (ps_asg pe (pg_T x.nd (.many l k pt) ito) (swap_other e p.line X.env (.Tuple (l.map fun q => .Name q.2.1 q.2.2) k pt) (fun _ _ z => nomatch z)) (swap_many e _ _ _ _ hm') rfl) qe
  | one i y pt =>
    have viaSet : swapsWith e.e (some (.Name y pt)) p.line X.env = pure false → SOk X xr W (IS.asg (.one i y pt) e p).s (evS (s.T.C n) (.asg (.one i y pt) e p)) := fun hs => by
      obtain ⟨te, pe, qe⟩ := q
      exact s_set (t := .one i y pt) x.xok (ps_set x.nd ito.1 ito.2.1 pe hs ito.2.2) qe
    by_cases hl : noLc e = true
    · exact viaSet (swap_ok e _ _ _ hl)
    · cases e with
      | lc m e t it cs own sc pl =>
        cases hb : swB Γ y pt pl sc with
        | false => exact viaSet (by rw [← hb]; exact swap_name x)
        | true =>
          simp only [okE, Bool.and_eq_true, decide_eq_true_eq] at he
          obtain ⟨⟨⟨⟨⟨⟨⟨⟨hc, hi⟩, hk⟩, ht⟩, ho⟩, hcs⟩, hts⟩, hln⟩, he⟩ := he
          have B := x.toXF.blk hc sc
          exact s_set (t := .one i y pt) x.xok (ps_setLc (tt := rdT X.K xr W0 (fun ρ' => evTs (s.T.C n).toCalls cs ρ')) (te := rdE X.K xr W0 (evE (s.T.C n).toCalls e)) (x.calm hc).1 x.nd ito.1 (sw_loc x hb) (by rw [← hb]; exact swap_name x) (sII s a n it Γ X xr W x.toXF t hi).rd (blk_of x.toXF hk)
            (fun st H C cl fp => pg_T (X := X.blk st H sc (compEnvC sc cl C X.env) fp) x.nd t ((B st H C cl fp).tg ht)) (fun st H C cl fp => (sEs s a n cs _ _ xr W0 (B st H C cl fp) hcs).ifs hts hln) (fun st H C cl fp => (sE s a n e _ _ xr W0 (B st H C cl fp) he).1.rd) (folded_ok it X.env))
            (lc_rd (m := m) x.xok (fun i hi => of_decide_eq_true (List.all_eq_true.mp ho i hi)))
      | lc2 m e t it cs t2 it2 cs2 own vs2 sc pl =>
        cases hb : swB Γ y pt pl sc with
        | false => exact viaSet (by rw [← hb]; exact swap_name x)
        | true =>
          simp only [okE, Bool.and_eq_true, decide_eq_true_eq] at he
          obtain ⟨⟨⟨⟨⟨⟨⟨⟨⟨⟨⟨⟨⟨⟨⟨hc, hi⟩, hk⟩, ht⟩, ho⟩, hcs⟩, hts⟩, hl⟩, hi2⟩, ht2⟩, ho2⟩, hv⟩, hcs2⟩, hts2⟩, hl2⟩, he⟩ := he
          have B := x.toXF.blk hc sc
          exact s_set (t := .one i y pt) x.xok (ps_setLc2 (tt := rdT X.K xr W0 (fun ρ' => evTs (s.T.C n).toCalls cs ρ')) (tt1 := rdT X.K xr W0 (fun ρ' => evTs (s.T.C n).toCalls cs2 ρ')) (wi1 := rdI X.K xr W0 (evII (s.T.C n).toCalls it2)) (te := rdE X.K xr W0 (evE (s.T.C n).toCalls e)) (x.calm hc).1 x.nd ito.1 (sw_loc x hb) (by rw [← hb]; exact swap_name x) (sII s a n it Γ X xr W x.toXF t hi).rd (blk_of x.toXF hk) (fun i hi => of_decide_eq_true (List.all_eq_true.mp hv i hi))
            (fun st H C cl fp => pg_T (X := X.blk st H sc (compEnvC sc cl C X.env) fp) x.nd t ((B st H C cl fp).tg ht)) (fun st H C cl fp => (sEs s a n cs _ _ xr W0 (B st H C cl fp) hcs).ifs hts hl)
            (fun st H C cl fp => (sII s a n it2 _ _ xr W0 (B st H C cl fp) t2 hi2).rd) (fun st H C cl fp => pg_T (X := X.blk st H sc (compEnvC sc cl C X.env) fp) x.nd t2 ((B st H C cl fp).tg ht2)) (fun st H C cl fp => (sEs s a n cs2 _ _ xr W0 (B st H C cl fp) hcs2).ifs hts2 hl2)
            (fun st H C cl fp => (sE s a n e _ _ xr W0 (B st H C cl fp) he).1.rd) (folded_ok it X.env) (fun env => folded_ok it2 env))
            (lc2_rd (m := m) x.xok (fun i hi => of_decide_eq_true (List.all_eq_true.mp ho i hi)) (fun i hi => of_decide_eq_true (List.all_eq_true.mp ho2 i hi)))
      | _ => exact absurd rfl hl
theorem z_aug {i y op e px p} : SS s a n (.aug i y op e px p) := fun Γ X xr W x h => by
  simp only [okS, Bool.and_eq_true] at h
  obtain ⟨⟨⟨hv, hn⟩, he⟩, ho⟩ := h
  have nm := x.toXF.nm hn
  obtain ⟨te, pe, qe⟩ := (sE s a n e Γ X xr W x.toXF he).1
  have key : ∀ (f : Int → Int → Int) (hf : ∀ i j, binR false op (.dat (.int i)) (.dat (.int j)) = M.pure (.dat (.int (f i j)))), ∀ σ w S ρ D, EnvR X.K xr w σ ρ → SR X.K w S → HopS X.K xr W w D (evS (s.T.C n) (.aug i y op e px p) ρ S) → tAug i te (ipI f) D σ w.H := by
    intro f hf σ w S ρ D er sr h
    have h : HopS X.K xr W w D (SRes.of ρ ((M.bind (getV ρ i) fun x => M.bind (evE (s.T.C n).toCalls e ρ) fun y => match x, y with
      | .dat (.int _), .dat (.int _) => binR false op x y
      | _, _ => M.stuck) S) fun r S1 => .go .next (ρ.set i (some r)) S1) := h
    cases ei : ρ[i]? with
    | none =>
      have z : getV ρ i = M.stuck := by unfold getV; rw [ei]
      rw [z] at h
      exact h.elim
    | some o =>
      cases o with
      | none =>
        have z : getV ρ i = M.stuck := by unfold getV; rw [ei]
        rw [z] at h
        exact h.elim
      | some r =>
        obtain ⟨v, h1, h2⟩ := er.get i r ei
        refine ⟨v, h1, ?_⟩
        have h3 : Hop X.K (Rel X.K) (WE W σ) w (fun z H2 => D.nx (σ.set i (some z)) H2) ((M.bind (getV ρ i) fun x => M.bind (evE (s.T.C n).toCalls e ρ) fun y => match x, y with
          | .dat (.int _), .dat (.int _) => binR false op x y
          | _, _ => M.stuck) S) := hopS_of x.xok er h fun w1 a b S1 e1 s1 rr h4 => h4 w1 _ (Ext.refl _) s1 ((er.ext x.xok e1).set rr.toX)
        cases r with
        | exc c ns l =>
          have z : getV ρ i = M.stuck := by unfold getV; rw [ei]
          rw [z] at h3
          exact h3.elim
        | own k =>
          have z : getV ρ i = M.pure (.own k) := by unfold getV; rw [ei]
          rw [z, pure_bind] at h3
          refine qe σ w S ρ _ er sr (h3.bind fun w1 b bv S1 e1 s1 rb h4 => ?_)
          exact h4.elim
        | dat d =>
          have z : getV ρ i = M.pure (.dat d) := by unfold getV; rw [ei]
          rw [z, pure_bind] at h3
          refine qe σ w S ρ _ er sr (h3.bind fun w1 b bv S1 e1 s1 rb h4 => ?_)
          cases d with
          | int j =>
            cases b with
            | own k => exact h4.elim
            | exc c ns l => exact h4.elim
            | dat d2 =>
              cases d2 with
              | int j2 =>
                dsimp only at h4
                rw [hf] at h4
                exact ⟨j, j2, h2, rb, h4 w1 _ (Ext.refl _) s1 rfl⟩
              | _ => exact h4.elim
          | _ => exact h4.elim
  cases op with
  | add => exact ⟨_, ps_aug x.nd nm.1 nm.2.1 pe ip_add nm.2.2, key _ fun _ _ => rfl⟩
  | sub => exact ⟨_, ps_aug x.nd nm.1 nm.2.1 pe ip_sub nm.2.2, key _ fun _ _ => rfl⟩
  | _ => cases ho
theorem z_setIx {o i e ps p} : SS s a n (.setIx o i e ps p) := fun Γ X xr W x h => by
  simp only [okS, Bool.and_eq_true] at h
  exact s_setIx x.xok (swap_other e _ _ _ (fun _ _ z => nomatch z)) (asg_sub o i ps _) (sE s a n e Γ X xr W x.toXF h.2).1 (sE s a n o Γ X xr W x.toXF h.1.1).1 (sE s a n i Γ X xr W x.toXF h.1.2).1
theorem z_setAt {o c f e ps p} : SS s a n (.setAt o c f e ps p) := fun Γ X xr W x h => by
  simp only [okS, Bool.and_eq_true, decide_eq_true_eq] at h
  have q := x.gf.attrs _ h.2
  exact s_setAt x.xok q.1 q.2 (swap_other e _ _ _ (fun _ _ z => nomatch z)) (sE s a n e Γ X xr W x.toXF h.1.2).1 (sE s a n o Γ X xr W x.toXF h.1.1).1
theorem z_expr {e p} : SS s a n (.expr e p) := fun Γ X xr W x h => by
  simp only [okS, Bool.and_eq_true] at h
  exact s_expr x.xok (swap_ok e _ _ _ h.2) (sE s a n e Γ X xr W x.toXF h.1).1
theorem z_ret {e p} : SS s a n (.ret e p) := fun Γ X xr W x h => by
  simp only [okS] at h
  exact s_ret x.xok (sE s a n e Γ X xr W x.toXF h).1
theorem z_ite {c b1 b2 p} (h1 : SSs s a n b1) (h2 : SSs s a n b2) : SS s a n (.ite c b1 b2 p) := fun Γ X xr W x h => by
  simp only [okS, Bool.and_eq_true] at h
  exact s_if x.xok ((sE s a n c Γ X xr W x.toXF h.1.1.1).2 h.1.1.2) (h1 Γ X xr W x h.1.2) (h2 Γ X xr W x h.2)
theorem z_for {t it b p} (h1 : SSs s a n b) : SS s a n (.for_ t it b p) := fun Γ X xr W x h => by
  simp only [okS, Bool.and_eq_true] at h
  obtain ⟨⟨⟨hc, ht⟩, hi⟩, hb⟩ := h
  exact s_for x.xok (x.po hc) (x.calm hc).1 x.nd (x.toXF.tg ht) (folded_ok it X.env) (sII s a n it Γ X xr W x.toXF t hi) (h1 Γ X xr W x hb)
theorem z_while {c b p} (h1 : SSs s a n b) : SS s a n (.while_ c b p) := fun Γ X xr W x h => by
  simp only [okS, Bool.and_eq_true] at h
  obtain ⟨⟨⟨hc, he⟩, ht⟩, hb⟩ := h
  exact s_while x.xok (x.po hc) ((sE s a n c Γ X xr W x.toXF he).2 ht) (h1 Γ X xr W x hb)
theorem z_brk {p} : SS s a n (.brk p) := fun Γ X xr W x h => s_brk
theorem z_cont {p} : SS s a n (.cont p) := fun Γ X xr W x h => s_cont
theorem z_pass {p} : SS s a n (.pass p) := fun Γ X xr W x h => s_pass
theorem z_raise {c f es pn pc p} : SS s a n (.raise c f es pn pc p) := fun Γ X xr W x h => by
  simp only [okS] at h
  cases ex : s.T.xc c with
  | none =>
    refine ⟨_, ps_never, fun σ w S ρ D er sr h => ?_⟩
    have h : HopS X.K xr W w D (match s.T.xc c with
      | none => .stuck
      | some _ => SRes.of ρ ((M.bind (evEs (s.T.C n).toCalls es ρ) fun rs => raiseR (s.T.C n) c rs) S) fun _ _ => .stuck) := h
    rw [ex] at h
    exact h
  | some Y =>
    simp only [ex, Bool.and_eq_true] at h
    obtain ⟨⟨⟨⟨hc, hg⟩, hes⟩, hn⟩, hx⟩ := h
    obtain ⟨q, hq, hq2⟩ := List.any_eq_true.mp hx
    rw [Bool.and_eq_true] at hq2
    have e1 := of_decide_eq_true hq2.1
    have e2 := of_decide_eq_true hq2.2
    obtain ⟨c', fs⟩ := q
    dsimp only at e1 e2
    subst e1
    obtain ⟨fI, fd, ps, T, iC, tI, hne, hl, F1, hb, hm, hd⟩ := x.gf.xcs _ hq
    cases es with
    | nil => cases hn
    | cons e r =>
      have hxc : (s.T.C n).xc c' = some ⟨fs⟩ := by
        show s.T.xc c' = _
        rw [ex, ← e2]
      have ev : evS (s.T.C n) (.raise c' f (.cons e r) pn pc p) = fun ρ S => SRes.of ρ ((M.bind (evEs (s.T.C n).toCalls (.cons e r) ρ) fun rs => raiseR (s.T.C n) c' rs) S) fun _ _ => .stuck := by
        funext ρ S
        show (match (s.T.C n).xc c' with
          | none => SRes.stuck
          | some _ => SRes.of ρ ((M.bind (evEs (s.T.C n).toCalls (.cons e r) ρ) fun rs => raiseR (s.T.C n) c' rs) S) fun _ _ => .stuck) = _
        rw [hxc]
      rw [ev]
      exact s_raise (fs := fs) x.xok (x.calm hc).1 x.tk hxc (fun ta pa => pmk_flds T iC tI hne hl F1 ((x.calm hc).2.1.mono (by omega)) hb (L2N.passes_call x.tk fun _ _ _ _ z => z.elim) (x.toXF.gl hg) hm pa hd (star_e e _ _) (plain_es pc _ r)) (sEs s a n (.cons e r) Γ X xr W x.toXF hes).all
theorem z_try {b c i nm sss pc ph h p} (h1 : SSs s a n b) (h2 : SSs s a n sss) : SS s a n (.try1 b c i nm sss pc ph h p) := fun Γ X xr W x hh => by
  simp only [okS, Bool.and_eq_true, decide_eq_true_eq] at hh
  obtain ⟨⟨⟨⟨⟨⟨⟨hc, hb⟩, hg⟩, hx⟩, hN⟩, hl⟩, hn⟩, hs⟩ := hh
  have e0 := (x.calm hc).2.2
  subst e0
  have q := x.gf.exn _ hx
  cases sss with
  | nil => cases hn
  | cons s0 sr =>
    have kn : X.env.kindOf nm = some .local := by
      unfold Env.kindOf
      rw [x.env]
      exact hl
    refine s_try (b₀ := s0.s) (suite := sr.ss) (hds := h.hs) (f := evSs (s.T.C n) b) (g := evSs (s.T.C n) (.cons s0 sr)) x.stk x.frm x.nd (by rw [x.N]; exact hN) kn ⟨x.toXF.gl hg, q.2, .inl q.1⟩ x.gf.subE (fun W' pn xe tk po => ?_) fun a' oe cls d pn hz hf => ?_
    · exact h1 Γ (X.tr pn xe) xr0 W' { gf := x.gf, fl := x.fl, N := x.N, nd := x.nd, sc := x.sc, fnc := x.fnc, calm := fun _ => x.calm hc, hot := (fun z => by rw [hc] at z; cases z), tk := tk, xok := x.xok, env := x.env, knd := x.knd, po := fun _ => po, stk := x.stk, frm := x.frm } hb
    · have rm := (x.calm hc).2.1
      obtain ⟨vs, hv⟩ := hf
      obtain ⟨u, hu⟩ : ∃ u, vs[2]? = some u := ⟨.none, hz.2.2 vs hv⟩
      exact h2 ⟨Γ.N, Γ.sc, false⟩ (X.suite a' ((a', oe) :: pn)) (xrS X.K a' cls d) W0 { gf := x.gf, fl := x.fl, N := x.N, nd := x.nd, sc := x.sc, fnc := x.fnc, calm := (fun z => Bool.noConfusion z), hot := fun _ => ⟨⟨rm.dp, rm.un⟩, ⟨(a', oe), ⟨rfl, vs, hv, hz.2.2 vs hv⟩, List.mem_cons_self⟩, fun w c ns l v hxr => ⟨a', oe, d, X, pn, rfl, hxr.1, ⟨hz.1.trans hxr.2.1, hz.2.1⟩, ⟨vs, hv⟩, hxr.2.2⟩⟩, tk := takes0, xok := xrS_ok, env := x.env, knd := x.knd, po := (fun z => Bool.noConfusion z), stk := x.stk, frm := x.frm } hs
end
mutual
theorem sS (s : ST) (a : FA) (n : Nat) : ∀ st : IS, SS s a n st
  | .asg _ _ _ => z_asg
  | .aug _ _ _ _ _ _ => z_aug
  | .setIx _ _ _ _ _ => z_setIx
  | .setAt _ _ _ _ _ _ => z_setAt
  | .expr _ _ => z_expr
  | .ret _ _ => z_ret
  | .ite _ b1 b2 _ => z_ite (sSs s a n b1) (sSs s a n b2)
  | .for_ _ _ b _ => z_for (sSs s a n b)
  | .while_ _ b _ => z_while (sSs s a n b)
  | .brk _ => z_brk
  | .cont _ => z_cont
  | .raise _ _ _ _ _ _ => z_raise
  | .pass _ => z_pass
  | .try1 b _ _ _ sss _ _ _ _ => z_try (sSs s a n b) (sSs s a n sss)
theorem sSs (s : ST) (a : FA) (n : Nat) : ∀ st : ISs, SSs s a n st
  | .nil => fun _ _ _ _ _ _ => ss_nil
  | .cons t r => fun Γ X xr W x h => by
    have h : (okS s Γ t && okSs s Γ r) = true := by simpa only [okSs] using h
    rw [Bool.and_eq_true] at h
    exact ss_cons (sS s a n t Γ X xr W x h.1) (sSs s a n r Γ X xr W x h.2)
end
end MP
set_option Elab.async false
set_option linter.all false
set_option maxRecDepth 100000
set_option maxHeartbeats 4000000
/-! MPFn: the defs keep their promises. -/
namespace MP
open PySem PySem.Spec PyProof.Rows L2
theorem ExcD.keep {K : PySem.W.Frag} {w w' : Wd} {ns : List Str} {l : List D} {d : Option Addr} (x : ∀ a o, ¬ w.Live a → w.H a = some o → ¬ w'.Live a ∧ w'.H a = some o) (h : ExcD K w ns l d) : ExcD K w' ns l d := by
  rcases h with h | ⟨dd, fs, e, nl, hd, hf⟩
  · exact .inl h
  · refine .inr ⟨dd, fs, e, (x _ _ nl hd).1, (x _ _ nl hd).2, fun f y hy => ?_⟩
    obtain ⟨v, h1, h2⟩ := hf f y hy
    exact ⟨v, h1, Rep.imp x _ _ h2⟩
/-- from a body's end to a call's -/
theorem seal_ok {K : PySem.W.Frag} {xr : XR} {w : Wd} {S : Store} {E : XK} {Q : VK} (s : SR K w S) : ∀ {r : SRes}, Hop K (Rel K) E w Q (sealS S.length r) → HopS K xr (fun cls d _ H => E cls d H) w { nx := fun _ H' => Q .non H', rt := Q } r := by
  have key : ∀ (r : R) (S' : Store), Hop K (Rel K) E w Q (sealR S.length r S') → ∀ w' v, Ext w w' → SR K w' S' → Rel K w' r v → Q v w'.H := by
    intro r S' h w' v x s' rv
    unfold sealR at h
    by_cases hb : (S'.take S.length).all (Cell.below S.length) = true ∧ S.length ≤ S'.length
    · rw [if_pos hb] at h
      have l3 : S.length ≤ w'.n := by rw [s'.n]; exact hb.2
      have ln : w.n = S.length := s.n
      cases r with
      | dat d => exact h (w'.cut S.length) v (x.cut ln) (s'.cut l3 hb.1) (Rel.cut (r := .dat d) l3 rfl rv)
      | exc c ns l => exact rv.elim
      | own k =>
        dsimp only at h
        by_cases hk : k < S.length
        · rw [if_pos hk] at h
          exact h (w'.cut S.length) v (x.cut ln) (s'.cut l3 hb.1) (Rel.cut (r := .own k) l3 (decide_eq_true hk) rv)
        · rw [if_neg hk] at h
          cases ed : toD S.length S' 8 (.own k) with
          | none => rw [ed] at h; exact h.elim
          | some d =>
            rw [ed] at h
            exact h (w'.cut S.length) v (x.cut ln) (s'.cut l3 hb.1) (toD_ok s' l3 8 _ d v ed rv)
    · rw [if_neg hb] at h
      exact h.elim
  intro r h
  match r, h with
  | .go .next ρ S', h => exact fun w' σ x s' _ => key (.dat .non) S' h w' .non x s' rfl
  | .go .brk ρ S', h => exact h.elim
  | .go .cont ρ S', h => exact h.elim
  | .go (.ret r) ρ S', h => exact fun w' v x s' rv => key r S' h w' v x s' rv
  | .stuck, h => exact h.elim
  | .exc c ns l ρ S', h =>
    intro w' σ d x s' _ hd
    dsimp only [sealS] at h
    by_cases hb : (S'.take S.length).all (Cell.below S.length) = true ∧ S.length ≤ S'.length
    · rw [if_pos hb] at h
      have l3 : S.length ≤ w'.n := by rw [s'.n]; exact hb.2
      exact h (w'.cut S.length) d (x.cut s.n) (s'.cut l3 hb.1) (hd.keep (cut_keep l3))
    · rw [if_neg hb] at h
      exact h.elim
theorem sealF_ok {K : PySem.W.Frag} {xr : XR} {w : Wd} {S : Store} {E : XK} {Q : VK} {k : Bool} (s : SR K w S) {r : SRes} (h : Hop K (Rel K) E w Q (sealF k S.length r)) : HopS K xr (fun cls d _ H => E cls d H) w { nx := fun _ H' => Q .non H', rt := Q } r := by
  cases k with
  | false => exact seal_ok s h
  | true =>
    match r, h with
    | .go .next ρ S', h => exact fun w' σ x s' _ => h w' .non x s' rfl
    | .go .brk ρ S', h => exact h.elim
    | .go .cont ρ S', h => exact h.elim
    | .go (.ret (.dat d)) ρ S', h => exact fun w' v x s' rv => h w' v x s' rv
    | .go (.ret (.own k)) ρ S', h => exact fun w' v x s' rv => h w' v x s' rv
    | .go (.ret (.exc c ns l)) ρ S', h => exact h.elim
    | .stuck, h => exact h.elim
    | .exc c ns l ρ S', h => exact fun w' σ d x s' _ hd => h w' d x s' hd
theorem start_env {K : PySem.W.Frag} {w : Wd} {F : Fn} {rs : List R} {vs : List V} (r : Rels K w rs vs) : EnvR K xr0 w (L2.start F.N vs) (MP.start F rs) := by
  have l := r.length
  refine ⟨by unfold MP.start L2.start; rw [List.length_append, List.length_append, List.length_map, List.length_map, List.length_replicate, List.length_replicate, l], fun i q h => ?_⟩
  unfold MP.start at h
  by_cases hi : i < rs.length
  · rw [List.getElem?_append_left (by simpa using hi), List.getElem?_map] at h
    cases e : rs[i]? with
    | none => rw [e] at h; cases h
    | some z =>
      rw [e] at h
      cases h
      obtain ⟨v, h1, h2⟩ := r.get e
      refine ⟨v, ?_, h2.toX⟩
      unfold L2.start
      rw [List.getElem?_append_left (by rw [List.length_map, ← l]; exact hi), List.getElem?_map, h1]
      rfl
  · rw [List.getElem?_append_right (by simpa using hi), List.getElem?_replicate] at h
    split at h <;> cases h
structure FDef (K : PySem.W.Frag) (a : FA) (f : Nat) (F : Fn) : Prop where
  fun_ : ∃ x qual params dvs kws, FunD K x qual params F.body.ss F.sc dvs kws (a.adr f) (a.fd f)
  S : FnScope F.N (a.ps f) F.sc
  np : (a.ps f).length = F.np
section
variable {P : Program} {w : World} {K : PySem.W.Frag} {mg : Str → Option Value} {base : Heap} {s : ST} {a : FA} {n f : Nat} {F : Fn}
theorem run_of (hF : s.T.fns[f]? = some F) {vs : List V} {H : Hp} {Q : VK} {E : XK} (h : spF K s.T (n + 1) f vs H Q E) : ∃ w S rs, w.H = H ∧ SR K w S ∧ Rels K w rs vs ∧ rs.length = F.np ∧ Hop K (Rel K) E w Q (sealF F.keep S.length (evSs (s.T.C n) F.body (MP.start F rs) S)) := by
  obtain ⟨w, S, rs, e, sr, rr, hh⟩ := h
  have hh : Hop K (Rel K) E w Q ((match s.T.fns[f]? with
    | some F => runF (s.T.C n) F rs
    | none => M.stuck) S) := hh
  rw [hF] at hh
  have hh : Hop K (Rel K) E w Q (if rs.length = F.np then sealF F.keep S.length (evSs (s.T.C n) F.body (MP.start F rs) S) else .stuck) := hh
  by_cases hl : rs.length = F.np
  · rw [if_pos hl] at hh
    exact ⟨w, S, rs, e, sr, rr, hl, hh⟩
  · rw [if_neg hl] at hh
    exact hh.elim
theorem spF_len (hF : s.T.fns[f]? = some F) (d : FDef K a f F) : ∀ (m : Nat) vs H Q E, spF K s.T m f vs H Q E → vs.length = (a.ps f).length := by
  intro m vs H Q E h
  cases m with
  | zero =>
    obtain ⟨_, _, _, _, _, _, hh⟩ := h
    exact hh.elim
  | succ n =>
    obtain ⟨w, S, rs, e, sr, rr, hl, hh⟩ := run_of hF h
    rw [← rr.length, hl, d.np]
/-- the facts of a def's frame -/
theorem fl_zero (hd : ∀ (f : Nat) (F : Fn), s.T.fns[f]? = some F → FDef K a f F) (hh : ∀ q ∈ s.hots, ∃ F : Fn, s.T.fns[q.1]? = some F) : FL P w K mg base s a 0 where
  calm := fun f F hF => ⟨spF_len hF (hd f F hF) 0, fun A outer st H args us vs Q E _ _ _ _ h => by
    obtain ⟨_, _, _, _, _, _, hh⟩ := h
    exact hh.elim⟩
  hot := fun q hq => by
    obtain ⟨F, hF⟩ := hh q hq
    exact ⟨spF_len hF (hd _ F hF) 0, fun A outer st H args us vs Q E p _ _ _ _ _ _ h => by
      obtain ⟨_, _, _, _, _, _, hh⟩ := h
      exact hh.elim⟩
theorem fl_succ (gf : GF P w K mg base s a) (hd : ∀ (f : Nat) (F : Fn), s.T.fns[f]? = some F → FDef K a f F) (hok : ∀ (f : Nat) (F : Fn), s.T.fns[f]? = some F → okSs s ⟨F.N, F.sc, true⟩ F.body = true)
    (hh : ∀ q ∈ s.hots, ∃ F : Fn, s.T.fns[q.1]? = some F ∧ okSs s ⟨F.N, F.sc, false⟩ F.body = true) (fl : FL P w K mg base s a n) : FL P w K mg base s a (n + 1) where
  calm := fun f F hF => by
    have d := hd f F hF
    obtain ⟨x, qual, params, dvs, kws, FD⟩ := d.fun_
    show FnOk P w K mg base (L2N.CX P w) (3 * n + 3 + 1) (a.adr f) (a.fd f) (a.ps f) (spF K s.T (n + 1) f)
    refine FD.ok d.S (spF_len hF d (n + 1)) fun cdv A outer st H vs Q E room hsp => ?_
    obtain ⟨w0, S, rs, e, sr, rr, hl, hop⟩ := run_of hF hsp
    have X := (XS.mk (s := s) (a := a) (n := n) (Γ := ⟨F.N, F.sc, true⟩) (X := cxOf (L2N.CX P w) P w K mg base F.N qual F.sc (a.adr f) cdv A outer st H E) (xr := xr0) (W := fun cls d _ H => E cls d H)
      { gf := gf, fl := fl, N := rfl, nd := d.S.nd, sc := (fun _ _ h => .inl h), fnc := (fun _ _ => rfl), calm := (fun _ => ⟨rfl, room, rfl⟩), hot := (fun z => Bool.noConfusion z), tk := L2N.takes_of rfl rfl rfl rfl, xok := xr0_ok } rfl d.S.kind (fun _ => PassesOwn.leaving) rfl rfl)
    obtain ⟨t, pt, q⟩ := sSs s a n F.body _ _ _ _ X (hok f F hF)
    refine ⟨t, pt, ?_⟩
    rw [← e]
    exact q _ w0 S (MP.start F rs) _ (start_env rr) sr (sealF_ok sr hop)
  hot := fun q hq => by
    obtain ⟨F, hF, ho⟩ := hh q hq
    have d := hd q.1 F hF
    obtain ⟨x, qual, params, dvs, kws, FD⟩ := d.fun_
    obtain ⟨oc, od, dV, kV, doc, pm, an, cdv, ct, osl, efd, lk, hcd, _, _⟩ := FD.ex
    have ok : L2H.FnH P w K mg base (L2N.CX P w) (3 * n + 3 + 1) (a.adr q.1) (PySem.W.fnOf x qual params F.body.ss F.sc dV kV doc pm an cdv ct) (a.ps q.1) (spF K s.T (n + 1) q.1) := by
      refine L2H.fn_ofH (by rw [← efd]; exact lk) hcd d.S (spF_len hF d (n + 1)) fun A outer st H vs Q E p hot room hsp => ?_
      obtain ⟨w0, S, rs, e, sr, rr, hl, hop⟩ := run_of hF hsp
      have X := (XS.mk (s := s) (a := a) (n := n) (Γ := ⟨F.N, F.sc, false⟩) (X := L2H.cxH (L2N.CX P w) P w K mg base F.N qual F.sc (a.adr q.1) cdv A outer st H E p) (xr := xr0) (W := fun cls d _ H => E cls d H)
        { gf := gf, fl := fl, N := rfl, nd := d.S.nd, sc := (fun _ _ h => .inl h), fnc := (fun _ _ => rfl), calm := (fun z => Bool.noConfusion z), hot := (fun _ => ⟨room, ⟨p, hot, List.mem_cons_self⟩, fun _ _ _ _ _ z => z.elim⟩), tk := L2N.takes_of rfl rfl rfl rfl, xok := xr0_ok } rfl d.S.kind (fun z => Bool.noConfusion z) rfl rfl)
      obtain ⟨t, pt, q'⟩ := sSs s a n F.body _ _ _ _ X ho
      refine ⟨t, pt, ?_⟩
      rw [← e]
      exact q' _ w0 S (MP.start F rs) _ (start_env rr) sr (sealF_ok sr hop)
    rw [efd]
    exact ok
/-- at every level -/
theorem fl_all (gf : GF P w K mg base s a) (hd : ∀ (f : Nat) (F : Fn), s.T.fns[f]? = some F → FDef K a f F) (hok : ∀ (f : Nat) (F : Fn), s.T.fns[f]? = some F → okSs s ⟨F.N, F.sc, true⟩ F.body = true)
    (hh : ∀ q ∈ s.hots, ∃ F : Fn, s.T.fns[q.1]? = some F ∧ okSs s ⟨F.N, F.sc, false⟩ F.body = true) : ∀ n, FL P w K mg base s a n
  | 0 => fl_zero hd fun q hq => let ⟨F, h, _⟩ := hh q hq; ⟨F, h⟩
  | n + 1 => fl_succ gf hd hok hh (fl_all gf hd hok hh n)
end
end MP
set_option Elab.async false
set_option linter.all false
set_option maxRecDepth 100000
set_option maxHeartbeats 4000000
/-! MPHead: the facts that the head hands over. -/
namespace MP
open PySem PySem.Spec PyProof.Rows L2 He
/-- tables: the defs, known answers of isinstance, fields that may be read of an exception, exceptions with fields -/
def mkTab (fns : List Fn) (subs : List ((Str × Str) × Bool)) (xfs : List (Str × Str)) (xcs : List (Str × List (Str × Bool))) (inss : List ((Str × Str) × Bool)) : Tab where
  fns := fns
  sub := fun c' c => subs.lookup (c', c)
  xf := fun c f => decide ((c, f) ∈ xfs)
  xc := fun c => (xcs.lookup c).map fun fs => ⟨fs⟩
  ins := fun n c => inss.lookup (n, c)
def oexB (K : PySem.W.Frag) (C : Addr) : Bool := match K.lookup C with
  | some ⟨.type t, _, .cls cd, sl⟩ => (match cd.mro, sl.toList with
    | .ref C' :: bm, [_, _, _, _, some (.builtin n), _] => decide (t = "type") && (decide (C' = C) && (decide (n = "ValueError.__new__") && (!cd.hasDel && (cd.hasDict && PySem.HandSPX.refsVE bm))))
    | _, _ => false)
  | _ => false
theorem oexB_ok {K : PySem.W.Frag} {C : Addr} (h : oexB K C = true) : ∃ nm q N bs bm sn sub ab col dd k0 k1 k2 k3 k5, K.lookup C = some (excClassObj nm q C N bs bm true sn sub ab col dd k0 k1 k2 k3 k5 "ValueError.__new__") ∧ PySem.HandSPX.refsVE bm = true := by
  unfold oexB at h
  split at h
  · rename_i t dd cd sl ho
    split at h
    · rename_i C' bm k0 k1 k2 k3 n k5 hm hs
      simp only [Bool.and_eq_true, decide_eq_true_eq, Bool.not_eq_true'] at h
      obtain ⟨h1, h2, h3, h4, h5, h6⟩ := h
      subst h1 h2 h3
      obtain ⟨nm, bs, mro, ns, qn, hd, sn, sub, ab, col, del⟩ := cd
      dsimp only at hm h4 h5
      subst hm h4 h5
      have hsl : sl = #[k0, k1, k2, k3, some (.builtin "ValueError.__new__"), k5] := by
        obtain ⟨l⟩ := sl
        simp only at hs
        rw [hs]
      subst hsl
      exact ⟨nm, qn, ns, bs, bm, sn, sub, ab, col, dd, k0, k1, k2, k3, k5, ho, h6⟩
    · cases h
  · cases h
def excCB (K : PySem.W.Frag) (C : Addr) : Bool := decide (PySem.W.findIn K (.ref C) "__getattribute__" = some (some (.builtin "BaseException.__getattribute__"))) && (decide (PySem.W.findIn K (.ref C) "__getattr__" = some none) && (decide (PySem.W.subIn K (.ref C) (.type "BaseException") = some true) && (PySem.W.hasDictIn K C &&
  (decide (PySem.W.findIn K (.ref C) "__class__" = some (some (.builtin "object.__class__"))) && (decide (PySem.W.specialIn K (.builtin "object.__class__") "__get__" = some (some (.builtin "getset_descriptor.__get__"))) && (decide (PySem.W.takesIn K (.builtin "object.__class__") = some true) && decide (PySem.W.mroIn K C (.type "object") = some true)))))))
theorem excCB_ok {K : PySem.W.Frag} {C : Addr} (h : excCB K C = true) : ExcC K C := by
  obtain ⟨h1, h⟩ := ba h
  obtain ⟨h2, h⟩ := ba h
  obtain ⟨h3, h⟩ := ba h
  obtain ⟨h4, h⟩ := ba h
  obtain ⟨h5, h⟩ := ba h
  obtain ⟨h6, h⟩ := ba h
  obtain ⟨h7, h8⟩ := ba h
  exact ⟨of_decide_eq_true h1, of_decide_eq_true h2, of_decide_eq_true h3, h4, of_decide_eq_true h5, of_decide_eq_true h6, of_decide_eq_true h7, of_decide_eq_true h8⟩
def oexAll (K : PySem.W.Frag) (q : Str × List (Str × Bool)) : Bool := (Fa.glo q.1).ok K && (oexB K (ga K q.1) && (decide (PySem.W.findIn K (.ref (ga K q.1)) "__setattr__" = some (some (.builtin "object.__setattr__"))) && (decide (PySem.W.subIn K (.ref (ga K q.1)) (.type "BaseException") = some true) && (decide (PySem.W.typeIn K (.ref (ga K q.1)) = some (.type "type")) && (PySem.W.keepIn K (.ref (ga K q.1)) &&
  (decide (PySem.W.findIn K (.ref (ga K q.1)) "__init__" = some (some (.ref (ma K (ga K q.1) "__init__")))) && (decide (PySem.W.typeIn K (.ref (ma K (ga K q.1) "__init__")) = some (.type "function")) && q.2.all fun f => (Fa.noat q.1 f.1).ok K)))))))
structure OexA (K : PySem.W.Frag) (q : Str × List (Str × Bool)) : Prop where
  glo : (Fa.glo q.1).ok K = true
  C : OexC K (ga K q.1)
  init : PySem.W.findIn K (.ref (ga K q.1)) "__init__" = some (some (.ref (ma K (ga K q.1) "__init__")))
  ty : PySem.W.typeIn K (.ref (ma K (ga K q.1) "__init__")) = some (.type "function")
  no : ∀ f ∈ q.2.map (·.1), PySem.W.findIn K (.ref (ga K q.1)) f = some none
theorem oexAll_ok {K : PySem.W.Frag} {q : Str × List (Str × Bool)} (h : oexAll K q = true) : OexA K q := by
  obtain ⟨h0, h⟩ := ba h
  obtain ⟨h1, h⟩ := ba h
  obtain ⟨h2, h⟩ := ba h
  obtain ⟨h3, h⟩ := ba h
  obtain ⟨h4, h⟩ := ba h
  obtain ⟨h5, h⟩ := ba h
  obtain ⟨h6, h⟩ := ba h
  obtain ⟨h7, h8⟩ := ba h
  exact ⟨h0, ⟨oexB_ok h1, of_decide_eq_true h2, of_decide_eq_true h3, of_decide_eq_true h4, h5⟩, of_decide_eq_true h6, of_decide_eq_true h7, fun f hf => by
    obtain ⟨g, hg, e⟩ := List.mem_map.mp hf
    subst e
    exact eqO_ok (List.all_eq_true.mp h8 g hg)⟩
def insBB (K : PySem.W.Frag) (C : Addr) : Bool := PySem.W.plainGet K C Str.empty && (PySem.W.hasDictIn K C && (PySem.W.plainOver K C && (decide (PySem.W.findIn K (.ref C) "__setattr__" = some (some (.builtin "object.__setattr__"))) && (decide (PySem.W.findIn K (.ref C) "__class__" = some (some (.builtin "object.__class__"))) && (decide (PySem.W.specialIn K (.builtin "object.__class__") "__get__" = some (some (.builtin "getset_descriptor.__get__"))) && (decide (PySem.W.takesIn K (.builtin "object.__class__") = some true) && decide (PySem.W.mroIn K C (.type "object") = some true)))))))
theorem insBB_ok {K : PySem.W.Frag} {C : Addr} (h : insBB K C = true) : InsB K C := by
  obtain ⟨h1, h⟩ := ba h
  obtain ⟨h2, h⟩ := ba h
  obtain ⟨h3, h⟩ := ba h
  obtain ⟨h4, h⟩ := ba h
  obtain ⟨h5, h⟩ := ba h
  obtain ⟨h6, h⟩ := ba h
  obtain ⟨h7, h8⟩ := ba h
  exact ⟨⟨h1, h2, h3, of_decide_eq_true h4⟩, of_decide_eq_true h5, of_decide_eq_true h6, of_decide_eq_true h7, of_decide_eq_true h8⟩
def allT : List BTy := [.int, .bool, .str, .list, .tuple]
def insAll (K : PySem.W.Frag) (q : (Str × Str) × Bool) : Bool := (allT.all fun t => !decide (q.1.1 = t.x) || decide (PySem.W.kitOne K (.type t.nm) (.ref (ga K q.1.2)) = some q.2)) && ((!decide (q.1.1 = "NoneType") || decide (PySem.W.kitOne K (.type "NoneType") (.ref (ga K q.1.2)) = some q.2)) &&
  (decide (q.1.1 ∈ bNames) || (insBB K (ga K q.1.1) && decide (PySem.W.kitOne K (.ref (ga K q.1.1)) (.ref (ga K q.1.2)) = some q.2))))
theorem insAll_ok {K : PySem.W.Frag} {q : (Str × Str) × Bool} (h : insAll K q = true) : InsT K q.1.1 q.1.2 q.2 := by
  obtain ⟨h1, h⟩ := ba h
  obtain ⟨h2, h3⟩ := ba h
  refine ⟨fun t e => ?_, fun e => ?_, fun e => ?_⟩
  · have h4 := List.all_eq_true.mp h1 t (by cases t <;> simp [allT])
    rw [decide_eq_true e, Bool.not_true, Bool.false_or] at h4
    exact of_decide_eq_true h4
  · rw [decide_eq_true e, Bool.not_true, Bool.false_or] at h2
    exact of_decide_eq_true h2
  · rw [decide_eq_false e, Bool.false_or] at h3
    obtain ⟨h4, h5⟩ := ba h3
    exact ⟨insBB_ok h4, of_decide_eq_true h5⟩
/-- the module's _kept, where it is used -/
def keptAllB (K : PySem.W.Frag) (xcs : List (Str × List (Str × Bool))) : Bool := !(xcs.any fun q => q.2.any (·.2)) || ((Fa.glo "_kept").ok K && ((Fa.free "isinstance").ok K && (Fa.free "list").ok K))
/-- all that is asked of the written part -/
def exM (s : ST) (subs : List ((Str × Str) × Bool)) (xfs : List (Str × Str)) (inss : List ((Str × Str) × Bool)) (K : PySem.W.Frag) : Bool :=
  (s.tops.all fun q => (Fa.glo q.2).ok K) && ((s.cls.all fun q => (Fa.glo q.1).ok K && (Fa.mkr q.1).ok K) && ((s.attrs.all fun q => (Fa.cls q.1).ok K && (Fa.noat q.1 q.2).ok K) && ((s.blt.all fun x => (Fa.free x).ok K) && ((s.gis.all fun q => (Fa.int q.1 q.2).ok K) && ((s.exn.all fun x => (Fa.glo x).ok K) &&
  ((s.math.all fun q => eqO (PySem.W.nsIn K mainGlobals q.1) (some (some (.builtin q.2)))) && ((subs.all fun q => excCB K (ga K q.1.1) && (decide (PySem.W.kitOne K (.ref (ga K q.1.1)) (.ref (ga K q.1.2)) = some q.2) && (!q.2 || decide (PySem.W.exmOne K (.ref (ga K q.1.1)) (.ref (ga K q.1.2)) = some true)))) &&
  ((xfs.all fun q => xfB K (ga K q.1) && (Fa.noat q.1 q.2).ok K) && ((s.xcs.all fun q => oexAll K q) && ((s.mets.all fun q => (Fa.cls q.1).ok K && (Fa.meth q.1 q.2.1).ok K) && ((s.ops.all fun c => PySem.W.selfFirst K (ga K c)) && ((inss.all fun q => insAll K q) && keptAllB K s.xcs))))))))))))
/-- what an object leads to, for the looks -/
def valsO (o : Obj) : List Addr := match o.data with
  | .dict es _ => es.toList.flatMap fun e => refV e.val
  | .seq its _ => its.toList.flatMap refV
  | .func fd => refV fd.code ++ (refV fd.defaults ++ (refV fd.kwdefaults ++ fd.closure.map (·.2)))
  | .cls cd => [cd.ns]
  | .cell (some v) => refV v
  | _ => []
def isClsAt (g : Addr → Option Obj) (a : Addr) : Bool := match g a with
  | some ⟨_, _, .cls _, _⟩ => true
  | _ => false
def nxtO (g : Addr → Option Obj) (as : List Addr) : List Addr := as.flatMap fun a => match g a with
  | some o => valsO o
  | none => []
/-- the module's names, classes first, what they lead to -/
def asP (g : Addr → Option Obj) : List Addr :=
  mainGlobals :: (((nxtO g [mainGlobals]).filter (isClsAt g)) ++ (nxtO g ((nxtO g [mainGlobals]).filter (isClsAt g)) ++ (((nxtO g [mainGlobals]).filter fun a => !isClsAt g a) ++ (nxtO g ((nxtO g [mainGlobals]).filter fun a => !isClsAt g a) ++
    (nxtO g (nxtO g ((nxtO g [mainGlobals]).filter (isClsAt g))) ++ (nxtO g (nxtO g (nxtO g ((nxtO g [mainGlobals]).filter (isClsAt g)))) ++ nxtO g (nxtO g ((nxtO g [mainGlobals]).filter fun a => !isClsAt g a))))))))
def obsM (as : (Addr → Option Obj) → List Addr) (ex : PySem.W.Frag → Bool) (fn : List DefD) (g : Addr → Option Obj) : AlD := (ex (frG g (as g)) && (obsD [] fn (frG g (as g))).1, (obsD [] fn (frG g (as g))).2)
theorem obsM_says {as : (Addr → Option Obj) → List Addr} {ex : PySem.W.Frag → Bool} {fn : List DefD} {g : Addr → Option Obj} (e : obsM as ex fn g = valD fn) : ex (frG g (as g)) = true ∧ SaysD [] fn (frG g (as g)) := by
  have e1 : (ex (frG g (as g)) && (obsD [] fn (frG g (as g))).1) = true := congrArg (fun z : AlD => z.1) e
  have e2 : (obsD [] fn (frG g (as g))).2 = fn.map DefD.val := congrArg (fun z : AlD => z.2) e
  obtain ⟨h1, h2⟩ := ba e1
  exact ⟨h1, Prod.ext h2 e2⟩
def hookM (as : (Addr → Option Obj) → List Addr) (ex : PySem.W.Frag → Bool) (fn : List DefD) : PySem.W.Hook where
  α := AlD
  obs := fun s => obsM as ex fn s.heap.get?
  val := fun _ => valD fn
  says := fun _ h => ∃ K : PySem.W.Frag, K.In h ∧ ex K = true ∧ SaysD [] fn K
  of := fun _ _ e => ⟨_, frG_in, obsM_says e⟩
  keeps := fun _ _ _ ⟨K, hK, c⟩ k => ⟨K, PySem.W.Frag.In.keeps hK k, c⟩
theorem obsM_eq {as : (Addr → Option Obj) → List Addr} {ex : PySem.W.Frag → Bool} {fn : List DefD} {g : Addr → Option Obj} {s : Shared} (h : ∀ a, g a = s.heap.get? a) : obsM as ex fn g = (hookM as ex fn).obs s := by
  have e : g = s.heap.get? := funext h
  rw [e] <;> rfl
/-! ### a def of the text and its code as data -/
/-- how its parameters are bound -/
inductive BindRow (F : Fn) (d : DefD) : Prop where
  | plain (h : d.dfl = []) (b : ∀ (kV doc pm : Value) (an : Option Addr) (cdv ct : Value) (us : List Value), us.length = (F.N.take F.np).length → bindArgs (PySem.W.fnOf d.name d.qual d.params d.body d.scope .none kV doc pm an cdv ct) ⟨us, []⟩ = pure ((F.N.take F.np).zip us))
  | dfl (h : d.dfl ≠ []) (b : ∀ (T : Addr) (kV doc pm : Value) (an : Option Addr) (cdv ct : Value) (us its : List Value), us.length = (F.N.take F.np).length → its.length = d.dfl.length →
      ∃ k, bindArgs (PySem.W.fnOf d.name d.qual d.params d.body d.scope (.ref T) kV doc pm an cdv ct) ⟨us, []⟩ = seqItems? (.ref T) >>= k ∧ k (some its.toArray) = pure ((F.N.take F.np).zip us))
structure RowOk (F : Fn) (d : DefD) : Prop where
  body : d.body = F.body.ss
  scope : d.scope = F.sc
  S : FnScope F.N (F.N.take F.np) F.sc
  len : (F.N.take F.np).length = F.np
  bind : (d.kwd = [] ∧ BindRow F d) ∨ (d.kwd ≠ [] ∧ d.dfl = [])
inductive RowsOk : List Fn → List DefD → Prop
  | nil {fn : List DefD} : RowsOk [] fn
  | cons {F : Fn} {d : DefD} {Fs : List Fn} {ds : List DefD} (h : RowOk F d) (r : RowsOk Fs ds) : RowsOk (F :: Fs) (d :: ds)
theorem RowsOk.at {Fs : List Fn} {ds : List DefD} (r : RowsOk Fs ds) : ∀ {i : Nat} {F : Fn}, Fs[i]? = some F → ∃ d, ds[i]? = some d ∧ RowOk F d := by
  induction r with
  | nil => intro i F e; cases e
  | cons h r ih =>
    intro i F e
    cases i with
    | zero => cases e; exact ⟨_, rfl, h⟩
    | succ i => exact ih e
/-- an exception's __init__ -/
structure XRow (q : Str × List (Str × Bool)) (d : DefD) : Prop where
  at_ : d.at_ = (q.1, some ("__init__" : Str))
  dfl : d.dfl = []
  kwd : d.kwd = []
  ne : q.2.map (·.1) ≠ []
  nd : (q.2.map (·.1)).Nodup
  le : (q.2.map (·.1)).length ≤ 900
  body : InitB "self" (q.2.map (·.1)) (kpOf q.2) 0 d.body
  S : FnScope ("self" :: q.2.map (·.1)) ("self" :: q.2.map (·.1)) d.scope
  vis : ∀ x ∈ (("self" : Str) :: q.2.map (·.1)), d.scope.names.lookup x = some .local ∧ (x == ("__debug__" : Str)) = false ∧ (x == ("__classdict__" : Str)) = false
  gk : q.2.any (·.2) = true → d.scope.names.lookup ("_kept" : Str) = some .globalImplicit
  dbg : (q.1 == ("__debug__" : Str)) = false
  bind : ∀ (kV doc pm : Value) (an : Option Addr) (cdv ct : Value) (us : List Value), us.length = (("self" : Str) :: q.2.map (·.1)).length → bindArgs (PySem.W.fnOf d.name d.qual d.params d.body d.scope .none kV doc pm an cdv ct) ⟨us, []⟩ = pure ((("self" : Str) :: q.2.map (·.1)).zip us)
/-- the module's own _kept -/
structure KRow (d : DefD) : Prop where
  at_ : d.at_ = (("_kept" : Str), none)
  dfl : d.dfl = []
  kwd : d.kwd = []
  body : ∃ p1 p2 p3 p4 p5 p6 p7 er, d.body = [.If (.Call (.Name "isinstance" p1) [.Name "value" p2, .Name "list" p3] [] p4) er [] p5, .Return (some (.Name "value" p6)) p7]
  S : FnScope ["value"] ["value"] d.scope
  v0 : d.scope.names.lookup ("value" : Str) = some .local
  gi : d.scope.names.lookup ("isinstance" : Str) = some .globalImplicit
  gl : d.scope.names.lookup ("list" : Str) = some .globalImplicit
  bind : ∀ (kV doc pm : Value) (an : Option Addr) (cdv ct : Value) (us : List Value), us.length = [("value" : Str)].length → bindArgs (PySem.W.fnOf d.name d.qual d.params d.body d.scope .none kV doc pm an cdv ct) ⟨us, []⟩ = pure ([("value" : Str)].zip us)
theorem FunD.nil {K : PySem.W.Frag} {x qual : Str} {params : Arguments} {body : List Stmt} {scope : Scope} {dvs : List V} {kws : List (Str × V)} {f : Addr} {fd : FuncData} (F : FunD K x qual params body scope dvs kws f fd) (h1 : dvs = []) (h2 : kws = []) : FunD K x qual params body scope [] [] f fd := by
  subst h1 h2
  exact F
theorem FunD.nilD {K : PySem.W.Frag} {x qual : Str} {params : Arguments} {body : List Stmt} {scope : Scope} {dvs : List V} {kws : List (Str × V)} {f : Addr} {fd : FuncData} (F : FunD K x qual params body scope dvs kws f fd) (h1 : dvs = []) : FunD K x qual params body scope [] kws f fd := by
  subst h1
  exact F
theorem krow_ok {P : Program} {w : World} {K : PySem.W.Frag} {mg : Str → Option Value} {base : Heap} {d : DefD} {fd : FuncData} (r : KRow d) (F : FunD K d.name d.qual d.params d.body d.scope (d.dvs K) (d.kws K) (fAd K d.at_) fd) (hg : mg "_kept" = some (.ref (ga K "_kept"))) (mi : mg "isinstance" = none) (ml : mg "list" = none) : KeptF P w K mg base := by
  have F' := FunD.nil F (by unfold DefD.dvs; rw [r.dfl]; rfl) (by unfold DefD.kws; rw [r.kwd]; rfl)
  have ea : fAd K d.at_ = ga K "_kept" := by rw [r.at_]; rfl
  rw [ea] at F'
  obtain ⟨p1, p2, p3, p4, p5, p6, p7, er, eb⟩ := r.body
  have b := F'.bindsN (ps := [("value" : Str)]) fun kV doc pm an cdv ct us hl => r.bind kV doc pm an cdv ct us hl
  have F2 := F'
  rw [eb] at F2
  exact ⟨_, fd, hg, F'.kp, kept_fn F2 r.S rfl r.v0 r.gi r.gl mi ml, b⟩
theorem xrow_ok {P : Program} {w : World} {K : PySem.W.Frag} {mg : Str → Option Value} {base : Heap} {q : Str × List (Str × Bool)} {d : DefD} {fd : FuncData} (r : XRow q d) (a : OexA K q) (F : FunD K d.name d.qual d.params d.body d.scope (d.dvs K) (d.kws K) (fAd K d.at_) fd) (hk : q.2.any (·.2) = true → KeptF P w K mg base) :
    FnOk P w K mg base (L2N.CX P w) 2 (ma K (ga K q.1) "__init__") fd (("self" : Str) :: q.2.map (·.1)) (spO (ga K q.1) (q.2.map (·.1)) (kpOf q.2)) ∧ Binds K fd (("self" : Str) :: q.2.map (·.1)) [] := by
  have F' := FunD.nil F (by unfold DefD.dvs; rw [r.dfl]; rfl) (by unfold DefD.kws; rw [r.kwd]; rfl)
  have ea : fAd K d.at_ = ma K (ga K q.1) "__init__" := by rw [r.at_]; rfl
  rw [ea] at F'
  refine ⟨F'.ok r.S (fun vs H Q E h => ?_) (fun cdv A outer s H vs Q E room h => ⟨_, init_all (C := ga K q.1) (fs := q.2.map (·.1)) (kp := kpOf q.2) (s := "self") rfl a.C r.nd r.le (fun x hx => ⟨.inl (r.vis x hx).1, (r.vis x hx).2⟩) a.no (fun i hi => ?_) r.body r.ne, ?_⟩), F'.bindsN fun kV doc pm an cdv ct us hl => r.bind kV doc pm an cdv ct us hl⟩
  · obtain ⟨a', ys, rfl, hl, _⟩ := h
    rw [List.length_cons, List.length_cons, hl]
  · have hany : q.2.any (·.2) = true := by
      unfold kpOf at hi
      cases e : q.2[i]? with
      | none => rw [e] at hi; cases hi
      | some z =>
        rw [e] at hi
        exact List.any_eq_true.mpr ⟨z, List.mem_of_getElem? e, hi⟩
    exact ⟨hk hany, r.gk hany, room, L2N.passes_call (L2N.takes_of rfl rfl rfl rfl) fun _ _ _ _ z => z.elim⟩
  · obtain ⟨a', ys, rfl, hl, _, hki, ha, hq⟩ := h
    refine ⟨a', ys, ?_, hl, hki, ha, fun d' H2 gs h1 h2 h3 h4 h5 h6 => hq d' H2 gs h1 h2 h3 h4 h5 h6⟩
    unfold L2.start
    rw [List.length_cons, List.length_cons, hl, Nat.sub_self]
    show some (V.ref a') :: ys.map some ++ [] = _
    rw [List.append_nil]
end MP
set_option Elab.async false
set_option linter.all false
set_option maxRecDepth 100000
set_option maxHeartbeats 4000000
/-! MPHead2: from the head's facts to the promises of all defs. -/
namespace MP
open PySem PySem.Spec PyProof.Rows L2 He
structure Stat (s : ST) (fns : List Fn) (subs : List ((Str × Str) × Bool)) (xfs : List (Str × Str)) (inss : List ((Str × Str) × Bool)) (fn xfn : List DefD) : Prop where
  T : s.T = mkTab fns subs xfs s.xcs inss
  rows : RowsOk fns fn
  xrows : ∀ (i : Nat) q, s.xcs[i]? = some q → ∃ d, xfn[i]? = some d ∧ XRow q d
  krow : (s.xcs.any fun q => q.2.any (·.2)) = true → ∃ (d : DefD) (i : Nat), (fn ++ xfn)[i]? = some d ∧ KRow d
  mets : ∀ q ∈ s.mets, ∃ d F, fn[q.2.2]? = some d ∧ d.at_ = (q.1, some q.2.1) ∧ fns[q.2.2]? = some F
  props : s.props = []
  dfs : ∀ q ∈ s.dfs, ∃ (d : DefD) (F : Fn) (j : Nat), fn[q.1]? = some d ∧ fns[q.1]? = some F ∧ d.dfl.drop j = q.2.map Dv.int ∧ d.dfl ≠ [] ∧ ∃ n : Nat, n + (d.dfl.length - j) = (F.N.take F.np).length ∧
    ∀ (T : Addr) (kV doc pm : Value) (an : Option Addr) (cdv ct : Value) (us its : List Value), us.length = n → its.length = d.dfl.length →
      ∃ k, bindArgs (PySem.W.fnOf d.name d.qual d.params d.body d.scope (.ref T) kV doc pm an cdv ct) ⟨us, []⟩ = seqItems? (.ref T) >>= k ∧ k (some its.toArray) = pure ((F.N.take F.np).zip (us ++ its.drop j))
  tops : ∀ q ∈ s.tops, ∃ d F, fn[q.1]? = some d ∧ d.at_ = (q.2, none) ∧ fns[q.1]? = some F ∧ (q.2 == ("__debug__" : Str)) = false
  hots : ∀ q ∈ s.hots, q ∈ s.tops
  kwo : ∀ (f : Nat) (d : DefD), fn[f]? = some d → f ∉ s.kwo → d.kwd = []
  kwoN : ∀ f ∈ s.kwo, (∀ q ∈ s.cls, q.2 ≠ f) ∧ (∀ q ∈ s.mets, q.2.2 ≠ f) ∧ (∀ q ∈ s.hots, q.1 ≠ f) ∧ (∀ q ∈ s.dfs, q.1 ≠ f) ∧ f ≠ 0
  cls : ∀ q ∈ s.cls, ∃ d F, fn[q.2]? = some d ∧ d.at_ = (q.1, some ("__init__" : Str)) ∧ fns[q.2]? = some F ∧ (q.1 == ("__debug__" : Str)) = false
  exn : ∀ x ∈ s.exn, (x == ("__debug__" : Str)) = false
  kws : ∀ q ∈ s.kws, ∃ d F, fn[q.1]? = some d ∧ fns[q.1]? = some F ∧ d.dfl = [] ∧ ∀ (kV doc pm : Value) (an : Option Addr) (cdv ct : Value) (us ws zs : List Value), us.length = q.2.1 → ws.length = q.2.2.1.length → (q.2.2.2.mapM fun i => (us ++ ws)[i]?) = some zs →
    bindArgs (PySem.W.fnOf d.name d.qual d.params d.body d.scope .none kV doc pm an cdv ct) ⟨us, q.2.2.1.zip ws⟩ = pure ((F.N.take F.np).zip zs)
  ok : fns.all (fun F => okSs s ⟨F.N, F.sc, true⟩ F.body) = true
  hot : ∀ q ∈ s.hots, ∃ F, fns[q.1]? = some F ∧ okSs s ⟨F.N, F.sc, false⟩ F.body = true
open Classical in
noncomputable def faOf (K : PySem.W.Frag) (fns : List Fn) (fn : List DefD) : FA where
  adr := fun f => match fn[f]? with
    | some d => fAd K d.at_
    | none => 0
  fd := fun f => if h : ∃ fd d, fn[f]? = some d ∧ FunD K d.name d.qual d.params d.body d.scope (d.dvs K) (d.kws K) (fAd K d.at_) fd then h.choose else PySem.W.fnOf "" "" ⟨[], [], none, [], [], none, []⟩ [] ⟨.function, [], false, false, []⟩ .none .none .none .none none .none .none
  ps := fun f => match fns[f]? with
    | some F => F.N.take F.np
    | none => []
theorem lookup_mem {α β : Type} [BEq α] [LawfulBEq α] {k : α} {v : β} : ∀ {l : List (α × β)}, l.lookup k = some v → (k, v) ∈ l
  | [], h => by cases h
  | (a, b) :: l, h => by
    rw [List.lookup_cons] at h
    cases e : k == a with
    | true =>
      rw [e] at h
      cases h
      rw [eq_of_beq e]
      exact List.mem_cons_self
    | false =>
      rw [e] at h
      exact List.mem_cons_of_mem _ (lookup_mem h)
section
variable {s : ST} {fns : List Fn} {subs : List ((Str × Str) × Bool)} {xfs : List (Str × Str)} {inss : List ((Str × Str) × Bool)} {fn xfn : List DefD} {P : Program} {w : World} {K : PySem.W.Frag} {mg : Str → Option Value} {base h : Heap}
theorem fd_at (c : SaysD [] (fn ++ xfn) K) {f : Nat} {d : DefD} (hd : fn[f]? = some d) : FunD K d.name d.qual d.params d.body d.scope (d.dvs K) (d.kws K) ((faOf K fns fn).adr f) ((faOf K fns fn).fd f) := by
  have hl := (List.getElem?_eq_some_iff.mp hd).1
  have hd2 : (fn ++ xfn)[f]? = some d := by rw [List.getElem?_append_left hl]; exact hd
  obtain ⟨fd, F⟩ := c.def_ f hd2
  have hx : ∃ fd d, fn[f]? = some d ∧ FunD K d.name d.qual d.params d.body d.scope (d.dvs K) (d.kws K) (fAd K d.at_) fd := ⟨fd, d, hd, F⟩
  have ea : (faOf K fns fn).adr f = fAd K d.at_ := by
    show (match fn[f]? with
      | some d => fAd K d.at_
      | none => 0) = _
    rw [hd]
  have ef : (faOf K fns fn).fd f = hx.choose := dif_pos hx
  obtain ⟨d2, h1, h2⟩ := hx.choose_spec
  rw [hd] at h1
  cases h1
  rw [ea, ef]
  exact h2
theorem fdef (St : Stat s fns subs xfs inss fn xfn) (c : SaysD [] (fn ++ xfn) K) {f : Nat} {F : Fn} (hF : fns[f]? = some F) : ∃ d, fn[f]? = some d ∧ RowOk F d ∧ FDef K (faOf K fns fn) f F ∧ FunD K d.name d.qual d.params d.body d.scope (d.dvs K) (d.kws K) ((faOf K fns fn).adr f) ((faOf K fns fn).fd f) ∧ (faOf K fns fn).ps f = F.N.take F.np := by
  obtain ⟨d, hd, r⟩ := St.rows.at hF
  have D := fd_at (fns := fns) (xfn := xfn) c hd
  have D' := D
  have ep : (faOf K fns fn).ps f = F.N.take F.np := by
    show (match fns[f]? with
      | some F => F.N.take F.np
      | none => []) = _
    rw [hF]
  refine ⟨d, hd, r, ⟨⟨d.name, d.qual, d.params, d.dvs K, d.kws K, ?_⟩, by rw [ep]; exact r.S, by rw [ep]; exact r.len⟩, D', ep⟩
  have D2 := D'
  rw [r.body, r.scope] at D2
  exact D2
theorem bind_of {F : Fn} {d : DefD} {f : Nat} (r : RowOk F d) (hk : d.kwd = []) (D : FunD K d.name d.qual d.params d.body d.scope (d.dvs K) (d.kws K) ((faOf K fns fn).adr f) ((faOf K fns fn).fd f)) : Binds K ((faOf K fns fn).fd f) (F.N.take F.np) [] := by
  have ek : d.kws K = [] := by unfold DefD.kws; rw [hk]; rfl
  rw [ek] at D
  rcases r.bind with ⟨_, rb⟩ | ⟨z, _⟩
  case inr => exact absurd hk z
  cases rb with
  | plain h b => exact (FunD.nil D (by unfold DefD.dvs; rw [h]; rfl) rfl).bindsN fun kV doc pm an cdv ct us hl => b kV doc pm an cdv ct us hl
  | dfl h b =>
    have l : (d.dvs K).length = d.dfl.length := by unfold DefD.dvs; rw [List.length_map]
    have ne : d.dvs K ≠ [] := fun e => h (List.eq_nil_of_length_eq_zero (by rw [← l, e]; rfl))
    obtain ⟨ds, h1, h2⟩ := D.binds1 (ps := F.N.take F.np) (F.N.take F.np).length (d.dvs K).length ne (by omega) fun T kV doc pm an cdv ct us its hl hi => by
      obtain ⟨k, e1, e2⟩ := b T kV doc pm an cdv ct us its hl (by rw [← l]; exact hi)
      refine ⟨k, e1, ?_⟩
      rw [List.drop_eq_nil_of_le (by omega), List.append_nil]
      exact e2
    rw [List.drop_length] at h1
    cases h1
    exact h2
theorem gf_of (St : Stat s fns subs xfs inss fn xfn) (X : K.In h) (G : h.Ns mainGlobals mg) (ex : exM s subs xfs inss K = true) (c : SaysD [] (fn ++ xfn) K) : GF P w K mg base s (faOf K fns fn) := by
  obtain ⟨x1, ex⟩ := ba ex
  obtain ⟨x2, ex⟩ := ba ex
  obtain ⟨x3, ex⟩ := ba ex
  obtain ⟨x4, ex⟩ := ba ex
  obtain ⟨x5, ex⟩ := ba ex
  obtain ⟨x6, ex⟩ := ba ex
  obtain ⟨x7, ex⟩ := ba ex
  obtain ⟨x8, ex⟩ := ba ex
  obtain ⟨x9, ex⟩ := ba ex
  obtain ⟨x10, ex⟩ := ba ex
  obtain ⟨x11, ex⟩ := ba ex
  obtain ⟨x12, ex⟩ := ba ex
  obtain ⟨x13, x14⟩ := ba ex
  have eT : s.T.fns = fns := by rw [St.T]; rfl
  have bnd : ∀ {f : Nat} {F : Fn}, f ∉ s.kwo → fns[f]? = some F → Binds K ((faOf K fns fn).fd f) ((faOf K fns fn).ps f) [] := fun {f F} hk hF => by
    obtain ⟨d, hd, r, _, D, ep⟩ := fdef St c hF
    rw [ep]
    exact bind_of r (St.kwo f d hd hk) D
  have kept : (s.xcs.any fun q => q.2.any (·.2)) = true → KeptF P w K mg base := fun hk => by
    obtain ⟨d, i, hd, kr⟩ := St.krow hk
    obtain ⟨fd, F⟩ := c.def_ i hd
    unfold keptAllB at x14
    rw [hk, Bool.not_true, Bool.false_or] at x14
    obtain ⟨y1, y2⟩ := ba x14
    obtain ⟨y2, y3⟩ := ba y2
    exact krow_ok kr F (glo_ok X G y1) (free_ok X G y2) (free_ok X G y3)
  refine ⟨fun q hq => ?_, fun q hq => ⟨St.hots q hq, fun z => (St.kwoN _ z).2.2.1 q hq rfl⟩, fun q hq => ?_, fun q hq => ?_, fun x hx => free_ok X G (List.all_eq_true.mp x4 x hx), fun q hq => He.int_ok X G (List.all_eq_true.mp x5 q hq), fun x hx => ⟨glo_ok X G (List.all_eq_true.mp x6 x hx), St.exn x hx⟩, fun q hq => ?_, fun q hq => PySem.W.mg_of X G (eqO_ok (List.all_eq_true.mp x7 q hq)), fun c' c0 b e _ => ?_, fun c' c0 e => ?_, fun c0 f e => ?_, fun q hq => ?_, fun q hq => ?_, fun c0 hc0 => List.all_eq_true.mp x12 c0 hc0, fun q hq => (by rw [St.props] at hq; cases hq), fun q hq => ?_, fun n c0 b e => ?_⟩
  · obtain ⟨d, F, hd, ha, hF, hn⟩ := St.tops q hq
    have D := fd_at (fns := fns) (xfn := xfn) c hd
    have ea : (faOf K fns fn).adr q.1 = ga K q.2 := by
      show (match fn[q.1]? with
        | some d => fAd K d.at_
        | none => 0) = _
      rw [hd]
      show fAd K d.at_ = _
      rw [ha]
      rfl
    refine ⟨?_, D.kp, fun hk => bnd hk hF, hn, F, by rw [eT]; exact hF⟩
    rw [ea]
    exact glo_ok X G (List.all_eq_true.mp x1 q hq)
  · obtain ⟨d, F, hd, ha, hF, hn⟩ := St.cls q hq
    obtain ⟨g1, g2⟩ := ba (List.all_eq_true.mp x2 q hq)
    obtain ⟨m1, g2⟩ := ba g2
    obtain ⟨m2, g2⟩ := ba g2
    obtain ⟨m3, m4⟩ := ba g2
    have ea : (faOf K fns fn).adr q.2 = ma K (ga K q.1) "__init__" := by
      show (match fn[q.2]? with
        | some d => fAd K d.at_
        | none => 0) = _
      rw [hd]
      show fAd K d.at_ = _
      rw [ha]
      rfl
    rw [ea]
    exact ⟨⟨m1, eqO_ok m2, m3, m4⟩, glo_ok X G g1, bnd (fun z => (St.kwoN _ z).1 q hq rfl) hF, hn, F, by rw [eT]; exact hF⟩
  · obtain ⟨g1, g2⟩ := ba (List.all_eq_true.mp x3 q hq)
    obtain ⟨c1, g1⟩ := ba g1
    obtain ⟨c2, g1⟩ := ba g1
    obtain ⟨c3, c4⟩ := ba g1
    exact ⟨⟨c1, c2, c3, eqO_ok c4⟩, eqO_ok g2⟩
  · obtain ⟨d, F, hd, hF, hdf, hb⟩ := St.kws q hq
    obtain ⟨d2, hd2, r, _, D, ep⟩ := fdef St c hF
    rw [hd] at hd2
    cases hd2
    obtain ⟨oc, od, dV, kV, doc, pm, an, cdv, ct, osl, e, lk, hcd, hD, hK⟩ := (FunD.nilD D (by unfold DefD.dvs; rw [hdf]; rfl)).ex
    rcases hD with ⟨_, e0⟩ | ⟨e0, _⟩
    · subst e0
      rw [e, ep]
      exact fun us ws zs l1 l2 e3 => hb kV doc pm an cdv ct us ws zs l1 l2 e3
    · exact absurd rfl e0
  · rw [St.T] at e
    have hm := lookup_mem (show subs.lookup (c', c0) = some b from e)
    obtain ⟨g1, g2⟩ := ba (List.all_eq_true.mp x8 _ hm)
    obtain ⟨g2, _⟩ := ba g2
    exact ⟨excCB_ok g1, of_decide_eq_true g2⟩
  · rw [St.T] at e
    have hm := lookup_mem (show subs.lookup (c', c0) = some true from e)
    obtain ⟨g1, g2⟩ := ba (List.all_eq_true.mp x8 _ hm)
    obtain ⟨_, g2⟩ := ba g2
    exact of_decide_eq_true (by simpa using g2)
  · rw [St.T] at e
    have hm := of_decide_eq_true (show decide ((c0, f) ∈ xfs) = true from e)
    obtain ⟨g1, g2⟩ := ba (List.all_eq_true.mp x9 _ hm)
    exact ⟨xfB_ok g1, eqO_ok g2⟩
  · obtain ⟨i, hi, e⟩ := List.mem_iff_getElem.mp hq
    have e2 : s.xcs[i]? = some q := by rw [List.getElem?_eq_getElem hi, e]
    obtain ⟨d, hd, r⟩ := St.xrows i q e2
    have a := oexAll_ok (List.all_eq_true.mp x10 q hq)
    have hd2 : (fn ++ xfn)[fn.length + i]? = some d := by
      rw [List.getElem?_append_right (Nat.le_add_right _ _), Nat.add_sub_cancel_left]
      exact hd
    obtain ⟨fd, F⟩ := c.def_ (fn.length + i) hd2
    obtain ⟨f1, f2⟩ := xrow_ok (P := P) (w := w) (mg := mg) (base := base) r a F fun hk => kept (List.any_eq_true.mpr ⟨q, hq, hk⟩)
    exact ⟨_, fd, _, a.C, a.init, a.ty, r.ne, r.le, f1, f2, glo_ok X G a.glo, r.dbg⟩
  · obtain ⟨d, F, hd, ha, hF⟩ := St.mets q hq
    obtain ⟨g1, g2⟩ := ba (List.all_eq_true.mp x11 q hq)
    obtain ⟨c1, g1⟩ := ba g1
    obtain ⟨c2, g1⟩ := ba g1
    obtain ⟨c3, c4⟩ := ba g1
    obtain ⟨m1, g2⟩ := ba g2
    obtain ⟨m2, m3⟩ := ba g2
    have ea : (faOf K fns fn).adr q.2.2 = ma K (ga K q.1) q.2.1 := by
      show (match fn[q.2.2]? with
        | some d => fAd K d.at_
        | none => 0) = _
      rw [hd]
      show fAd K d.at_ = _
      rw [ha]
      rfl
    rw [ea]
    exact ⟨⟨c1, c2, c3, eqO_ok c4⟩, ⟨eqO_ok m1, m2, m3⟩, bnd (fun z => (St.kwoN _ z).2.1 q hq rfl) hF, F, by rw [eT]; exact hF⟩
  · obtain ⟨d, F, j, hd, hF, hdr, hne, n, hn, hb⟩ := St.dfs q hq
    obtain ⟨d2, hd2, r, _, D, ep⟩ := fdef St c hF
    rw [hd] at hd2
    cases hd2
    have l : (d.dvs K).length = d.dfl.length := by unfold DefD.dvs; rw [List.length_map]
    have ne : d.dvs K ≠ [] := fun e => hne (List.eq_nil_of_length_eq_zero (by rw [← l, e]; rfl))
    have ek : d.kws K = [] := by unfold DefD.kws; rw [St.kwo q.1 d hd (fun z => (St.kwoN _ z).2.2.2.1 q hq rfl)]; rfl
    rw [ek] at D
    rw [ep]
    obtain ⟨ds, h1, h2⟩ := D.binds1 n j ne (by rw [l]; exact hn) fun T kV doc pm an cdv ct us its hl hi => hb T kV doc pm an cdv ct us its hl (by rw [← l]; exact hi)
    have e2 : (d.dvs K).drop j = q.2.map V.int := by
      unfold DefD.dvs
      rw [← List.map_drop, hdr, List.map_map]
      rfl
    rw [e2] at h1
    exact ⟨ds, h1, h2⟩
  · rw [St.T] at e
    have hm := lookup_mem (show inss.lookup (n, c0) = some b from e)
    exact insAll_ok (List.all_eq_true.mp x13 _ hm)
/-- all defs keep their promises at every level -/
theorem fl_of (St : Stat s fns subs xfs inss fn xfn) (X : K.In h) (G : h.Ns mainGlobals mg) (ex : exM s subs xfs inss K = true) (c : SaysD [] (fn ++ xfn) K) (n : Nat) : FL P w K mg base s (faOf K fns fn) n := by
  have eT : s.T.fns = fns := by rw [St.T]; rfl
  refine fl_all (gf_of St X G ex c) (fun f F hF => ?_) (fun f F hF => ?_) (fun q hq => ?_) n
  · rw [eT] at hF
    obtain ⟨d, _, _, D, _⟩ := fdef St c hF
    exact D
  · rw [eT] at hF
    exact List.all_eq_true.mp St.ok F (List.mem_of_getElem? hF)
  · obtain ⟨F, h1, h2⟩ := St.hot q hq
    exact ⟨F, by rw [eT]; exact h1, h2⟩
/-- the law's promise: the 0-th def, at a list of ints -/
theorem law_of (St : Stat s fns subs xfs inss fn xfn) (X : K.In h) (G : h.Ns mainGlobals mg) (ex : exM s subs xfs inss K = true) (c : SaysD [] (fn ++ xfn) K) {fa : Addr} {F : Fn} (hF : fns[0]? = some F) {x : Str} (hps : F.N.take F.np = [x]) (h0 : (0, ("law" : Str)) ∈ s.tops) (hfa : mg ("law" : Str) = some (.ref fa)) (hdf : ∀ d, fn[0]? = some d → d.dfl = []) (n : Nat) :
    ∃ fd : FuncData, (∀ (st : Shared) (u : Value), BindsTo st fd ⟨[u], []⟩ [(x, u)]) ∧ ∀ base : Heap, FnOk P w K mg base (L2N.CX P w) (3 * n + 1) fa fd [x] (spF K s.T n 0) := by
  obtain ⟨d, hd, r, D, DD, ep⟩ := fdef St c hF
  have g := (gf_of (P := P) (w := w) (base := h) St X G ex c).top _ h0
  have e := hfa.symm.trans g.1
  cases e
  refine ⟨(faOf K fns fn).fd 0, fun st u => ?_, fun base => ?_⟩
  · have hk : d.kwd = [] := St.kwo 0 d hd fun z => (St.kwoN _ z).2.2.2.2 rfl
    rcases r.bind with ⟨_, rb⟩ | ⟨z, _⟩
    case inr => exact absurd hk z
    cases rb with
    | dfl h b => exact absurd (hdf d hd) h
    | plain h b =>
      have DD' := FunD.nil DD (by unfold DefD.dvs; rw [h]; rfl) (by unfold DefD.kws; rw [hk]; rfl)
      have b := FunD.bindsA (ps := [x]) DD' (fun kV doc pm an cdv ct us hl => by
        have q := b kV doc pm an cdv ct us (by rw [hps]; exact hl)
        rw [hps] at q
        exact q) st [u] rfl
      exact b
  · have q := (fl_of (P := P) (w := w) (base := base) St X G ex c n).calm 0 F (by rw [St.T]; exact hF)
    rw [ep, hps] at q
    exact q
/-- a script that the law takes -/
theorem slst_rel {w : Wd} {a : Addr} {ns : List Int} {H : Hp} (hw : w.H = H) (hl : w.n = 0) (hh : w.hid = []) (hz : ns.length ≤ sizeLine) (hS : SqL K H a (ns.map V.int)) : Rel K w (.dat (.slst (ns.map D.int))) (.ref a) := by
  refine ⟨a, ns.map V.int, rfl, ?_, by rw [List.length_map]; exact hz, ?_⟩
  · rcases hS with hS | hS
    · refine .inl ⟨fun z => ?_, by rw [hw]; exact hS⟩
      rcases z with ⟨k, hk, _⟩ | z
      · rw [hl] at hk
        exact absurd hk (Nat.not_lt_zero _)
      · rw [hh] at z
        cases z
    · exact .inr hS
  · clear hS hz
    induction ns with
    | nil => rfl
    | cons i ns ih => exact ⟨.int i, ns.map V.int, rfl, rfl, ih⟩
theorem sp_law {T : Tab} {n : Nat} {H : Hp} {a : Addr} {ns : List Int} {f : Nat} (hz : ns.length ≤ sizeLine) (hS : SqL K H a (ns.map V.int)) (hv : callN T n f [.dat (.slst (ns.map D.int))] [] = .ok (.dat (.bl true)) []) : spF K T n f [.ref a] H (fun v _ => v = .bl true) fun _ _ _ => False := by
  refine ⟨⟨H, 0, fun _ => 0, []⟩, [], [.dat (.slst (ns.map D.int))], rfl, ⟨rfl, (fun i j hi => absurd hi (Nat.not_lt_zero _)), (fun b hb => absurd hb (by simp)), (fun k c e => absurd e (by simp))⟩, ⟨_, _, rfl, slst_rel rfl rfl rfl hz hS, rfl⟩, ?_⟩
  rw [hv]
  intro w' v _ _ r
  exact r
end
end MP
set_option Elab.async false
set_option linter.all false
set_option maxRecDepth 100000
set_option maxHeartbeats 4000000
/-! MPHead3: the static tables by deciding. -/
namespace MP
open PySem PySem.Spec PyProof.Rows L2 He
section
variable {s : ST} {fns : List Fn} {fn : List DefD}
def topsB (tops : List (Nat × Str)) (fns : List Fn) (fn : List DefD) : Bool := tops.all fun q => match fn[q.1]?, fns[q.1]? with
  | some d, some _ => decide (d.at_ = (q.2, none)) && !(q.2 == ("__debug__" : Str))
  | _, _ => false
theorem tops_by (h : topsB s.tops fns fn = true) : ∀ q ∈ s.tops, ∃ d F, fn[q.1]? = some d ∧ d.at_ = (q.2, none) ∧ fns[q.1]? = some F ∧ (q.2 == ("__debug__" : Str)) = false := fun q hq => by
  have h1 := List.all_eq_true.mp h q hq
  cases e : fn[q.1]? with
  | none => simp only [e] at h1; cases h1
  | some d =>
    cases e2 : fns[q.1]? with
    | none => simp only [e, e2] at h1; cases h1
    | some F =>
      simp only [e, e2] at h1
      obtain ⟨h2, h3⟩ := ba h1
      exact ⟨d, F, rfl, of_decide_eq_true h2, rfl, by simpa using h3⟩
def clsB (cls : List (Str × Nat)) (fns : List Fn) (fn : List DefD) : Bool := cls.all fun q => match fn[q.2]?, fns[q.2]? with
  | some d, some _ => decide (d.at_ = (q.1, some ("__init__" : Str))) && !(q.1 == ("__debug__" : Str))
  | _, _ => false
theorem cls_by (h : clsB s.cls fns fn = true) : ∀ q ∈ s.cls, ∃ d F, fn[q.2]? = some d ∧ d.at_ = (q.1, some ("__init__" : Str)) ∧ fns[q.2]? = some F ∧ (q.1 == ("__debug__" : Str)) = false := fun q hq => by
  have h1 := List.all_eq_true.mp h q hq
  cases e : fn[q.2]? with
  | none => simp only [e] at h1; cases h1
  | some d =>
    cases e2 : fns[q.2]? with
    | none => simp only [e, e2] at h1; cases h1
    | some F =>
      simp only [e, e2] at h1
      obtain ⟨h2, h3⟩ := ba h1
      exact ⟨d, F, rfl, of_decide_eq_true h2, rfl, by simpa using h3⟩
theorem exn_by (h : (s.exn.all fun x => !(x == ("__debug__" : Str))) = true) : ∀ x ∈ s.exn, (x == ("__debug__" : Str)) = false := fun x hx => by
  have h1 := List.all_eq_true.mp h x hx
  simpa using h1
theorem hot_by (h : (s.hots.all fun q => match fns[q.1]? with
    | some F => okSs s ⟨F.N, F.sc, false⟩ F.body
    | none => false) = true) : ∀ q ∈ s.hots, ∃ F, fns[q.1]? = some F ∧ okSs s ⟨F.N, F.sc, false⟩ F.body = true := fun q hq => by
  have h1 := List.all_eq_true.mp h q hq
  cases e : fns[q.1]? with
  | none => simp only [e] at h1; cases h1
  | some F => simp only [e] at h1; exact ⟨F, rfl, h1⟩
theorem kwo_by (h : ((List.range fn.length).all fun i => match fn[i]? with
    | some d => d.kwd.isEmpty || decide (i ∈ s.kwo)
    | none => true) = true) : ∀ (f : Nat) (d : DefD), fn[f]? = some d → f ∉ s.kwo → d.kwd = [] := fun f d hd hk => by
  have hl := (List.getElem?_eq_some_iff.mp hd).1
  have h1 := List.all_eq_true.mp h f (List.mem_range.mpr hl)
  rw [hd] at h1
  have h2 : (d.kwd.isEmpty || decide (f ∈ s.kwo)) = true := h1
  rw [decide_eq_false hk, Bool.or_false] at h2
  exact List.isEmpty_iff.mp h2
end
/-- where a keyword-only default stands -/
def kwA (K : PySem.W.Frag) (f : Addr) (n : Str) : Addr := match K.lookup f with
  | some ⟨_, _, .func fd, _⟩ => (match fd.kwdefaults with
    | .ref D => (match PySem.W.nsIn K D n with
      | some (some (.ref T)) => T
      | _ => 0)
    | _ => 0)
  | _ => 0
end MP
set_option Elab.async false
set_option linter.all false
set_option maxRecDepth 1000000
set_option maxHeartbeats 0
/-! MPLaw: a law, from what the evaluation says. -/
namespace MP
open PySem PySem.Spec PyProof.Rows L2
/-- a law's end where what exceptions leave hangs on the world -/
theorem walk_ofM {l : PySem.W.OpenLaw} {n k : Nat} {q : Program} {loose : List Str} {XP : (Str → Option Value) → Heap → Prop} {YP : World → Heap → Prop} {d : DefRec} {x : Str}
    (hn : l.most = some n) (hn2 : n ≤ sizeLine) (hdf : d.params.defaults = []) (hr : Room k callerA)
    (F : ∀ (w : World) (mg : Str → Option Value) (fa : Addr) (h : Heap), YP w h → h.Ns mainGlobals mg → mg d.name = some (.ref fa) →
      ∃ (K : PySem.W.Frag) (fd : FuncData) (sp : Sp), K.In h ∧ (∀ (s : Shared) (u : Value), BindsTo s fd ⟨[u], []⟩ [(x, u)]) ∧
        (∀ (H : Hp) (a : Addr) (ns : List Int), ns.length ≤ n → Only H → SqL K H a (ns.map V.int) → sp [.ref a] H (fun v _ => v = .bl true) fun _ _ _ => False) ∧
        ∀ base : Heap, K.In base → base.Ns mainGlobals mg → FnOk l.prog w K mg base (L2N.CX l.prog w) k fa fd [x] sp) :
    PySem.W.WalkO q loose XP YP l.row.toRowW d [] (fun f vs => PySem.call f vs) := by
  refine Att.attach_call hn hdf fun w s₀ s₁ mg mb fa o pm cd doc a vs ns G Y ho hd hcd hmg hobj hints hlen hg => ?_
  obtain ⟨K, fd, sp, KX, hb, hsp, hF⟩ := F w mg fa _ Y G.T.g hmg
  exact law_call KX G.T.g G.T.b G.T.builtins G.T.nolimit hg hobj hints (Nat.le_trans hlen hn2) hr hF hb (fun H hO hS => hsp H a ns hlen hO hS) fun H e s' ⟨_, _, _, _, _, _, _, _, _, _, _, _, z⟩ => z
end MP
set_option Elab.async false
set_option linter.all false
set_option maxRecDepth 100000
set_option maxHeartbeats 4000000
/-! MPSplit: the top's equation in three declarations (a kernel's memory is freed between them). -/
namespace MP
open PySem PySem.Spec PyProof.Rows L2 He PySem.W PySem.Calls
theorem map_two {α β γ : Type} {o : Option α} {f : α → β} {g : α → γ} {b : β} {c : γ} (h1 : o.map f = some b) (h2 : o.map g = some c) : o.map (fun x => (f x, g x)) = some (b, c) := by
  cases o with
  | none => cases h1
  | some x =>
    have e1 : f x = b := Option.some.inj h1
    have e2 : g x = c := Option.some.inj h2
    show some (f x, g x) = some (b, c)
    rw [e1, e2]
theorem map_to {α β γ : Type} {o : Option α} {f : α → β} {b : β} (k : β → γ) {g : α → γ} (h : o.map f = some b) (e : ∀ x, k (f x) = g x) : o.map g = some (k b) := by
  cases o with
  | none => cases h
  | some x =>
    have e1 : f x = b := Option.some.inj h
    show some (g x) = some (k b)
    rw [← e x, e1]
/-- what the run's looks say -/
def LookEq (r : OpenRow) (q : Program) (M : Nat) (loose : List PySem.Str) (w : World) : Prop :=
  (HandSHeadRun.wholeF (fun p => HandSHeadRun.stepQ (HandSHeadRun.denQ HandSHeadRun.tabQ) p w) HandSHeadRun.fenceQ M r.prog).map (fun x => (HandSHeadRun.looksF r.prog x.1.heap x.2.abs, HandSHeadRun.seenQ q loose (importedModules r.prog.main.body) (fun s => xlAt q [] s && recOk r.toRowW.records s) x.2.abs)) = some (true, openGood q loose)
/-- what of the heap is asked -/
def ObEq (r : OpenRow) {α : Type} (f : SharedT → α) (M : Nat) (v : α) (w : World) : Prop :=
  (HandSHeadRun.wholeF (fun p => HandSHeadRun.stepQ (HandSHeadRun.denQ HandSHeadRun.tabQ) p w) HandSHeadRun.fenceQ M r.prog).map (fun x => f x.2) = some v
theorem runI_of {r : OpenRow} {q : Program} {as : (Addr → Option Obj) → List Addr} {ex : PySem.W.Frag → Bool} {defs : List DefD} {M : Nat} {loose : List PySem.Str} {w : World}
    (h1 : LookEq r q M loose w)
    (h2 : ObEq r (fun s => ex (frG (HandSHeadRun.getT s) (as (HandSHeadRun.getT s)))) M true w)
    (h3 : ObEq r (fun s => obsD [] defs (frG (HandSHeadRun.getT s) (as (HandSHeadRun.getT s)))) M (valD defs) w) :
    HandSHeadRun.RunEqI r q (hookM as ex defs) (fun s => obsM as ex defs (HandSHeadRun.getT s)) M loose w := by
  unfold LookEq at h1
  unfold ObEq at h2 h3
  have h4 := map_two h1 (map_two h2 h3)
  have h5 := map_to (fun z => (z.1.1, z.1.2, ((z.2.1 && z.2.2.1, z.2.2.2) : AlD))) h4 (g := fun x => (HandSHeadRun.looksF r.prog x.1.heap x.2.abs, HandSHeadRun.seenQ q loose (importedModules r.prog.main.body) (fun s => xlAt q [] s && recOk r.toRowW.records s) x.2.abs, obsM as ex defs (HandSHeadRun.getT x.2))) (fun x => rfl)
  unfold HandSHeadRun.RunEqI
  exact h5
end MP
set_option Elab.async false
set_option linter.all false
set_option maxRecDepth 100000
set_option maxHeartbeats 4000000
/-! MPRun: how the evaluation runs on data. -/
namespace MP
open PySem PySem.Spec PyProof.Rows L2
/-- a store whose cells name cells of it alone -/
def WF (S : Store) : Prop := S.all (Cell.below S.length) = true
theorem wf_nil : WF [] := rfl
theorem seal_dat {S : Store} {ρ : Env} {d : D} (h : WF S) : sealS S.length (.go (.ret (.dat d)) ρ S) = .ok (.dat d) S := by
  show sealR S.length (.dat d) S = _
  unfold sealR
  rw [List.take_length, if_pos ⟨h, Nat.le_refl _⟩]
theorem seal_next {S : Store} {ρ : Env} (h : WF S) : sealS S.length (.go .next ρ S) = .ok (.dat .non) S := by
  show sealR S.length (.dat .non) S = _
  unfold sealR
  rw [List.take_length, if_pos ⟨h, Nat.le_refl _⟩]
theorem seal_exc {S : Store} {ρ : Env} {c : Str} {ns : List Str} {l : List D} (h : WF S) : sealS S.length (.exc c ns l ρ S) = .exc c ns l S := by
  show (if (S.take S.length).all (Cell.below S.length) = true ∧ S.length ≤ S.length then _ else _) = _
  rw [List.take_length, if_pos ⟨h, Nat.le_refl _⟩]
/-- behind a call the new cells are given up: the store S0, as many cells as ahead -/
theorem seal_cut {S S0 E : Store} {ρ : Env} {d : D} (hl : S0.length = S.length) (h : WF S0) : sealS S.length (.go (.ret (.dat d)) ρ (S0 ++ E)) = .ok (.dat d) S0 := by
  show sealR S.length (.dat d) (S0 ++ E) = _
  unfold sealR
  rw [← hl, List.take_left, if_pos ⟨h, by rw [List.length_append]; omega⟩]
theorem seal_own {S S0 E : Store} {ρ : Env} {k : Nat} {d : D} (hl : S0.length = S.length) (h : WF S0) (hk : S.length ≤ k) (hd : toD S.length (S0 ++ E) 8 (.own k) = some d) : sealS S.length (.go (.ret (.own k)) ρ (S0 ++ E)) = .ok (.dat d) S0 := by
  show sealR S.length (.own k) (S0 ++ E) = _
  unfold sealR
  rw [show (S0 ++ E).take S.length = S0 by rw [← hl, List.take_left], if_pos ⟨by rw [← hl]; exact h, by rw [List.length_append]; omega⟩]
  show (if k < S.length then _ else _) = _
  rw [if_neg (Nat.not_lt.mpr hk)]
  simp only [hd]
theorem run_call {T : Tab} {n i : Nat} {F : Fn} {rs : List R} {S : Store} {r : SRes} {q : Res R} (hF : T.fns[i]? = some F) (hl : rs.length = F.np) (hb : evSs (T.C n) F.body (MP.start F rs) S = r) (hs : sealS S.length r = q) (hk : F.keep = false := by rfl) : callN T (n + 1) i rs S = q := by
  show (match T.fns[i]? with
    | some F => runF (T.C n) F rs
    | none => M.stuck) S = q
  rw [hF]
  show (if rs.length = F.np then sealF F.keep S.length (evSs (T.C n) F.body (MP.start F rs) S) else .stuck) = q
  rw [if_pos hl, hb, hk]
  exact hs
/-- a call whose cells are kept -/
theorem run_k {T : Tab} {n i : Nat} {F : Fn} {rs : List R} {S : Store} (Q : Res R → Prop) (hF : T.fns[i]? = some F) (hl : rs.length = F.np) (hb : Q (openS (evSs (T.C n) F.body (MP.start F rs) S))) (hk : F.keep = true := by rfl) : Q (callN T (n + 1) i rs S) := by
  show Q ((match T.fns[i]? with
    | some F => runF (T.C n) F rs
    | none => M.stuck) S)
  rw [hF]
  show Q (if rs.length = F.np then sealF F.keep S.length (evSs (T.C n) F.body (MP.start F rs) S) else .stuck)
  rw [if_pos hl, hk]
  exact hb
theorem datsR_map : ∀ ds : List D, datsR (ds.map R.dat) = some ds
  | [] => rfl
  | d :: ds => by
    show (datsR (ds.map .dat)).map (d :: ·) = _
    rw [datsR_map ds]
    rfl
theorem intsR_map : ∀ ns : List Int, intsR (ns.map fun i => R.dat (.int i)) = some ns
  | [] => rfl
  | i :: ns => by
    show (intsR (ns.map fun i => R.dat (.int i))).map (i :: ·) = _
    rw [intsR_map ns]
    rfl
/-- it returns data, the store as given -/
def RetOk (d : D) (S : Store) (x : SRes) : Prop := ∃ ρ, x = .go (.ret (.dat d)) ρ S
theorem run_ret {T : Tab} {n i : Nat} {F : Fn} {rs : List R} {S : Store} {d : D} (hF : T.fns[i]? = some F) (hl : rs.length = F.np) (hw : WF S) (hb : RetOk d S (evSs (T.C n) F.body (MP.start F rs) S)) (hk : F.keep = false := by rfl) : callN T (n + 1) i rs S = .ok (.dat d) S := by
  obtain ⟨ρ, e⟩ := hb
  exact run_call hF hl e (seal_dat hw) hk
/-! ### items -/
theorem ix_nat {l : List D} {k : Nat} {d : D} {S : Store} (h : l[k]? = some d) : ixR (.dat (.lst l)) (.dat (.int (k : Int))) S = .ok (.dat d) S := by
  have hk : k < l.length := (List.getElem?_eq_some_iff.mp h).1
  have e : atI (l.map R.dat) (k : Int) = some (.dat d) := by
    unfold atI
    have e1 : ixN (l.map R.dat).length (k : Int) = some k := by
      unfold ixN
      rw [List.length_map]
      simp
      omega
    rw [e1]
    show (l.map R.dat)[k]? = _
    rw [List.getElem?_map, h]
    rfl
  show (match atR (l.map R.dat) (k : Int) with
    | some r => Res.ok r S
    | none => .stuck) = _
  unfold atR
  rw [e]
theorem sum_dat {m : Bool} {ns : List Int} {S : Store} : biR m .sum [.dat (.lst (ns.map D.int))] S = .ok (.dat (.int ns.sum)) S := by
  show (match (some ((ns.map D.int).map R.dat)).bind intsR with
    | some xs => Res.ok (R.dat (.int xs.sum)) S
    | none => .stuck) = _
  rw [List.map_map]
  have e : (ns.map (R.dat ∘ D.int)) = ns.map fun i => R.dat (.int i) := rfl
  rw [e, Option.bind_some, intsR_map]
theorem len_dat {m : Bool} {l : List D} {S : Store} : biR m .len [.dat (.lst l)] S = .ok (.dat (.int l.length)) S := by
  show Res.ok (R.dat (.int ((l.map R.dat).length : Nat))) S = _
  rw [List.length_map]
/-! ### one statement after the other -/
theorem ss_next {C : CallsX} {s : IS} {r : ISs} {ρ ρ1 : Env} {S S1 : Store} (h : evS C s ρ S = .go .next ρ1 S1) : evSs C (.cons s r) ρ S = evSs C r ρ1 S1 := by
  show (match evS C s ρ S with
    | .go .next ρ1 S1 => evSs C r ρ1 S1
    | x => x) = _
  rw [h]
theorem ss_ret {C : CallsX} {s : IS} {r : ISs} {ρ ρ1 : Env} {S S1 : Store} {v : R} (h : evS C s ρ S = .go (.ret v) ρ1 S1) : evSs C (.cons s r) ρ S = .go (.ret v) ρ1 S1 := by
  show (match evS C s ρ S with
    | .go .next ρ1 S1 => evSs C r ρ1 S1
    | x => x) = _
  rw [h]
theorem ss_exc {C : CallsX} {s : IS} {r : ISs} {ρ ρ1 : Env} {S S1 : Store} {c : Str} {ns : List Str} {l : List D} (h : evS C s ρ S = .exc c ns l ρ1 S1) : evSs C (.cons s r) ρ S = .exc c ns l ρ1 S1 := by
  show (match evS C s ρ S with
    | .go .next ρ1 S1 => evSs C r ρ1 S1
    | x => x) = _
  rw [h]
section
variable {C : CallsX} {ρ : Env} {S S1 : Store} {p : Pos}
theorem r_ret {e : IE} {r : R} (h : evE C.toCalls e ρ S = .ok r S1) : evS C (.ret e p) ρ S = .go (.ret r) ρ S1 := by
  show SRes.of ρ (evE C.toCalls e ρ S) _ = _
  rw [h]
  rfl
theorem r_asg {i : Nat} {x : Str} {px : Pos} {e : IE} {r : R} (h : evE C.toCalls e ρ S = .ok r S1) : evS C (.asg (.one i x px) e p) ρ S = .go .next (ρ.set i (some r)) S1 := by
  show SRes.of ρ (evE C.toCalls e ρ S) _ = _
  rw [h]
  rfl
theorem r_expr {e : IE} {r : R} (h : evE C.toCalls e ρ S = .ok r S1) : evS C (.expr e p) ρ S = .go .next ρ S1 := by
  show SRes.of ρ (evE C.toCalls e ρ S) _ = _
  rw [h]
  rfl
theorem r_if {c : IE} {a b : ISs} {t : Bool} (h : evE C.toCalls c ρ S = .ok (.dat (.bl t)) S1) : evS C (.ite c a b p) ρ S = if t = true then evSs C a ρ S1 else evSs C b ρ S1 := by
  show SRes.of ρ (M.bind (evE C.toCalls c ρ) truB S) _ = _
  rw [bind_at h]
  rfl
theorem r_setAt {o e : IE} {c f : Str} {ps : Pos} {k : Nat} {ns : List Str} {rs : List R} {r : R} {S2 : Store} (h1 : evE C.toCalls e ρ S = .ok r S1) (h2 : evE C.toCalls o ρ S1 = .ok (.own k) S2) (hk : S2[k]? = some (.obj c ns rs)) (hl : ns.length < 900) :
    evS C (.setAt o c f e ps p) ρ S = .go .next ρ (S2.set k (.obj c (putN f r ns rs).1 (putN f r ns rs).2)) := by
  show SRes.of ρ (M.bind (evE C.toCalls e ρ) (fun v => M.bind (evE C.toCalls o ρ) fun x => setAtR x c f v) S) _ = _
  rw [bind_at h1, bind_at h2]
  unfold setAtR
  simp only [hk]
  rw [if_pos (show True ∧ ns.length < 900 from ⟨trivial, hl⟩)]
  rfl
theorem r_for {t : IT} {it : II} {b : ISs} {xs : List Itm} {g : Gd} (h : evII C.toCalls it ρ S = .ok (xs, g) S1) : evS C (.for_ t it b p) ρ S = forL t g (fun ρ' S' => evSs C b ρ' S') xs ρ S1 := by
  show SRes.of ρ (evII C.toCalls it ρ S) _ = _
  rw [h]
  rfl
end
/-! the same, told of a wish P about the end -/
section
variable {C : CallsX} {ρ ρ1 : Env} {S S1 : Store} {P : SRes → Prop} {r : ISs} {p : Pos}
theorem p_next {s : IS} (h : evS C s ρ S = .go .next ρ1 S1) (k : P (evSs C r ρ1 S1)) : P (evSs C (.cons s r) ρ S) := by
  rw [ss_next h]
  exact k
theorem p_asg {i : Nat} {x : Str} {px : Pos} {e : IE} (v : R) (h : evE C.toCalls e ρ S = .ok v S1) (k : P (evSs C r (ρ.set i (some v)) S1)) : P (evSs C (.cons (.asg (.one i x px) e p) r) ρ S) := p_next (r_asg h) k
theorem p_ret {e : IE} {d : D} (h : evE C.toCalls e ρ S = .ok (.dat d) S) : RetOk d S (evSs C (.cons (.ret e p) r) ρ S) := ⟨ρ, ss_ret (r_ret h)⟩
theorem p_if {c : IE} {a b : ISs} {t : Bool} (h : evE C.toCalls c ρ S = .ok (.dat (.bl t)) S1) (k : P (match (if t = true then evSs C a ρ S1 else evSs C b ρ S1) with
    | .go .next ρ1 S1 => evSs C r ρ1 S1
    | x => x)) : P (evSs C (.cons (.ite c a b p) r) ρ S) := by
  show P (match evS C (.ite c a b p) ρ S with
    | .go .next ρ1 S1 => evSs C r ρ1 S1
    | x => x)
  rw [r_if h]
  exact k
end
/-! ### loops on data -/
theorem gd_nil {S : Store} : gdOk S [] = true := gd_iff.mpr fun q hq => by cases hq
/-- a for whose body keeps P, turn by turn -/
theorem for_ind {t : IT} {g : Gd} {b : Env → Store → SRes} (Pv : Nat → Env → Store → Prop) : ∀ (xs : List Itm) (k : Nat) (ρ : Env) (S : Store), Pv k ρ S → (∀ i ρ S, Pv i ρ S → gdOk S g = true) →
    (∀ i x ρ S, xs[i]? = some x → Pv (k + i) ρ S → ∃ ρ1, bindT t x ρ S = some ρ1 ∧ ∃ ρ2 S2, b ρ1 S = .go .next ρ2 S2 ∧ Pv (k + i + 1) ρ2 S2) → ∃ ρ' S', forL t g b xs ρ S = .go .next ρ' S' ∧ Pv (k + xs.length) ρ' S'
  | [], k, ρ, S, h0, hg, _ => ⟨ρ, S, by
      show (if gdOk S g = true then _ else _) = _
      rw [if_pos (hg _ _ _ h0)], h0⟩
  | x :: xs, k, ρ, S, h0, hg, hs => by
    obtain ⟨ρ1, h1, ρ2, S2, h2, h3⟩ := hs 0 x ρ S rfl h0
    obtain ⟨ρ', S', h4, h5⟩ := for_ind Pv xs (k + 1) ρ2 S2 h3 hg fun i y ρ S hy hp => by
      have e : k + 1 + i = k + (i + 1) := by omega
      rw [e] at hp ⊢
      exact hs (i + 1) y ρ S hy hp
    refine ⟨ρ', S', ?_, by rw [List.length_cons, show k + (xs.length + 1) = k + 1 + xs.length by omega]; exact h5⟩
    unfold forL
    rw [if_pos (hg _ _ _ h0)]
    simp only [h1, h2]
    exact h4
theorem loop_map {t : IT} {g : Gd} {c : Env → M Bool} {el : Env → M (List R)} {ρ0 : Env} {S : Store} {G : Itm → List R} (hg : gdOk S g = true) : ∀ {xs : List Itm}, (∀ x ∈ xs, ∃ ρ', bindT t x ρ0 S = some ρ' ∧ c ρ' S = .ok true S ∧ el ρ' S = .ok (G x) S) →
    lcLoop g (lcTurn t g c el ρ0) xs S = .ok (xs.flatMap G) S
  | [], _ => by
    show (if gdOk S g = true then _ else _) = _
    rw [if_pos hg]
    rfl
  | x :: xs, h => by
    obtain ⟨ρ', h1, h2, h3⟩ := h x List.mem_cons_self
    have e1 : lcTurn t g c el ρ0 x S = .ok (G x) S := by
      unfold lcTurn
      rw [if_pos hg]
      simp only [h1]
      unfold M.noX
      rw [bind_at h2]
      simp only [if_pos, h3]
    show M.bind (lcTurn t g c el ρ0 x) (fun a => M.bind (lcLoop g (lcTurn t g c el ρ0) xs) fun b => M.pure (a ++ b)) S = _
    rw [bind_at e1, bind_at (loop_map hg fun y hy => h y (List.mem_cons_of_mem _ hy))]
    rfl
theorem lc_dat {C : Calls} {e : IE} {t : IT} {it : II} {own : List (Str × Nat)} {sc : Scope} {p : Pos} {ρ : Env} {S : Store} {xs : List Itm} {g : Gd} {G : Itm → D} (hi : evII C it ρ S = .ok (xs, g) S) (hg : gdOk S g = true)
    (hx : ∀ x ∈ xs, ∃ ρ', bindT t x (wipeE ρ (own.map (·.2))) S = some ρ' ∧ evE C e ρ' S = .ok (.dat (G x)) S) (hl : xs.length ≤ 1000000) : evE C (.lc false e t it .nil own sc p) ρ S = .ok (.dat (.lst (xs.map G))) S := by
  show M.bind (evII C it ρ) (fun q => M.bind (lcLoop q.2 (lcTurn t q.2 (fun ρ' => evTs C .nil ρ') (fun ρ' => M.bind (evE C e ρ') fun r => M.pure [r]) (wipeE ρ (own.map (·.2)))) q.1) (lcOut false)) S = _
  rw [bind_at hi, bind_at (loop_map (G := fun x => [.dat (G x)]) hg fun x hm => by
    obtain ⟨ρ', h1, h2⟩ := hx x hm
    exact ⟨ρ', h1, rfl, by rw [bind_at h2]; rfl⟩)]
  have e1 : (xs.flatMap fun x => [R.dat (G x)]) = (xs.map G).map R.dat := by
    rw [List.map_map]
    have e : ∀ l : List Itm, (l.flatMap fun x => [R.dat (G x)]) = l.map (R.dat ∘ G) := fun l => by
      induction l with
      | nil => rfl
      | cons y l ih => rw [List.flatMap_cons, ih]; rfl
    exact e xs
  rw [e1]
  unfold lcOut
  rw [if_pos (show small ((xs.map G).map R.dat).length = true by rw [List.length_map, List.length_map]; exact decide_eq_true hl)]
  unfold mkL
  rw [datsR_map]
theorem rng_eq : ∀ (n : Nat) (lo : Int), rngI lo n = (List.range n).map fun (k : Nat) => Itm.one (.dat (.int (lo + (k : Int))))
  | 0, _ => rfl
  | n + 1, lo => by
    rw [List.range_succ_eq_map, List.map_cons, List.map_map]
    show Itm.one (.dat (.int lo)) :: rngI (lo + 1) n = _
    rw [rng_eq n (lo + 1)]
    congr 1
    · simp
    · refine List.map_congr_left fun k _ => ?_
      have e : lo + 1 + (k : Int) = lo + ((k + 1 : Nat) : Int) := by omega
      rw [e]
      rfl
section
variable {C : Calls} {e : IE} {i : Nat} {x : Str} {px : Pos} {it : II} {own : List (Str × Nat)} {sc : Scope} {p : Pos} {ρ : Env} {S : Store}
/-- a comprehension over a range -/
theorem lc_rng {lo : Int} {n : Nat} {g : Nat → D} (hi : evII C it ρ S = .ok (rngI lo n, []) S) (hx : ∀ k : Nat, k < n → evE C e ((wipeE ρ (own.map (·.2))).set i (some (.dat (.int (lo + (k : Int)))))) S = .ok (.dat (g k)) S) (hl : n ≤ 1000000) :
    evE C (.lc false e (.one i x px) it .nil own sc p) ρ S = .ok (.dat (.lst ((List.range n).map g))) S := by
  have q := lc_dat (t := .one i x px) (e := e) (own := own) (sc := sc) (p := p) (G := fun y => match y with
    | .one (.dat (.int j)) => g (j - lo).toNat
    | _ => .non) hi gd_nil (fun y hy => by
      rw [rng_eq] at hy
      obtain ⟨k, hk, ey⟩ := List.mem_map.mp hy
      subst ey
      refine ⟨_, rfl, ?_⟩
      rw [hx k (List.mem_range.mp hk)]
      have e2 : (lo + (k : Int) - lo).toNat = k := by omega
      simp only [e2]) (by rw [rng_len]; exact hl)
  rw [q, rng_eq, List.map_map]
  congr 4
  refine funext fun k => ?_
  show g (lo + (k : Int) - lo).toNat = g k
  have e2 : (lo + (k : Int) - lo).toNat = k := by omega
  rw [e2]
/-- over a list that is data -/
theorem lc_lst {l : List D} {gd : Gd} {g : D → D} (hi : evII C it ρ S = .ok ((l.map R.dat).map .one, gd) S) (hg : gdOk S gd = true) (hx : ∀ d ∈ l, evE C e ((wipeE ρ (own.map (·.2))).set i (some (.dat d))) S = .ok (.dat (g d)) S) (hl : l.length ≤ 1000000) :
    evE C (.lc false e (.one i x px) it .nil own sc p) ρ S = .ok (.dat (.lst (l.map g))) S := by
  have q := lc_dat (t := .one i x px) (e := e) (own := own) (sc := sc) (p := p) (G := fun y => match y with
    | .one (.dat d) => g d
    | _ => .non) hi hg (fun y hy => by
      rw [List.map_map] at hy
      obtain ⟨d, hd, ey⟩ := List.mem_map.mp hy
      subst ey
      exact ⟨_, rfl, hx d hd⟩) (by rw [List.length_map, List.length_map]; exact hl)
  rw [q, List.map_map, List.map_map]
  rfl
theorem ii_of {a : IE} {l : List D} (h : evE C a ρ S = .ok (.dat (.lst l)) S) : evII C (.of a) ρ S = .ok ((l.map R.dat).map .one, []) S := by
  show M.bind (evE C a ρ) _ S = _
  rw [bind_at h]
  rfl
theorem ii_tup {a : IE} {l : List D} (h : evE C a ρ S = .ok (.dat (.tup l)) S) : evII C (.of a) ρ S = .ok ((l.map R.dat).map .one, []) S := by
  show M.bind (evE C a ρ) _ S = _
  rw [bind_at h]
  rfl
theorem ii_rng1 {a : IE} {p0 p : Pos} {n : Nat} (h : evE C a ρ S = .ok (.dat (.int (n : Int))) S) (hn : n ≤ 1000000) : evII C (.rng1 a p0 p) ρ S = .ok (rngI 0 n, []) S := by
  show M.bind (evE C a ρ) _ S = _
  rw [bind_at h]
  show (if rngOk (n : Int) = true then M.pure (rngI 0 (n : Int).toNat, ([] : Gd)) else M.stuck) S = _
  have e : rngOk (n : Int) = true := decide_eq_true ⟨by omega, by omega⟩
  rw [if_pos e, Int.toNat_natCast]
  rfl
end
/-- the size of a number in bits -/
def Sm (k : Nat) (x : Int) : Prop := x.natAbs < 2 ^ k
theorem Sm.log {k : Nat} {x : Int} (h : Sm k x) : x.natAbs.log2 ≤ k := by
  by_cases z : x.natAbs = 0
  · rw [z]
    exact Nat.zero_le _
  · exact Nat.le_of_lt ((Nat.log2_lt z).mpr h)
theorem Sm.mul {a b : Nat} {x y : Int} (hx : Sm a x) (hy : Sm b y) : Sm (a + b) (x * y) := by
  unfold Sm at *
  rw [Int.natAbs_mul, Nat.pow_add]
  exact Nat.mul_lt_mul'' hx hy
theorem Sm.mono {a b : Nat} {x : Int} (h : Sm a x) (l : a ≤ b) : Sm b x := Nat.lt_of_lt_of_le h (Nat.pow_le_pow_right (by decide) l)
theorem mulOk_of {a b : Nat} {x y : Int} (hx : Sm a x) (hy : Sm b y) (h : a + b ≤ 999999) : mulOk x y = true := decide_eq_true (by
  have := hx.log
  have := hy.log
  omega)
theorem R.below_mono {m m' : Nat} (h : m ≤ m') : ∀ {r : R}, R.below m r = true → R.below m' r = true
  | .dat _, _ => rfl
  | .own k, b => decide_eq_true (Nat.lt_of_lt_of_le (of_decide_eq_true b) h)
  | .exc _ _ _, b => by cases b
theorem Cell.below_mono {m m' : Nat} (h : m ≤ m') {c : Cell} (b : c.below m = true) : c.below m' = true := by
  cases c with
  | lst rs => exact List.all_eq_true.mpr fun r hr => R.below_mono h (List.all_eq_true.mp b r hr)
  | tup rs => exact List.all_eq_true.mpr fun r hr => R.below_mono h (List.all_eq_true.mp b r hr)
  | obj c ns rs => exact List.all_eq_true.mpr fun r hr => R.below_mono h (List.all_eq_true.mp b r hr)
theorem wf_push {S : Store} {c : Cell} (h : WF S) (b : c.below (S.length + 1) = true) : WF (S ++ [c]) := by
  refine List.all_eq_true.mpr fun x hx => ?_
  rw [List.length_append]
  rcases List.mem_append.mp hx with hx | hx
  · exact Cell.below_mono (Nat.le_add_right _ _) (List.all_eq_true.mp h x hx)
  · rw [List.mem_singleton.mp hx]
    exact b
theorem below_dats {m : Nat} (ds : List D) : (Cell.lst (ds.map R.dat)).below m = true := List.all_eq_true.mpr fun r hr => by
  obtain ⟨d, _, e⟩ := List.mem_map.mp hr
  rw [← e]
  rfl
theorem ix_own {rs : List R} {k t : Nat} {r : R} {S : Store} (hk : S[k]? = some (.lst rs)) (h : rs[t]? = some r) : ixR (.own k) (.dat (.int (t : Int))) S = .ok r S := by
  have ht : t < rs.length := (List.getElem?_eq_some_iff.mp h).1
  have e : atI rs (t : Int) = some r := by
    unfold atI
    have e1 : ixN rs.length (t : Int) = some t := by
      unfold ixN
      simp
      omega
    rw [e1]
    exact h
  have ei : itemsR S (.own k) = some rs := by
    unfold itemsR
    simp only [hk]
  unfold ixR
  rw [ei]
  show (match atR rs (t : Int) with
    | some r => Res.ok r S
    | none => .stuck) = _
  unfold atR
  rw [e]
/-- o.append(x): o a list that stands in a cell -/
theorem app_own {C : Calls} {o e : IE} {p1 p : Pos} {ρ : Env} {S S1 : Store} {k : Nat} {rs : List R} {r : R} (ho : evE C o ρ S = .ok (.own k) S) (hk : S[k]? = some (.lst rs)) (he : evE C e ρ S = .ok r S1) (hk1 : S1[k]? = some (.lst rs)) (hz : rs.length ≤ 1000000) :
    evE C (.lmeth o .append (.cons e .nil) p1 p) ρ S = .ok (.dat .non) (S1.set k (.lst (rs ++ [r]))) := by
  show M.bind (evE C o ρ) (fun x => M.bind (lmRecv x) fun _ => M.bind (M.bind (evE C e ρ) fun y => M.bind (M.pure []) fun ys => M.pure (y :: ys)) fun xs => lmR x .append xs) S = _
  rw [bind_at ho]
  have e1 : lmRecv (.own k) S = .ok () S := by
    unfold lmRecv
    simp only [hk]
  rw [bind_at e1, bind_assoc, bind_at he]
  show lmR (.own k) .append [r] S1 = _
  unfold lmR
  simp only [hk1]
  rw [if_pos (show small rs.length = true from decide_eq_true hz)]
theorem allD_dat {m f : Nat} {S : Store} : ∀ ds : List D, allD (toD m S f) (ds.map R.dat) = some ds
  | [] => rfl
  | d :: ds => by
    have e : toD m S f (.dat d) = some d := by cases f <;> rfl
    show (match toD m S f (.dat d), allD (toD m S f) (ds.map R.dat) with
      | some d, some ds => some (d :: ds)
      | _, _ => none) = _
    rw [e, allD_dat ds]
/-- the same by places -/
theorem loop_ix {t : IT} {g : Gd} {c : Env → M Bool} {el : Env → M (List R)} {ρ0 : Env} {S : Store} (hg : gdOk S g = true) : ∀ {xs : List Itm} {G : Nat → R}, (∀ (i : Nat) x, xs[i]? = some x → ∃ ρ', bindT t x ρ0 S = some ρ' ∧ c ρ' S = .ok true S ∧ el ρ' S = .ok [G i] S) →
    lcLoop g (lcTurn t g c el ρ0) xs S = .ok ((List.range xs.length).map G) S
  | [], G, _ => by
    show (if gdOk S g = true then _ else _) = _
    rw [if_pos hg]
    rfl
  | x :: xs, G, h => by
    obtain ⟨ρ', h1, h2, h3⟩ := h 0 x rfl
    have e1 : lcTurn t g c el ρ0 x S = .ok [G 0] S := by
      unfold lcTurn
      rw [if_pos hg]
      simp only [h1]
      unfold M.noX
      rw [bind_at h2]
      simp only [if_pos, h3]
    show M.bind (lcTurn t g c el ρ0 x) (fun a => M.bind (lcLoop g (lcTurn t g c el ρ0) xs) fun b => M.pure (a ++ b)) S = _
    rw [bind_at e1, bind_at (loop_ix hg (G := fun i => G (i + 1)) fun i y hy => h (i + 1) y hy), List.length_cons, List.range_succ_eq_map, List.map_cons, List.map_map]
    rfl
theorem lc_ix {C : Calls} {e : IE} {t : IT} {it : II} {own : List (Str × Nat)} {sc : Scope} {p : Pos} {ρ : Env} {S : Store} {xs : List Itm} {g : Gd} {G : Nat → D} {n : Nat} (hi : evII C it ρ S = .ok (xs, g) S) (hg : gdOk S g = true) (hn : xs.length = n)
    (hx : ∀ (i : Nat) x, xs[i]? = some x → ∃ ρ', bindT t x (wipeE ρ (own.map (·.2))) S = some ρ' ∧ evE C e ρ' S = .ok (.dat (G i)) S) (hl : n ≤ 1000000) : evE C (.lc false e t it .nil own sc p) ρ S = .ok (.dat (.lst ((List.range n).map G))) S := by
  subst hn
  show M.bind (evII C it ρ) (fun q => M.bind (lcLoop q.2 (lcTurn t q.2 (fun ρ' => evTs C .nil ρ') (fun ρ' => M.bind (evE C e ρ') fun r => M.pure [r]) (wipeE ρ (own.map (·.2)))) q.1) (lcOut false)) S = _
  rw [bind_at hi, bind_at (loop_ix (G := fun i => .dat (G i)) hg fun i x hm => by
    obtain ⟨ρ', h1, h2⟩ := hx i x hm
    exact ⟨ρ', h1, rfl, by rw [bind_at h2]; rfl⟩)]
  have e1 : ((List.range xs.length).map fun i => R.dat (G i)) = ((List.range xs.length).map G).map R.dat := by
    rw [List.map_map]
    rfl
  rw [e1]
  unfold lcOut
  rw [if_pos (show small (((List.range xs.length).map G).map R.dat).length = true by rw [List.length_map, List.length_map, List.length_range]; exact decide_eq_true hl)]
  unfold mkL
  rw [datsR_map]
/-- over a list of data, by places -/
theorem lc_at {C : Calls} {e : IE} {i : Nat} {x : Str} {px : Pos} {it : II} {own : List (Str × Nat)} {sc : Scope} {p : Pos} {ρ : Env} {S : Store} {l : List D} {G : Nat → D} {n : Nat} (hi : evII C it ρ S = .ok ((l.map R.dat).map .one, []) S) (hn : l.length = n)
    (hx : ∀ (k : Nat) d, l[k]? = some d → evE C e ((wipeE ρ (own.map (·.2))).set i (some (.dat d))) S = .ok (.dat (G k)) S) (hl : n ≤ 1000000) : evE C (.lc false e (.one i x px) it .nil own sc p) ρ S = .ok (.dat (.lst ((List.range n).map G))) S :=
  lc_ix hi gd_nil (by rw [List.length_map, List.length_map]; exact hn) (fun k y hy => by
    rw [List.getElem?_map, List.getElem?_map] at hy
    cases e1 : l[k]? with
    | none => rw [e1] at hy; cases hy
    | some d =>
      rw [e1] at hy
      cases hy
      exact ⟨_, rfl, hx k d e1⟩) hl
theorem toD_lst {m f k : Nat} {S : Store} {rs : List R} (hk : S[k]? = some (.lst rs)) (h : m ≤ k) : toD m S (f + 1) (.own k) = (allD (toD m S f) rs).map D.lst := by
  show (if k < m then none else match S[k]? with
    | some (.lst rs) => (allD (toD m S f) rs).map D.lst
    | some (.tup rs) => (allD (toD m S f) rs).map D.tup
    | some (.obj c ns rs) => (allD (toD m S f) rs).map (D.obj c ns)
    | none => none) = _
  rw [if_neg (Nat.not_lt.mpr h), hk]
end MP
set_option Elab.async false
set_option linter.all false
set_option maxRecDepth 100000
set_option maxHeartbeats 1000000
/-! MPWish: a walk through statements, told of a wish about the end. -/
namespace MP
open PySem PySem.Spec PyProof.Rows L2
/-- one block behind the other -/
def ISs.app : ISs → ISs → ISs
  | .nil, r => r
  | .cons s a, r => .cons s (a.app r)
theorem ss_app {C : CallsX} : ∀ (a r : ISs) (ρ : Env) (S : Store), evSs C (a.app r) ρ S = match evSs C a ρ S with
    | .go .next ρ1 S1 => evSs C r ρ1 S1
    | x => x
  | .nil, r, ρ, S => rfl
  | .cons s a, r, ρ, S => by
    show (match evS C s ρ S with
      | .go .next ρ1 S1 => evSs C (a.app r) ρ1 S1
      | x => x) = _
    show _ = match (match evS C s ρ S with
      | .go .next ρ1 S1 => evSs C a ρ1 S1
      | x => x) with
      | .go .next ρ1 S1 => evSs C r ρ1 S1
      | x => x
    cases evS C s ρ S with
    | stuck => rfl
    | exc c ns l ρ1 S1 => rfl
    | go f ρ1 S1 =>
      cases f with
      | next => exact ss_app a r ρ1 S1
      | brk => rfl
      | cont => rfl
      | ret v => rfl
/-- a turn of a loop: it goes on (Q), or it ends (P) -/
def Turn (Q : Env → Store → Prop) (P : SRes → Prop) : SRes → Prop
  | .go .next ρ S => Q ρ S
  | .go .cont ρ S => Q ρ S
  | .go .brk _ _ => False
  | .go (.ret v) ρ S => P (.go (.ret v) ρ S)
  | .exc c ns l ρ S => P (.exc c ns l ρ S)
  | .stuck => False
/-- a block's end: it goes on (Q), or it ends (P) -/
def Thru (Q : Env → Store → Prop) (P : SRes → Prop) : SRes → Prop
  | .go .next ρ S => Q ρ S
  | r => P r
section
variable {C : CallsX} {ρ ρ1 : Env} {S S1 : Store} {P : SRes → Prop} {r : ISs} {p : Pos}
theorem w_if {c : IE} {a b : ISs} (t : Bool) (h : evE C.toCalls c ρ S = .ok (.dat (.bl t)) S1) (k1 : t = true → P (evSs C (a.app r) ρ S1)) (k0 : t = false → P (evSs C (b.app r) ρ S1)) : P (evSs C (.cons (.ite c a b p) r) ρ S) := by
  refine p_if h ?_
  cases t with
  | true => have := k1 rfl; rw [ss_app] at this; exact this
  | false => have := k0 rfl; rw [ss_app] at this; exact this
theorem w_ifF {c : IE} {a b : ISs} (h : evE C.toCalls c ρ S = .ok (.dat (.bl false)) S1) (k : P (evSs C (b.app r) ρ S1)) : P (evSs C (.cons (.ite c a b p) r) ρ S) := w_if false h (fun e => nomatch e) fun _ => k
theorem w_ifT {c : IE} {a b : ISs} (h : evE C.toCalls c ρ S = .ok (.dat (.bl true)) S1) (k : P (evSs C (a.app r) ρ S1)) : P (evSs C (.cons (.ite c a b p) r) ρ S) := w_if true h (fun _ => k) fun e => nomatch e
/-- both ways go on, to Q (or end, as P says) -/
theorem w_ifN {c : IE} {a b : ISs} (t : Bool) (Q : Env → Store → Prop) (h : evE C.toCalls c ρ S = .ok (.dat (.bl t)) S1) (k1 : t = true → Thru Q P (evSs C a ρ S1)) (k0 : t = false → Thru Q P (evSs C b ρ S1)) (k : ∀ ρ' S', Q ρ' S' → P (evSs C r ρ' S')) : P (evSs C (.cons (.ite c a b p) r) ρ S) := by
  have go : ∀ x : SRes, Thru Q P x → P (match x with
    | .go .next ρ1 S1 => evSs C r ρ1 S1
    | x => x) := fun x hx => by
    cases x with
    | stuck => exact hx
    | exc c ns l ρ2 S2 => exact hx
    | go f ρ2 S2 =>
      cases f with
      | next => exact k _ _ hx
      | brk => exact hx
      | cont => exact hx
      | ret v => exact hx
  refine p_if h ?_
  cases t with
  | true => exact go _ (k1 rfl)
  | false => exact go _ (k0 rfl)
theorem w_ret {e : IE} {v : R} (h : evE C.toCalls e ρ S = .ok v S1) (k : P (.go (.ret v) ρ S1)) : P (evSs C (.cons (.ret e p) r) ρ S) := by
  rw [ss_ret (r_ret h)]
  exact k
theorem w_expr {e : IE} {v : R} (h : evE C.toCalls e ρ S = .ok v S1) (k : P (evSs C r ρ S1)) : P (evSs C (.cons (.expr e p) r) ρ S) := p_next (r_expr h) k
theorem forL_wish {t : IT} {g : Gd} {b : Env → Store → SRes} (Pv : Nat → Env → Store → Prop) : ∀ (xs : List Itm) (k : Nat) (ρ : Env) (S : Store), Pv k ρ S → (∀ i ρ S, Pv i ρ S → gdOk S g = true) →
    (∀ i x ρ S, xs[i]? = some x → Pv (k + i) ρ S → ∃ ρ1, bindT t x ρ S = some ρ1 ∧ Turn (Pv (k + i + 1)) P (b ρ1 S)) → (∃ ρ' S', forL t g b xs ρ S = .go .next ρ' S' ∧ Pv (k + xs.length) ρ' S') ∨ (P (forL t g b xs ρ S) ∧ ∀ ρ' S', forL t g b xs ρ S ≠ .go .next ρ' S')
  | [], k, ρ, S, h0, hg, _ => .inl ⟨ρ, S, by
      show (if gdOk S g = true then _ else _) = _
      rw [if_pos (hg _ _ _ h0)], h0⟩
  | x :: xs, k, ρ, S, h0, hg, hs => by
    obtain ⟨ρ1, h1, h2⟩ := hs 0 x ρ S rfl h0
    unfold forL
    rw [if_pos (hg _ _ _ h0)]
    simp only [h1]
    have ih := fun (ρ2 : Env) (S2 : Store) (h3 : Pv (k + 1) ρ2 S2) => forL_wish Pv xs (k + 1) ρ2 S2 h3 hg fun i y ρ S hy hp => by
      have e : k + 1 + i = k + (i + 1) := by omega
      rw [e] at hp ⊢
      exact hs (i + 1) y ρ S hy hp
    have el : k + (x :: xs).length = k + 1 + xs.length := by rw [List.length_cons]; omega
    rw [el]
    cases hb : b ρ1 S with
    | stuck => rw [hb] at h2; exact h2.elim
    | exc c ns l ρ2 S2 => rw [hb] at h2; exact .inr ⟨h2, fun _ _ z => by cases z⟩
    | go f ρ2 S2 =>
      cases f with
      | next => rw [hb] at h2; exact ih ρ2 S2 h2
      | cont => rw [hb] at h2; exact ih ρ2 S2 h2
      | brk => rw [hb] at h2; exact h2.elim
      | ret v => rw [hb] at h2; exact .inr ⟨h2, fun _ _ z => by cases z⟩
/-- a for: Pv at each turn; a turn may also end the walk -/
theorem w_for {t : IT} {it : II} {b : ISs} {xs : List Itm} {g : Gd} (Pv : Nat → Env → Store → Prop) (hi : evII C.toCalls it ρ S = .ok (xs, g) S1) (h0 : Pv 0 ρ S1) (hg : ∀ i ρ S, Pv i ρ S → gdOk S g = true)
    (hs : ∀ i x ρ S, xs[i]? = some x → Pv i ρ S → ∃ ρ1, bindT t x ρ S = some ρ1 ∧ Turn (Pv (i + 1)) P (evSs C b ρ1 S)) (k : ∀ ρ' S', Pv xs.length ρ' S' → P (evSs C r ρ' S')) : P (evSs C (.cons (.for_ t it b p) r) ρ S) := by
  show P (match evS C (.for_ t it b p) ρ S with
    | .go .next ρ1 S1 => evSs C r ρ1 S1
    | x => x)
  rw [r_for hi]
  rcases forL_wish (P := P) Pv xs 0 ρ S1 h0 hg (fun i x ρ S hx hp => by
    rw [Nat.zero_add] at hp ⊢
    exact hs i x ρ S hx hp) with ⟨ρ', S', h1, h2⟩ | ⟨h1, h2⟩
  · rw [Nat.zero_add] at h2
    rw [h1]
    exact k ρ' S' h2
  · cases hf : forL t g (fun ρ' S' => evSs C b ρ' S') xs ρ S1 with
    | stuck => rw [hf] at h1; exact h1
    | exc c ns l ρ2 S2 => rw [hf] at h1; exact h1
    | go f ρ2 S2 =>
      cases f with
      | next => exact absurd hf (h2 ρ2 S2)
      | cont => rw [hf] at h1; exact h1
      | brk => rw [hf] at h1; exact h1
      | ret v => rw [hf] at h1; exact h1
/-- over a range from 0 -/
theorem w_rng {i : Nat} {x : Str} {px : Pos} {it : II} {b : ISs} {lo : Int} {n : Nat} (Pv : Nat → Env → Store → Prop) (hi : evII C.toCalls it ρ S = .ok (rngI lo n, []) S1) (h0 : Pv 0 ρ S1)
    (hs : ∀ k ρ S, k < n → Pv k ρ S → Turn (Pv (k + 1)) P (evSs C b (ρ.set i (some (.dat (.int (lo + (k : Int)))))) S)) (k : ∀ ρ' S', Pv n ρ' S' → P (evSs C r ρ' S')) : P (evSs C (.cons (.for_ (.one i x px) it b p) r) ρ S) := by
  refine w_for Pv hi h0 (fun _ _ _ _ => gd_nil) (fun k y ρ S hy hp => ?_) (by
    have e : (rngI lo n).length = n := by rw [rng_eq, List.length_map, List.length_range]
    rw [e]
    exact k)
  rw [rng_eq, List.getElem?_map] at hy
  by_cases hk : k < n
  · rw [List.getElem?_range hk] at hy
    cases hy
    exact ⟨_, rfl, hs k ρ S hk hp⟩
  · rw [List.getElem?_eq_none (by rw [List.length_range]; omega)] at hy
    cases hy
/-- over a list that is data -/
theorem w_lst {i : Nat} {x : Str} {px : Pos} {it : II} {b : ISs} {l : List D} (Pv : Nat → Env → Store → Prop) (hi : evII C.toCalls it ρ S = .ok ((l.map R.dat).map .one, []) S1) (h0 : Pv 0 ρ S1)
    (hs : ∀ k d ρ S, l[k]? = some d → Pv k ρ S → Turn (Pv (k + 1)) P (evSs C b (ρ.set i (some (.dat d))) S)) (k : ∀ ρ' S', Pv l.length ρ' S' → P (evSs C r ρ' S')) : P (evSs C (.cons (.for_ (.one i x px) it b p) r) ρ S) := by
  refine w_for Pv hi h0 (fun _ _ _ _ => gd_nil) (fun k y ρ S hy hp => ?_) (by rw [List.length_map, List.length_map]; exact k)
  rw [List.getElem?_map, List.getElem?_map] at hy
  cases e : l[k]? with
  | none => rw [e] at hy; cases hy
  | some d =>
    rw [e] at hy
    cases hy
    exact ⟨_, rfl, hs k d ρ S e hp⟩
end
/-- a call, told of a wish -/
theorem run_q {T : Tab} {n i : Nat} {F : Fn} {rs : List R} {S : Store} (Q : Res R → Prop) (hF : T.fns[i]? = some F) (hl : rs.length = F.np) (hb : Q (sealS S.length (evSs (T.C n) F.body (MP.start F rs) S))) (hk : F.keep = false := by rfl) : Q (callN T (n + 1) i rs S) := by
  rw [run_call hF hl rfl rfl hk]
  exact hb
section
variable {C : Calls} {ρ : Env} {S S1 S2 : Store} {p : Pos}
theorem c_and {a b : IE} {x y : Bool} (ha : evE C a ρ S = .ok (.dat (.bl x)) S) (hb : evE C b ρ S = .ok (.dat (.bl y)) S) : evE C (.and a (.cons b .nil) p) ρ S = .ok (.dat (.bl (x && y))) S := by
  show M.bind (M.bind (evE C a ρ) truB) (fun b' => if b' = true then evE C b ρ else M.pure (R.dat (.bl false))) S = _
  have e : M.bind (evE C a ρ) truB S = .ok x S := by rw [bind_at ha]; rfl
  rw [bind_at e]
  cases x with
  | false => rfl
  | true => exact hb
theorem c_or {a b : IE} {x y : Bool} (ha : evE C a ρ S = .ok (.dat (.bl x)) S) (hb : evE C b ρ S = .ok (.dat (.bl y)) S) : evE C (.or a (.cons b .nil) p) ρ S = .ok (.dat (.bl (x || y))) S := by
  show M.bind (M.bind (evE C a ρ) truB) (fun b' => if b' = true then M.pure (R.dat (.bl true)) else evE C b ρ) S = _
  have e : M.bind (evE C a ρ) truB S = .ok x S := by rw [bind_at ha]; rfl
  rw [bind_at e]
  cases x with
  | true => rfl
  | false => exact hb
theorem c_not {a : IE} {x : Bool} (ha : evE C a ρ S = .ok (.dat (.bl x)) S1) : evE C (.not a p) ρ S = .ok (.dat (.bl (!x))) S1 := by
  show M.bind (M.bind (evE C a ρ) truB) (fun b => M.pure (R.dat (.bl (!b)))) S = _
  have e : M.bind (evE C a ρ) truB S = .ok x S1 := by rw [bind_at ha]; rfl
  rw [bind_at e]
  rfl
theorem c_bin {m : Bool} {op : Bop} {a b : IE} {x y : R} {r : Res R} (ha : evE C a ρ S = .ok x S1) (hb : evE C b ρ S1 = .ok y S2) (h : binR m op x y S2 = r) : evE C (.bin m op a b p) ρ S = r := by
  show M.bind (evE C a ρ) (fun x => M.bind (evE C b ρ) fun y => binR m op x y) S = _
  rw [bind_at ha, bind_at hb, h]
theorem c_cmp {op : Cop} {a b : IE} {x y : R} {r : Res R} (ha : evE C a ρ S = .ok x S1) (hb : evE C b ρ S1 = .ok y S2) (h : cmpR op x y S2 = r) : evE C (.cmp op a b p) ρ S = r := by
  show M.bind (evE C a ρ) (fun x => M.bind (evE C b ρ) fun y => cmpR op x y) S = _
  rw [bind_at ha, bind_at hb, h]
theorem c_ix {a i : IE} {x y : R} {r : Res R} (ha : evE C a ρ S = .ok x S1) (hb : evE C i ρ S1 = .ok y S2) (h : ixR x y S2 = r) : evE C (.ix a i p) ρ S = r := by
  show M.bind (evE C a ρ) (fun x => M.bind (evE C i ρ) fun y => ixR x y) S = _
  rw [bind_at ha, bind_at hb, h]
theorem c_call1 {f : Nat} {x : Str} {a : IE} {p0 : Pos} {v : R} {r : Res R} (ha : evE C a ρ S = .ok v S1) (h : C.fn f [v] S1 = r) : evE C (.call f x a .nil p0 p) ρ S = r := by
  show M.bind (evE C a ρ) (fun x => M.bind (M.pure []) fun xs => C.fn f (x :: xs)) S = _
  rw [bind_at ha]
  exact h
theorem c_call2 {f : Nat} {x : Str} {a b : IE} {p0 : Pos} {v w : R} {r : Res R} (ha : evE C a ρ S = .ok v S1) (hb : evE C b ρ S1 = .ok w S2) (h : C.fn f [v, w] S2 = r) : evE C (.call f x a (.cons b .nil) p0 p) ρ S = r := by
  show M.bind (evE C a ρ) (fun x => M.bind (M.bind (evE C b ρ) fun y => M.bind (M.pure []) fun ys => M.pure (y :: ys)) fun xs => C.fn f (x :: xs)) S = _
  rw [bind_at ha, bind_assoc, bind_at hb]
  exact h
theorem c_call3 {f : Nat} {x : Str} {a b c : IE} {p0 : Pos} {v w u : R} {S3 : Store} {r : Res R} (ha : evE C a ρ S = .ok v S1) (hb : evE C b ρ S1 = .ok w S2) (hc : evE C c ρ S2 = .ok u S3) (h : C.fn f [v, w, u] S3 = r) : evE C (.call f x a (.cons b (.cons c .nil)) p0 p) ρ S = r := by
  show M.bind (evE C a ρ) (fun x => M.bind (M.bind (evE C b ρ) fun y => M.bind (M.bind (evE C c ρ) fun z => M.bind (M.pure []) fun zs => M.pure (z :: zs)) fun ys => M.pure (y :: ys)) fun xs => C.fn f (x :: xs)) S = _
  rw [bind_at ha, bind_assoc, bind_at hb, bind_assoc, bind_assoc, bind_at hc]
  exact h
theorem c_bi1 {m : Bool} {f : Bf} {a : IE} {p0 : Pos} {v : R} {r : Res R} (ha : evE C a ρ S = .ok v S1) (h : biR m f [v] S1 = r) : evE C (.bi m f a .nil p0 p) ρ S = r := by
  show M.bind (evE C a ρ) (fun x => M.bind (M.pure []) fun xs => biR m f (x :: xs)) S = _
  rw [bind_at ha]
  exact h
theorem c_bi2 {m : Bool} {f : Bf} {a b : IE} {p0 : Pos} {v w : R} {r : Res R} (ha : evE C a ρ S = .ok v S1) (hb : evE C b ρ S1 = .ok w S2) (h : biR m f [v, w] S2 = r) : evE C (.bi m f a (.cons b .nil) p0 p) ρ S = r := by
  show M.bind (evE C a ρ) (fun x => M.bind (M.bind (evE C b ρ) fun y => M.bind (M.pure []) fun ys => M.pure (y :: ys)) fun xs => biR m f (x :: xs)) S = _
  rw [bind_at ha, bind_assoc, bind_at hb]
  exact h
end
end MP
set_option Elab.async false
set_option linter.all false
set_option maxRecDepth 100000
set_option maxHeartbeats 1000000
/-! MPWish2: while; single expressions. -/
namespace MP
open PySem PySem.Spec PyProof.Rows L2
section
variable {c : Env → M Bool} {body : Env → Store → SRes}
theorem whileN_more : ∀ {n : Nat} {ρ : Env} {S : Store} {r : SRes} (k : Nat), whileN c body n ρ S = some r → whileN c body (n + k) ρ S = some r
  | 0, _, _, _, _, h => by cases h
  | n + 1, ρ, S, r, k, h => by
    rw [show n + 1 + k = (n + k) + 1 by omega]
    unfold whileN at h ⊢
    cases e : c ρ S with
    | ok t S1 =>
      rw [e] at h
      cases t with
      | false => exact h
      | true =>
        cases e2 : body ρ S1 with
        | stuck => simp only [e2] at h ⊢; exact h
        | exc a b d f g => simp only [e2] at h ⊢; exact h
        | go f ρ2 S2 =>
          cases f with
          | next => simp only [e2] at h ⊢; exact whileN_more k h
          | cont => simp only [e2] at h ⊢; exact whileN_more k h
          | brk => simp only [e2] at h ⊢; exact h
          | ret v => simp only [e2] at h ⊢; exact h
    | exc a b d f => rw [e] at h; exact h
    | stuck => rw [e] at h; exact h
theorem while_eq {n : Nat} {ρ : Env} {S : Store} {r : SRes} (h : whileN c body n ρ S = some r) : whileX c body ρ S = r := by
  unfold whileX
  have z : ∃ n r, whileN c body n ρ S = some r := ⟨n, r, h⟩
  rw [dif_pos z]
  have h1 := z.choose_spec.choose_spec
  have h2 := whileN_more n h1
  have h3 := whileN_more z.choose h
  rw [Nat.add_comm] at h3
  rw [h3] at h2
  exact (Option.some.inj h2).symm
theorem while_ind (I : Env → Store → Prop) (μ : Env → Store → Nat) (Q : SRes → Prop) (hs : ∀ ρ S, I ρ S → ∃ t S1, c ρ S = .ok t S1 ∧ (t = false → Q (.go .next ρ S1)) ∧ (t = true → ∃ ρ2 S2, body ρ S1 = .go .next ρ2 S2 ∧ I ρ2 S2 ∧ μ ρ2 S2 < μ ρ S)) :
    ∀ (m : Nat) (ρ : Env) (S : Store), μ ρ S ≤ m → I ρ S → ∃ n r, whileN c body n ρ S = some r ∧ Q r := by
  intro m
  induction m with
  | zero =>
    intro ρ S hm hI
    obtain ⟨t, S1, e, h0, h1⟩ := hs ρ S hI
    cases t with
    | false => exact ⟨1, _, by unfold whileN; rw [e], h0 rfl⟩
    | true =>
      obtain ⟨ρ2, S2, _, _, h4⟩ := h1 rfl
      omega
  | succ m ih =>
    intro ρ S hm hI
    obtain ⟨t, S1, e, h0, h1⟩ := hs ρ S hI
    cases t with
    | false => exact ⟨1, _, by unfold whileN; rw [e], h0 rfl⟩
    | true =>
      obtain ⟨ρ2, S2, e2, h3, h4⟩ := h1 rfl
      obtain ⟨n, r, h5, h6⟩ := ih ρ2 S2 (by omega) h3
      exact ⟨n + 1, r, by unfold whileN; rw [e]; simp only [e2]; exact h5, h6⟩
end
section
variable {C : CallsX} {ρ : Env} {S S1 S2 : Store} {p : Pos} {r : ISs} {P : SRes → Prop}
theorem w_while {c : IE} {b : ISs} (I : Env → Store → Prop) (μ : Env → Store → Nat) (h0 : I ρ S)
    (hs : ∀ ρ S, I ρ S → ∃ t S1, evE C.toCalls c ρ S = .ok (.dat (.bl t)) S1 ∧ (t = false → P (evSs C r ρ S1)) ∧ (t = true → ∃ ρ2 S2, evSs C b ρ S1 = .go .next ρ2 S2 ∧ I ρ2 S2 ∧ μ ρ2 S2 < μ ρ S)) : P (evSs C (.cons (.while_ c b p) r) ρ S) := by
  obtain ⟨n, x, h1, h2⟩ := while_ind (c := fun ρ' => M.bind (evE C.toCalls c ρ') truB) (body := fun ρ' S' => evSs C b ρ' S') I μ (fun x => P (match x with
    | .go .next ρ1 S1 => evSs C r ρ1 S1
    | x => x)) (fun ρ S hI => by
    obtain ⟨t, S1, e, a, b⟩ := hs ρ S hI
    exact ⟨t, S1, by rw [bind_at e]; rfl, a, b⟩) (μ ρ S) ρ S (Nat.le_refl _) h0
  show P (match evS C (.while_ c b p) ρ S with
    | .go .next ρ1 S1 => evSs C r ρ1 S1
    | x => x)
  have e : evS C (.while_ c b p) ρ S = x := while_eq h1
  rw [e]
  exact h2
theorem w_if0 {c : IE} {a b : ISs} {t : Bool} (h : evE C.toCalls c ρ S = .ok (.dat (.bl t)) S1) (ht : t = false) (k : P (evSs C (b.app r) ρ S1)) : P (evSs C (.cons (.ite c a b p) r) ρ S) := by
  subst ht
  exact w_ifF h k
theorem w_if1 {c : IE} {a b : ISs} {t : Bool} (h : evE C.toCalls c ρ S = .ok (.dat (.bl t)) S1) (ht : t = true) (k : P (evSs C (a.app r) ρ S1)) : P (evSs C (.cons (.ite c a b p) r) ρ S) := by
  subst ht
  exact w_ifT h k
/-- a, b = a tuple of data -/
theorem w_two {i j : Nat} {x y : Str} {px py p1 : Pos} {k : Nat} {e : IE} {d d' : D} (h : evE C.toCalls e ρ S = .ok (.dat (.tup [d, d'])) S1) (hk : P (evSs C r ((ρ.set i (some (.dat d))).set j (some (.dat d'))) S1)) : P (evSs C (.cons (.asg (.many [(i, x, px), (j, y, py)] k p1) e p) r) ρ S) := by
  refine p_next (ρ1 := (ρ.set i (some (.dat d))).set j (some (.dat d'))) (S1 := S1) ?_ hk
  show SRes.of ρ (evE C.toCalls e ρ S) _ = _
  rw [h]
  rfl
theorem w_raise1 {c : Str} {f : Option Nat} {a : IE} {pn pc : Pos} {X : XC} {d : D} (hX : C.xc c = some X) (ha : evE C.toCalls a ρ S = .ok (.dat d) S1) (hk : keptAll X.fs [.dat d] S1 = .ok [d] S1) (k : P (.exc c (X.fs.map (·.1)) [d] ρ S1)) : P (evSs C (.cons (.raise c f (.cons a .nil) pn pc p) r) ρ S) := by
  show P (match (match C.xc c with
    | none => SRes.stuck
    | some _ => SRes.of ρ ((M.bind (evEs C.toCalls (.cons a .nil) ρ) fun rs => raiseR C c rs) S) fun _ _ => SRes.stuck) with
    | .go .next ρ1 S1 => evSs C r ρ1 S1
    | x => x)
  have e : (M.bind (evEs C.toCalls (.cons a .nil) ρ) fun rs => raiseR C c rs) S = .exc c (X.fs.map (·.1)) [d] S1 := by
    show M.bind (M.bind (evE C.toCalls a ρ) fun x => M.bind (M.pure []) fun xs => M.pure (x :: xs)) (fun rs => raiseR C c rs) S = _
    rw [bind_assoc, bind_at ha]
    show raiseR C c [.dat d] S1 = _
    unfold raiseR
    rw [hX]
    show M.bind (keptAll X.fs [.dat d]) _ S1 = _
    rw [bind_at hk]
  rw [hX, e]
  exact k
/-- a call that raises, as a statement -/
theorem w_exprX {e : IE} {c : Str} {ns : List Str} {l : List D} (h : evE C.toCalls e ρ S = .exc c ns l S1) (k : P (.exc c ns l ρ S1)) : P (evSs C (.cons (.expr e p) r) ρ S) := by
  show P (match SRes.of ρ (evE C.toCalls e ρ S) _ with
    | .go .next ρ1 S1 => evSs C r ρ1 S1
    | x => x)
  rw [h]
  exact k
/-- try: the body raises what the first clause takes, whose suite returns -/
theorem w_tryR {b s : ISs} {c n : Str} {i : Nat} {pc ph : Pos} {hs : IHs} {c' : Str} {ns : List Str} {l : List D} {ρ1 ρ2 : Env} {v : R} (hb : evSs C b ρ S = .exc c' ns l ρ1 S1) (hc : C.sub c' c = some true) (hh : evSs C s (ρ1.set i (some (.exc c' ns l))) S1 = .go (.ret v) ρ2 S2)
    (k : P (.go (.ret v) ((dropX ρ2).set i none) S2)) : P (evSs C (.cons (.try1 b c i n s pc ph hs p) r) ρ S) := by
  show P (match evS C (.try1 b c i n s pc ph hs p) ρ S with
    | .go .next ρ1 S1 => evSs C r ρ1 S1
    | x => x)
  have e : evS C (.try1 b c i n s pc ph hs p) ρ S = .go (.ret v) ((dropX ρ2).set i none) S2 := by
    show (match evSs C b ρ S with
    | .exc c' ns l ρ1 S1 => (match C.sub c' c with
      | some true => (match evSs C s (ρ1.set i (some (.exc c' ns l))) S1 with
        | .go f ρ2 S2 => SRes.go f ((dropX ρ2).set i none) S2
        | _ => SRes.stuck)
      | _ => SRes.stuck)
    | r => r) = _
    rw [hb]
    simp only [hc, hh]
  rw [e]
  exact k
end
section
variable {C : Calls} {ρ : Env} {S S1 S2 : Store} {p : Pos}
theorem r_mul {m : Bool} {i j : Int} (h : mulOk i j = true) : binR m .mul (.dat (.int i)) (.dat (.int j)) S = .ok (.dat (.int (i * j))) S := by
  show (if mulOk i j = true then M.pure (R.dat (.int (i * j))) else M.stuck) S = _
  rw [if_pos h]
  rfl
theorem r_div {m : Bool} {i j : Int} (h : divOk j = true) : binR m .fdiv (.dat (.int i)) (.dat (.int j)) S = .ok (.dat (.int (i / j))) S := by
  show (if divOk j = true then M.pure (R.dat (.int (i / j))) else M.stuck) S = _
  rw [if_pos h]
  rfl
theorem r_mod {m : Bool} {i j : Int} (h : 0 < j) : binR m .mod (.dat (.int i)) (.dat (.int j)) S = .ok (.dat (.int (i % j))) S := by
  show (if 0 < j then M.pure (R.dat (.int (i % j))) else M.stuck) S = _
  rw [if_pos h]
  rfl
theorem c_add {m : Bool} {a b : IE} {i j : Int} (ha : evE C a ρ S = .ok (.dat (.int i)) S1) (hb : evE C b ρ S1 = .ok (.dat (.int j)) S2) : evE C (.bin m .add a b p) ρ S = .ok (.dat (.int (i + j))) S2 := c_bin ha hb rfl
theorem c_sub {m : Bool} {a b : IE} {i j : Int} (ha : evE C a ρ S = .ok (.dat (.int i)) S1) (hb : evE C b ρ S1 = .ok (.dat (.int j)) S2) : evE C (.bin m .sub a b p) ρ S = .ok (.dat (.int (i - j))) S2 := c_bin ha hb rfl
theorem c_mul {m : Bool} {a b : IE} {i j : Int} (ha : evE C a ρ S = .ok (.dat (.int i)) S1) (hb : evE C b ρ S1 = .ok (.dat (.int j)) S2) (h : mulOk i j = true) : evE C (.bin m .mul a b p) ρ S = .ok (.dat (.int (i * j))) S2 := c_bin ha hb (r_mul h)
theorem c_div {m : Bool} {a b : IE} {i j : Int} (ha : evE C a ρ S = .ok (.dat (.int i)) S1) (hb : evE C b ρ S1 = .ok (.dat (.int j)) S2) (h : divOk j = true) : evE C (.bin m .fdiv a b p) ρ S = .ok (.dat (.int (i / j))) S2 := c_bin ha hb (r_div h)
theorem c_mod {m : Bool} {a b : IE} {i j : Int} (ha : evE C a ρ S = .ok (.dat (.int i)) S1) (hb : evE C b ρ S1 = .ok (.dat (.int j)) S2) (h : 0 < j) : evE C (.bin m .mod a b p) ρ S = .ok (.dat (.int (i % j))) S2 := c_bin ha hb (r_mod h)
theorem c_gcd {l : Bool} {a b : IE} {p0 : Pos} {x y : R} {r : Res R} (ha : evE C a ρ S = .ok x S1) (hb : evE C b ρ S1 = .ok y S2) (h : gcdR l x y S2 = r) : evE C (.gcd l a b p0 p) ρ S = r := by
  show M.bind (evE C a ρ) (fun x => M.bind (evE C b ρ) fun y => gcdR l x y) S = _
  rw [bind_at ha, bind_at hb, h]
theorem c_attr {a : IE} {c f : Str} {x : R} {r : Res R} (ha : evE C a ρ S = .ok x S1) (h : attrR x c f S1 = r) : evE C (.attr a c f p) ρ S = r := by
  show M.bind (evE C a ρ) (fun x => attrR x c f) S = _
  rw [bind_at ha, h]
theorem c_tup2 {a b : IE} {k : Nat} {d d' : D} (ha : evE C a ρ S = .ok (.dat d) S1) (hb : evE C b ρ S1 = .ok (.dat d') S2) : evE C (.tup (.cons a (.cons b .nil)) k p) ρ S = .ok (.dat (.tup [d, d'])) S2 := by
  show M.bind (M.bind (evE C a ρ) fun x => M.bind (M.bind (evE C b ρ) fun y => M.bind (M.pure []) fun ys => M.pure (y :: ys)) fun xs => M.pure (x :: xs)) mkT S = _
  rw [bind_assoc, bind_at ha, bind_assoc, bind_assoc, bind_at hb]
  rfl
theorem c_orT {a : IE} {r : IEs} {q : IE} (ha : evE C a ρ S = .ok (.dat (.bl true)) S1) : evE C (.or a (.cons q r) p) ρ S = .ok (.dat (.bl true)) S1 := by
  show M.bind (M.bind (evE C a ρ) truB) (fun b' => if b' = true then M.pure (R.dat (.bl true)) else evOr C (.cons q r) ρ) S = _
  have e : M.bind (evE C a ρ) truB S = .ok true S1 := by rw [bind_at ha]; rfl
  rw [bind_at e]
  rfl
theorem c_make1 {m : Bool} {f : Nat} {c : Str} {a : IE} {p0 : Pos} {v : R} {r : Res R} (ha : evE C a ρ S = .ok v S1) (h : makeR C m f c [v] S1 = r) : evE C (.make m f c a .nil p0 p) ρ S = r := by
  show M.bind (evE C a ρ) (fun x => M.bind (M.pure []) fun xs => makeR C m f c (x :: xs)) S = _
  rw [bind_at ha]
  exact h
theorem c_make2 {m : Bool} {f : Nat} {c : Str} {a b : IE} {p0 : Pos} {v w : R} {r : Res R} (ha : evE C a ρ S = .ok v S1) (hb : evE C b ρ S1 = .ok w S2) (h : makeR C m f c [v, w] S2 = r) : evE C (.make m f c a (.cons b .nil) p0 p) ρ S = r := by
  show M.bind (evE C a ρ) (fun x => M.bind (M.bind (evE C b ρ) fun y => M.bind (M.pure []) fun ys => M.pure (y :: ys)) fun xs => makeR C m f c (x :: xs)) S = _
  rw [bind_at ha, bind_assoc, bind_at hb]
  exact h
theorem c_makeD1 {m : Bool} {f : Nat} {c : Str} {a : IE} {ds : List Int} {p0 : Pos} {v : R} {r : Res R} (ha : evE C a ρ S = .ok v S1) (h : makeR C m f c (v :: intsD ds) S1 = r) : evE C (.makeD m f c a .nil ds p0 p) ρ S = r := by
  show M.bind (evE C a ρ) (fun x => M.bind (M.pure []) fun xs => makeR C m f c (x :: xs ++ intsD ds)) S = _
  rw [bind_at ha]
  exact h
theorem c_callK1 {f : Nat} {x nm : Str} {a e : IE} {p0 q : Pos} {v w : R} {r : Res R} (ha : evE C a ρ S = .ok v S1) (he : evE C e ρ S1 = .ok w S2) (h : C.fn f [v, w] S2 = r) : evE C (.callK f x a .nil (.cons nm e q .nil) [0, 1] p0 p) ρ S = r := by
  show M.bind (evE C a ρ) (fun x => M.bind (M.pure []) fun xs => M.bind (M.bind (evE C e ρ) fun y => M.bind (M.pure []) fun ys => M.pure (y :: ys)) fun ys => match pick [0, 1] (x :: xs ++ ys) with
    | some zs => C.fn f zs
    | none => M.stuck) S = _
  rw [bind_at ha]
  show M.bind (M.bind (evE C e ρ) fun y => M.bind (M.pure []) fun ys => M.pure (y :: ys)) (fun ys => match pick [0, 1] (v :: [] ++ ys) with
    | some zs => C.fn f zs
    | none => M.stuck) S1 = _
  rw [bind_assoc, bind_at he]
  exact h
theorem c_callK2 {f : Nat} {x nm nm' : Str} {a e e' : IE} {p0 q q' : Pos} {v w u : R} {r : Res R} {S3 : Store} {pm : List Nat} {zs : List R} (ha : evE C a ρ S = .ok v S1) (he : evE C e ρ S1 = .ok w S2) (he' : evE C e' ρ S2 = .ok u S3) (hp : pick pm [v, w, u] = some zs) (h : C.fn f zs S3 = r) : evE C (.callK f x a .nil (.cons nm e q (.cons nm' e' q' .nil)) pm p0 p) ρ S = r := by
  show M.bind (evE C a ρ) (fun x => M.bind (M.pure []) fun xs => M.bind (M.bind (evE C e ρ) fun y => M.bind (M.bind (evE C e' ρ) fun z => M.bind (M.pure []) fun zs => M.pure (z :: zs)) fun ys => M.pure (y :: ys)) fun ys => match pick pm (x :: xs ++ ys) with
    | some zs => C.fn f zs
    | none => M.stuck) S = _
  rw [bind_at ha]
  show M.bind (M.bind (evE C e ρ) fun y => M.bind (M.bind (evE C e' ρ) fun z => M.bind (M.pure []) fun zs => M.pure (z :: zs)) fun ys => M.pure (y :: ys)) (fun ys => match pick pm (v :: [] ++ ys) with
    | some zs => C.fn f zs
    | none => M.stuck) S1 = _
  rw [bind_assoc, bind_at he, bind_assoc, bind_assoc, bind_at he']
  show (match pick pm [v, w, u] with
    | some zs => C.fn f zs
    | none => M.stuck) S3 = _
  rw [hp]
  exact h
theorem c_call4 {f : Nat} {x : Str} {a b c d : IE} {p0 : Pos} {v w u z : R} {S3 S4 : Store} {r : Res R} (ha : evE C a ρ S = .ok v S1) (hb : evE C b ρ S1 = .ok w S2) (hc : evE C c ρ S2 = .ok u S3) (hd : evE C d ρ S3 = .ok z S4) (h : C.fn f [v, w, u, z] S4 = r) : evE C (.call f x a (.cons b (.cons c (.cons d .nil))) p0 p) ρ S = r := by
  show M.bind (evE C a ρ) (fun x => M.bind (M.bind (evE C b ρ) fun y => M.bind (M.bind (evE C c ρ) fun z => M.bind (M.bind (evE C d ρ) fun z' => M.bind (M.pure []) fun zs' => M.pure (z' :: zs')) fun zs => M.pure (z :: zs)) fun ys => M.pure (y :: ys)) fun xs => C.fn f (x :: xs)) S = _
  rw [bind_at ha, bind_assoc, bind_at hb, bind_assoc, bind_assoc, bind_at hc, bind_assoc, bind_assoc, bind_at hd]
  exact h
/-- one's own operator on data -/
theorem c_opm {f : Nat} {c : Str} {op : Bop} {a b : IE} {ns ns' : List Str} {l l' : List D} {r : Res R} (ha : evE C a ρ S = .ok (.dat (.obj c ns l)) S1) (hb : evE C b ρ S1 = .ok (.dat (.obj c ns' l')) S2) (h : C.fn f [.dat (.obj c ns l), .dat (.obj c ns' l')] S2 = r) : evE C (.opm f c op a b p) ρ S = r := by
  show M.bind (evE C a ρ) (fun x => M.bind (evE C b ρ) fun y => objR c y (methR C f c [x, y])) S = _
  rw [bind_at ha, bind_at hb]
  show (if c = c then methR C f c [.dat (.obj c ns l), .dat (.obj c ns' l')] S2 else .stuck) = _
  rw [if_pos rfl]
  show (if c = c then C.fn f [.dat (.obj c ns l), .dat (.obj c ns' l')] S2 else .stuck) = _
  rw [if_pos rfl]
  exact h
end
end MP
set_option Elab.async false
set_option linter.all false
set_option maxRecDepth 100000
set_option maxHeartbeats 1000000
/-! DL: rows, lists of numbers and their cells, as the evaluation handles them. -/
namespace DL
open PySem PySem.Spec PyProof.Rows L2 MP
variable {n : Nat} {S : Store} {rows M : List (List Int)} {m : Nat} {B s : Int}
abbrev IL (ns : List Int) : D := .lst (ns.map D.int)
abbrev RL (ns : List Int) : R := .dat (IL ns)
abbrev RI (i : Int) : R := .dat (.int i)
abbrev RM (rows : List (List Int)) : R := .dat (.lst (rows.map IL))
abbrev TL (ns : List Int) : D := .tup (ns.map D.int)
def el (a : List Int) (k : Nat) : Int := a[k]?.getD 0
def sm (n : Nat) (f : Nat → Int) : Int := ((List.range n).map f).sum
theorem el_at {a : List Int} {k : Nat} (h : k < a.length) : (a.map D.int)[k]? = some (.int (el a k)) := by
  unfold el
  rw [List.getElem?_map, List.getElem?_eq_getElem h]
  rfl
theorem el_mem {a : List Int} {k : Nat} (h : k < a.length) : el a k ∈ a := by
  unfold el
  rw [List.getElem?_eq_getElem h]
  exact List.getElem_mem _
theorem sum_rng {m : Bool} {k : Nat} {f : Nat → Int} : biR m .sum [.dat (.lst ((List.range k).map fun i => D.int (f i)))] S = .ok (RI (sm k f)) S := by
  have e : ((List.range k).map fun i => D.int (f i)) = ((List.range k).map f).map D.int := by rw [List.map_map]; rfl
  rw [e]
  exact sum_dat
def ps (rows : List (List Int)) : Int := rows.foldl (fun t r => t * r.sum) 1
theorem ps_take {rows : List (List Int)} {i : Nat} {r : List Int} (h : rows[i]? = some r) : ps (rows.take (i + 1)) = ps (rows.take i) * r.sum := by
  unfold ps
  rw [List.take_add_one, h, List.foldl_append]
  rfl
theorem ps_sm {k : Nat} {rows : List (List Int)} (hs : ∀ r ∈ rows, Sm k r.sum) : ∀ i, i ≤ rows.length → Sm (1 + k * i) (ps (rows.take i))
  | 0, _ => by show (1 : Int).natAbs < 2 ^ (1 + k * 0); rw [Nat.mul_zero]; decide
  | i + 1, hi => by
    have hr : rows[i]? = some rows[i] := List.getElem?_eq_getElem (by omega)
    rw [ps_take hr]
    exact ((ps_sm hs i (by omega)).mul (hs _ (List.getElem_mem _))).mono (by rw [Nat.mul_succ]; omega)
theorem e_sums {C : Calls} {m : Bool} {a : IE} {i : Nat} {own : List (Str × Nat)} {sc : Scope} {x : Str} {p1 p2 p3 p4 p5 : Pos} {ρ : MP.Env} {rows : List (List Int)} (h : evE C a ρ S = .ok (RM rows) S) (hi : i < ρ.length) (hz : rows.length ≤ 1000000) :
    evE C (.lc false (.bi m .sum (.var i x p1) .nil p2 p3) (.one i x p4) (.of a) .nil own sc p5) ρ S = .ok (RL (rows.map List.sum)) S := by
  have q := lc_lst (C := C) (e := .bi m .sum (.var i x p1) .nil p2 p3) (i := i) (x := x) (px := p4) (it := .of a) (own := own) (sc := sc) (p := p5) (ρ := ρ) (S := S) (l := rows.map IL) (gd := []) (g := fun d => match d with
    | .lst l => (match intsR (l.map R.dat) with
      | some ns => .int ns.sum
      | none => .non)
    | _ => .non) (ii_of h) gd_nil (fun d hd => by
      obtain ⟨r, hr, e⟩ := List.mem_map.mp hd
      subst e
      have e4 := sum_dat (m := m) (ns := r) (S := S)
      have e5 : intsR ((r.map D.int).map R.dat) = some r := by
        rw [List.map_map]
        exact intsR_map r
      have hl : i < (wipeE ρ (own.map (·.2))).length := by
        have : ∀ vs : List Nat, (wipeE ρ vs).length = ρ.length := fun vs => by
          induction vs with
          | nil => rfl
          | cons v vs ih => show ((wipeE ρ vs).set v none).length = _; rw [List.length_set, ih]
        rw [this]
        exact hi
      have eg : getV ((wipeE ρ (own.map (·.2))).set i (some (RL r))) i = MP.M.pure (RL r) := by
        unfold getV
        rw [List.getElem?_set_self hl]
      show MP.M.bind (getV ((wipeE ρ (own.map (·.2))).set i (some (RL r))) i) (fun x => MP.M.bind (MP.M.pure []) fun xs => biR m .sum (x :: xs)) S = _
      rw [eg]
      show biR m .sum [RL r] S = _
      rw [e4]
      simp only [e5]) (by rw [List.length_map]; exact hz)
  rw [q, List.map_map]
  have e : (rows.map ((fun d => match d with
    | D.lst l => (match intsR (l.map R.dat) with
      | some ns => D.int ns.sum
      | none => .non)
    | _ => .non) ∘ IL)) = (rows.map List.sum).map D.int := by
    rw [List.map_map]
    refine List.map_congr_left fun r _ => ?_
    have e5 : intsR ((r.map D.int).map R.dat) = some r := by
      rw [List.map_map]
      exact intsR_map r
    show (match intsR ((r.map D.int).map R.dat) with
      | some ns => D.int ns.sum
      | none => .non) = _
    rw [e5]
    rfl
  rw [e]
theorem sm_zero (f : Nat → Int) : sm 0 f = 0 := rfl
theorem sm_succ (n : Nat) (f : Nat → Int) : sm (n + 1) f = sm n f + f n := by
  unfold sm
  rw [List.range_succ, List.map_append, List.sum_append]
  simp
theorem sm_congr {n : Nat} {f g : Nat → Int} (h : ∀ k, k < n → f k = g k) : sm n f = sm n g := by
  unfold sm
  congr 1
  exact List.map_congr_left fun k hk => h k (List.mem_range.mp hk)
theorem sm_abs {a : Nat} {f : Nat → Int} : ∀ n, (∀ k, k < n → Sm a (f k)) → (sm n f).natAbs ≤ n * 2 ^ a
  | 0, _ => by rw [sm_zero]; simp
  | n + 1, h => by
    rw [sm_succ, Nat.succ_mul]
    have h1 := sm_abs n fun k hk => h k (by omega)
    have h2 : (f n).natAbs < 2 ^ a := h n (by omega)
    have h3 := Int.natAbs_add_le (sm n f) (f n)
    omega
theorem sm_sm {a n : Nat} {f : Nat → Int} (h : ∀ k, k < n → Sm a (f k)) (hn : n ≤ 63) : Sm (a + 6) (sm n f) := by
  have h1 := sm_abs n h
  have h2 : 0 < 2 ^ a := Nat.pow_pos (by decide)
  show (sm n f).natAbs < 2 ^ (a + 6)
  rw [Nat.pow_add]
  have h3 : n * 2 ^ a ≤ 63 * 2 ^ a := Nat.mul_le_mul_right _ hn
  omega
theorem e_parts {C : Calls} {m : Bool} {gi i ri : Nat} {own : List (Str × Nat)} {sc : Scope} {x xg xr' : Str} {p1 p2 p3 p4 p5 p6 p7 p8 : Pos} {ρ : MP.Env} {rows : List (List Int)} {g : Int} (hr : ρ[ri]? = some (some (RM rows))) (hg : ρ[gi]? = some (some (RI g))) (hne : gi ≠ i) (hi : i < ρ.length) (hown : own.map (·.2) = [i]) (hz : rows.length ≤ 1000000)
    (hd : ∀ r ∈ rows, divOk r.sum = true) :
    evE C (.lc false (.bin m .fdiv (.var gi xg p1) (.bi m .sum (.var i x p2) .nil p3 p4) p5) (.one i x p6) (.of (.var ri xr' p7)) .nil own sc p8) ρ S = .ok (RL (rows.map fun r => g / r.sum)) S := by
  have hrr : evE C (.var ri xr' p7) ρ S = .ok (.dat (.lst (rows.map IL))) S := by
    show getV ρ ri S = _
    unfold getV
    rw [hr]
    rfl
  have gs : ∀ r : List Int, intsR ((r.map D.int).map R.dat) = some r := fun r => by
    rw [List.map_map]
    exact intsR_map r
  have q := lc_lst (C := C) (e := .bin m .fdiv (.var gi xg p1) (.bi m .sum (.var i x p2) .nil p3 p4) p5) (i := i) (x := x) (px := p6) (it := .of (.var ri xr' p7)) (own := own) (sc := sc) (p := p8) (ρ := ρ) (S := S) (l := rows.map IL) (gd := []) (g := fun d => match d with
    | .lst l => (match intsR (l.map R.dat) with
      | some ns => .int (g / ns.sum)
      | none => .non)
    | _ => .non) (ii_of hrr) gd_nil (fun d hd' => by
      obtain ⟨r, hr', e⟩ := List.mem_map.mp hd'
      subst e
      have e4 := sum_dat (m := m) (ns := r) (S := S)
      rw [hown]
      show MP.M.bind (getV ((ρ.set i none).set i (some (RL r))) gi) (fun a => MP.M.bind (MP.M.bind (getV ((ρ.set i none).set i (some (RL r))) i) (fun x => MP.M.bind (MP.M.pure []) fun xs => biR m .sum (x :: xs))) fun b => binR m .fdiv a b) S = _
      have eg : getV ((ρ.set i none).set i (some (RL r))) i = MP.M.pure (RL r) := by
        unfold getV
        rw [List.getElem?_set_self (by rw [List.length_set]; exact hi)]
      have eg2 : getV ((ρ.set i none).set i (some (RL r))) gi = MP.M.pure (RI g) := by
        unfold getV
        rw [List.getElem?_set_ne hne.symm, List.getElem?_set_ne hne.symm, hg]
      rw [eg, eg2]
      simp only [MP.M.bind, MP.M.pure, e4, binR, hd r hr', if_pos, gs]) (by rw [List.length_map]; exact hz)
  rw [q, List.map_map]
  have e : (rows.map ((fun d => match d with
    | D.lst l => (match intsR (l.map R.dat) with
      | some ns => D.int (g / ns.sum)
      | none => .non)
    | _ => .non) ∘ IL)) = (rows.map fun r => g / r.sum).map D.int := by
    rw [List.map_map]
    refine List.map_congr_left fun r _ => ?_
    show (match intsR ((r.map D.int).map R.dat) with
      | some ns => D.int (g / ns.sum)
      | none => .non) = _
    rw [gs]
    rfl
  rw [e]
def row (rows : List (List Int)) (j : Nat) : List Int := rows[j]?.getD []
theorem row_at {rows : List (List Int)} {k : Nat} (h : k < rows.length) : (rows.map IL)[k]? = some (IL (row rows k)) := by
  unfold row
  rw [List.getElem?_map, List.getElem?_eq_getElem h]
  rfl
theorem row_mem {rows : List (List Int)} {k : Nat} (h : k < rows.length) : row rows k ∈ rows := by
  unfold row
  rw [List.getElem?_eq_getElem h]
  exact List.getElem_mem _
def unit (n b : Nat) : List Int := (List.range n).map fun j => if j = b then 1 else 0
theorem el_map {n : Nat} {f : Nat → Int} {k : Nat} (h : k < n) : el ((List.range n).map f) k = f k := by
  unfold el
  rw [List.getElem?_map, List.getElem?_range h]
  rfl
theorem mem_rng {n : Nat} {f : Nat → Int} {x : Int} (h : x ∈ (List.range n).map f) : ∃ k, k < n ∧ x = f k := by
  obtain ⟨k, hk, e⟩ := List.mem_map.mp h
  exact ⟨k, List.mem_range.mp hk, e.symm⟩
theorem sum_sm {a : Nat} : ∀ (l : List Int), (∀ x ∈ l, Sm a x) → l.sum.natAbs ≤ l.length * 2 ^ a
  | [], _ => by simp
  | x :: l, h => by
    have h1 := sum_sm l fun y hy => h y (List.mem_cons_of_mem _ hy)
    have h2 : x.natAbs < 2 ^ a := h x List.mem_cons_self
    have h3 := Int.natAbs_add_le x l.sum
    rw [List.sum_cons, List.length_cons, Nat.succ_mul]
    omega
theorem max_dat {m : Bool} {x : Int} {xs : List Int} : biR m .max [RL (x :: xs)] S = .ok (RI (maxI (x :: xs))) S := by
  have e : itemsL S (RL (x :: xs)) = some (((x :: xs).map D.int).map R.dat) := rfl
  have e2 : intsR (((x :: xs).map D.int).map R.dat) = some (x :: xs) := by
    rw [List.map_map]
    exact intsR_map (x :: xs)
  show (match (itemsL S (RL (x :: xs))).bind intsR with
    | some (x :: xs) => Res.ok (R.dat (.int (maxI (x :: xs)))) S
    | _ => .stuck) = _
  rw [e, Option.bind_some, e2]
theorem ix_tup {l : List D} {k : Nat} {d : D} {S : Store} (h : l[k]? = some d) : ixR (.dat (.tup l)) (.dat (.int (k : Int))) S = .ok (.dat d) S := ix_nat h
theorem zip_at : ∀ {l l' : List D} {i : Nat} {x : Itm}, (zipI (l.map R.dat) (l'.map R.dat))[i]? = some x → ∃ a b, l[i]? = some a ∧ l'[i]? = some b ∧ x = .tup [.dat a, .dat b]
  | [], _, i, x, h => by cases h
  | _ :: _, [], i, x, h => by cases h
  | a :: l, b :: l', 0, x, h => by
    cases h
    exact ⟨a, b, rfl, rfl, rfl⟩
  | a :: l, b :: l', i + 1, x, h => zip_at (l := l) (l' := l') (i := i) h
theorem zip_len : ∀ {l l' : List D}, l.length = l'.length → (zipI (l.map R.dat) (l'.map R.dat)).length = l.length
  | [], _, _ => rfl
  | _ :: _, [], h => by cases h
  | a :: l, b :: l', h => congrArg Nat.succ (zip_len (l := l) (l' := l') (Nat.succ.inj h))
inductive Seq : D → List D → Prop
  | l (l : List D) : Seq (.lst l) l
  | t (l : List D) : Seq (.tup l) l
theorem Seq.walk {d : D} {l : List D} (h : Seq d l) : walkR (.dat d) S = .ok (l.map .dat) S := by cases h <;> rfl
theorem ii_zip {C : Calls} {ρ : MP.Env} {a b : IE} {p0 p : Pos} {x y : D} {l l' : List D} (h1 : evE C a ρ S = .ok (.dat x) S) (h2 : evE C b ρ S = .ok (.dat y) S) (hx : Seq x l) (hy : Seq y l') :
    evII C (.zip a b p0 p) ρ S = .ok (zipI (l.map R.dat) (l'.map R.dat), []) S := by
  show MP.M.bind (evE C a ρ) (fun x => MP.M.bind (evE C b ρ) fun y => MP.M.bind (walkR x) fun rs => MP.M.bind (walkR y) fun qs => fun S => .ok (zipI rs qs, guardR S x ++ guardR S y) S) S = _
  simp only [MP.M.bind, h1, h2, hx.walk, hy.walk]
  rfl
theorem lc_zip {C : Calls} {e a b : IE} {i j : Nat} {xn yn : Str} {px py p0 p1 p2 : Pos} {own : List (Str × Nat)} {sc : Scope} {p : Pos} {ρ : MP.Env} {x y : D} {l l' : List D} {G : Nat → D} {n : Nat} {q : Nat}
    (h1 : evE C a ρ S = .ok (.dat x) S) (h2 : evE C b ρ S = .ok (.dat y) S) (hx : Seq x l) (hy : Seq y l') (hn : l.length = n) (hn' : l'.length = n)
    (he : ∀ (k : Nat) d d', l[k]? = some d → l'[k]? = some d' → evE C e (((wipeE ρ (own.map (·.2))).set i (some (.dat d))).set j (some (.dat d'))) S = .ok (.dat (G k)) S) (hl : n ≤ 1000000) :
    evE C (.lc false e (.many [(i, xn, px), (j, yn, py)] q p0) (.zip a b p1 p2) .nil own sc p) ρ S = .ok (.dat (.lst ((List.range n).map G))) S :=
  lc_ix (ii_zip h1 h2 hx hy) gd_nil ((zip_len (hn.trans hn'.symm)).trans hn) (fun k z hz => by
    obtain ⟨d, d', e1, e2, e3⟩ := zip_at hz
    subst e3
    exact ⟨_, rfl, he k d d' e1 e2⟩) hl
theorem div_sm {k : Nat} {x y : Int} (h : Sm k x) (hy : 0 < y) : Sm k (x / y) := by
  show (x / y).natAbs < 2 ^ k
  have h1 : (x / y).natAbs ≤ x.natAbs := Int.natAbs_ediv_le_natAbs x y
  exact Nat.lt_of_le_of_lt h1 h
theorem tl_at {k : Nat} {d : D} (h : (rows.map TL)[k]? = some d) : k < rows.length ∧ d = TL (row rows k) := by
  rw [List.getElem?_map] at h
  cases e : rows[k]? with
  | none => rw [e] at h; cases h
  | some r =>
    rw [e] at h
    cases h
    exact ⟨(List.getElem?_eq_some_iff.mp e).1, by unfold row; rw [e]; rfl⟩
theorem in_at {a : List Int} {k : Nat} {d : D} (h : (a.map D.int)[k]? = some d) : k < a.length ∧ d = .int (el a k) := by
  rw [List.getElem?_map] at h
  cases e : a[k]? with
  | none => rw [e] at h; cases h
  | some r =>
    rw [e] at h
    cases h
    exact ⟨(List.getElem?_eq_some_iff.mp e).1, by unfold el; rw [e]; rfl⟩
theorem RM_map {m : Nat} {f : Nat → List Int} : RM ((List.range m).map f) = .dat (.lst ((List.range m).map fun r => IL (f r))) := by
  show R.dat (.lst (List.map IL (List.map f _))) = _
  rw [List.map_map]
  rfl
theorem RL_map {m : Nat} {f : Nat → Int} : IL ((List.range m).map f) = .lst ((List.range m).map fun r => D.int (f r)) := by
  show D.lst (List.map D.int (List.map f _)) = _
  rw [List.map_map]
  rfl
theorem sub_sm {a b : Nat} {x y : Int} (hx : Sm a x) (hy : Sm b y) : Sm (a + b + 1) (x - y) := by
  have h1 : x.natAbs < 2 ^ a := hx
  have h2 : y.natAbs < 2 ^ b := hy
  have h3 : 2 ^ a ≤ 2 ^ (a + b) := Nat.pow_le_pow_right (by decide) (by omega)
  have h4 : 2 ^ b ≤ 2 ^ (a + b) := Nat.pow_le_pow_right (by decide) (by omega)
  show (x - y).natAbs < 2 ^ (a + b + 1)
  rw [Nat.pow_succ]
  omega
theorem bls_map : ∀ bs : List Bool, blsR ((bs.map D.bl).map R.dat) = some bs
  | [] => rfl
  | b :: bs => by
    show (blsR ((bs.map D.bl).map R.dat)).map (b :: ·) = _
    rw [bls_map bs]
    rfl
theorem all_dat {m : Bool} {bs : List Bool} : biR m .all [.dat (.lst (bs.map D.bl))] S = .ok (.dat (.bl (bs.all id))) S := by
  have e : itemsL S (.dat (.lst (bs.map D.bl))) = some ((bs.map D.bl).map R.dat) := rfl
  show (match (itemsL S (.dat (.lst (bs.map D.bl)))).bind blsR with
    | some xs => Res.ok (R.dat (.bl (xs.all id))) S
    | none => .stuck) = _
  rw [e]
  show (match blsR ((bs.map D.bl).map R.dat) with
    | some xs => Res.ok (R.dat (.bl (xs.all id))) S
    | none => .stuck) = _
  rw [bls_map]
theorem il_at {k : Nat} {d : R} (h : ((rows.map IL).map R.dat)[k]? = some d) : k < rows.length ∧ d = RL (row rows k) := by
  rw [List.getElem?_map, List.getElem?_map] at h
  cases e : rows[k]? with
  | none => rw [e] at h; cases h
  | some r =>
    rw [e] at h
    cases h
    exact ⟨(List.getElem?_eq_some_iff.mp e).1, by unfold row; rw [e]; rfl⟩
theorem one_at {l : List R} {k : Nat} {x : Itm} (h : (l.map Itm.one)[k]? = some x) : ∃ r, l[k]? = some r ∧ x = .one r := by
  rw [List.getElem?_map] at h
  cases e : l[k]? with
  | none => rw [e] at h; cases h
  | some r =>
    rw [e] at h
    cases h
    exact ⟨r, rfl, rfl⟩
theorem rin_at {a : List Int} {k : Nat} {d : R} (h : ((a.map D.int).map R.dat)[k]? = some d) : k < a.length ∧ d = RI (el a k) := by
  rw [List.getElem?_map] at h
  cases e : (a.map D.int)[k]? with
  | none => rw [e] at h; cases h
  | some r =>
    rw [e] at h
    cases h
    obtain ⟨h1, h2⟩ := in_at e
    exact ⟨h1, by rw [h2]⟩
theorem enum_at : ∀ {l : List R} {m i : Nat} {x : Itm}, (enumI m l)[i]? = some x → ∃ r, l[i]? = some r ∧ x = .tup [RI ((m + i : Nat) : Int), r]
  | [], m, i, x, h => by cases h
  | a :: l, m, 0, x, h => by
    cases h
    exact ⟨a, rfl, rfl⟩
  | a :: l, m, i + 1, x, h => by
    obtain ⟨r, h1, h2⟩ := enum_at (l := l) (m := m + 1) (i := i) h
    exact ⟨r, h1, by rw [h2, show m + 1 + i = m + (i + 1) by omega]⟩
theorem ii_enum {C : Calls} {ρ : MP.Env} {a : IE} {p0 p : Pos} {l : List D} (h : evE C a ρ S = .ok (.dat (.lst l)) S) : evII C (.enum a p0 p) ρ S = .ok (enumI 0 (l.map R.dat), []) S := by
  show MP.M.bind (evE C a ρ) _ S = _
  simp only [MP.M.bind, h]
  rfl
theorem for_same {C : CallsX} {t : IT} {it : II} {b : ISs} {p : Pos} {xs : List Itm} {ρ : MP.Env} (Pv : MP.Env → Prop) (hi : evII C.toCalls it ρ S = .ok (xs, []) S) (h0 : Pv ρ)
    (hs : ∀ (i : Nat) x ρ, xs[i]? = some x → Pv ρ → ∃ ρ1, bindT t x ρ S = some ρ1 ∧ ∃ ρ2, evSs C b ρ1 S = .go .next ρ2 S ∧ Pv ρ2) : ∃ ρ', evS C (.for_ t it b p) ρ S = .go .next ρ' S ∧ Pv ρ' := by
  obtain ⟨ρ', S', h1, h2, h3⟩ := for_ind (t := t) (g := []) (b := fun ρ' S' => evSs C b ρ' S') (fun _ ρ S' => S' = S ∧ Pv ρ) xs 0 ρ S ⟨rfl, h0⟩ (fun _ _ _ _ => gd_nil) (fun i x ρ S1 hx ⟨e1, e2⟩ => by
    subst e1
    obtain ⟨ρ1, h1, ρ2, h2, h3⟩ := hs i x ρ hx e2
    exact ⟨ρ1, h1, ρ2, S1, h2, rfl, h3⟩)
  subst h2
  exact ⟨ρ', by rw [r_for hi]; exact h1, h3⟩
theorem loop_ex {t : IT} {g : Gd} {c : MP.Env → MP.M Bool} {e : MP.Env → MP.M (List R)} {ρ0 : MP.Env} {B : Nat} (hg : gdOk S g = true) : ∀ {xs : List Itm}, (∀ (i : Nat) x, xs[i]? = some x → ∃ ρ', bindT t x ρ0 S = some ρ' ∧ ∃ b, c ρ' S = .ok b S ∧ (b = true → ∃ ds : List D, ds.length ≤ B ∧ e ρ' S = .ok (ds.map R.dat) S)) →
    ∃ ds : List D, ds.length ≤ B * xs.length ∧ lcLoop g (lcTurn t g c e ρ0) xs S = .ok (ds.map R.dat) S
  | [], _ => ⟨[], Nat.zero_le _, by
    show (if gdOk S g = true then _ else _) = _
    rw [if_pos hg]
    rfl⟩
  | x :: xs, h => by
    obtain ⟨ρ', h1, b, h2, h3⟩ := h 0 x rfl
    obtain ⟨ds2, g1, g2⟩ := loop_ex (e := e) (B := B) hg (xs := xs) fun i y hy => h (i + 1) y hy
    have e1 : ∃ ds : List D, ds.length ≤ B ∧ lcTurn t g c e ρ0 x S = .ok (ds.map R.dat) S := by
      unfold lcTurn
      rw [if_pos hg]
      simp only [h1]
      unfold M.noX
      rw [bind_at h2]
      cases b with
      | false => exact ⟨[], Nat.zero_le _, rfl⟩
      | true =>
        obtain ⟨ds, k1, k2⟩ := h3 rfl
        exact ⟨ds, k1, by simp only [if_pos, k2]⟩
    obtain ⟨ds1, k1, k2⟩ := e1
    refine ⟨ds1 ++ ds2, by rw [List.length_append, List.length_cons, Nat.mul_succ]; omega, ?_⟩
    show MP.M.bind (lcTurn t g c e ρ0 x) (fun a => MP.M.bind (lcLoop g (lcTurn t g c e ρ0) xs) fun b => MP.M.pure (a ++ b)) S = _
    rw [bind_at k2, bind_at g2, List.map_append]
    rfl
theorem enum_len : ∀ (l : List R) m, (enumI m l).length = l.length
  | [], _ => rfl
  | a :: l, m => congrArg Nat.succ (enum_len l (m + 1))
theorem lc2_ex {C : Calls} {e : IE} {t t2 : IT} {it it2 : II} {cs2 : IEs} {own : List (Str × Nat)} {vs2 : List Nat} {sc : Scope} {p : Pos} {ρ : MP.Env} {xs : List Itm} {g : Gd} {B : Nat} (hi : evII C it ρ S = .ok (xs, g) S) (hg : gdOk S g = true)
    (hx : ∀ (i : Nat) x, xs[i]? = some x → ∃ ρ', bindT t x (wipeE ρ (own.map (·.2))) S = some ρ' ∧ ∃ xs2 g2, evII C it2 ρ' S = .ok (xs2, g2) S ∧ gdOk S g2 = true ∧ xs2.length ≤ B ∧
      ∀ (j : Nat) y, xs2[j]? = some y → ∃ ρ2, bindT t2 y (wipeE ρ' vs2) S = some ρ2 ∧ ∃ b, evTs C cs2 ρ2 S = .ok b S ∧ (b = true → ∃ d, evE C e ρ2 S = .ok (.dat d) S)) (hB : B * xs.length ≤ 1000000) :
    ∃ ds : List D, evE C (.lc2 false e t it .nil t2 it2 cs2 own vs2 sc p) ρ S = .ok (.dat (.lst ds)) S := by
  obtain ⟨ds, h1, h2⟩ := loop_ex (S := S) (g := g) (t := t) (c := fun ρ' => evTs C .nil ρ') (e := fun ρ' => MP.M.bind (evII C it2 ρ') fun q2 => lcLoop q2.2 (lcTurn t2 q2.2 (fun ρ2 => evTs C cs2 ρ2) (fun ρ2 => MP.M.bind (evE C e ρ2) fun r => MP.M.pure [r]) (wipeE ρ' vs2)) q2.1) (ρ0 := wipeE ρ (own.map (·.2))) (B := B) hg (xs := xs) (fun i x h => by
    obtain ⟨ρ', h1, xs2, g2, h2, h3, h4, h5⟩ := hx i x h
    refine ⟨ρ', h1, true, rfl, fun _ => ?_⟩
    obtain ⟨ds, k1, k2⟩ := loop_ex (S := S) (g := g2) (t := t2) (c := fun ρ2 => evTs C cs2 ρ2) (e := fun ρ2 => MP.M.bind (evE C e ρ2) fun r => MP.M.pure [r]) (ρ0 := wipeE ρ' vs2) (B := 1) h3 (xs := xs2) (fun j y hy => by
      obtain ⟨ρ2, l1, b, l2, l3⟩ := h5 j y hy
      refine ⟨ρ2, l1, b, l2, fun hb => ?_⟩
      obtain ⟨d, l4⟩ := l3 hb
      exact ⟨[d], Nat.le_refl _, by rw [bind_at l4]; rfl⟩)
    exact ⟨ds, by omega, by rw [bind_at h2]; exact k2⟩)
  refine ⟨ds, ?_⟩
  show MP.M.bind (evII C it ρ) (fun q => MP.M.bind (lcLoop q.2 (lcTurn t q.2 (fun ρ' => evTs C .nil ρ') (fun ρ' => MP.M.bind (evII C it2 ρ') fun q2 =>
        lcLoop q2.2 (lcTurn t2 q2.2 (fun ρ2 => evTs C cs2 ρ2) (fun ρ2 => MP.M.bind (evE C e ρ2) fun r => MP.M.pure [r]) (wipeE ρ' vs2)) q2.1) (wipeE ρ (own.map (·.2)))) q.1) (lcOut false)) S = _
  rw [bind_at hi, bind_at h2]
  unfold lcOut
  rw [if_pos (show small (ds.map R.dat).length = true by rw [List.length_map]; exact decide_eq_true (by omega))]
  unfold mkL
  rw [datsR_map]
theorem set_last {c c' : Cell} : (S ++ [c]).set S.length c' = S ++ [c'] := by
  rw [List.set_append_right _ _ (Nat.le_refl _), Nat.sub_self]
  rfl
theorem get_last {c : Cell} : (S ++ [c])[S.length]? = some c := by simp
theorem map_row {α : Type} (f : List Int → α) : rows.map f = (List.range rows.length).map fun k => f (row rows k) := by
  refine List.ext_getElem (by simp) fun i h1 h2 => ?_
  have h3 : i < rows.length := by rw [List.length_map] at h1; exact h1
  simp [row, List.getElem?_eq_getElem h3]
theorem tup_dat {m : Bool} {l : List D} : biR m .tuple [.dat (.lst l)] S = .ok (.dat (.tup l)) S := by
  have e : biR m .tuple [.dat (.lst l)] S = mkT (l.map R.dat) S := rfl
  rw [e]
  unfold mkT
  rw [datsR_map]
theorem bi1 {C : Calls} {m : Bool} {f : Bf} {a : IE} {p1 p2 : Pos} {ρ : MP.Env} {r r' : R} (h : evE C a ρ S = .ok r S) (h2 : biR m f [r] S = .ok r' S) : evE C (.bi m f a .nil p1 p2) ρ S = .ok r' S := by
  show MP.M.bind (evE C a ρ) (fun x => MP.M.bind (evEs C .nil ρ) fun xs => biR m f (x :: xs)) S = _
  rw [bind_at h]
  exact h2
theorem sum_tup {m : Bool} {ns : List Int} : biR m .sum [.dat (TL ns)] S = .ok (RI ns.sum) S := sum_dat (m := m) (ns := ns) (S := S)
def lcmI (w d : Int) : Int := (Nat.lcm w.natAbs d.natAbs : Nat)
theorem lcm_sm {a b : Nat} {w d : Int} (hw : Sm a w) (hd : Sm b d) : Sm (a + b) (lcmI w d) := by
  show (Nat.lcm w.natAbs d.natAbs) < 2 ^ (a + b)
  have h1 : Nat.lcm w.natAbs d.natAbs ≤ w.natAbs * d.natAbs := Nat.div_le_self _ _
  rw [Nat.pow_add]
  exact Nat.lt_of_le_of_lt h1 (Nat.mul_lt_mul'' hw hd)
theorem lcm_run {w d : Int} (hw : w.natAbs.log2 < 9000) (hd : d.natAbs.log2 < 9000) : gcdR true (RI w) (RI d) S = .ok (RI (lcmI w d)) S := by
  show (if true = true then (if decide (w.natAbs.log2 < 9000 ∧ d.natAbs.log2 < 9000) = true then Res.ok (R.dat (.int (Nat.lcm w.natAbs d.natAbs))) S else .stuck) else Res.ok (R.dat (.int (Nat.gcd w.natAbs d.natAbs))) S) = _
  rw [if_pos rfl, if_pos (decide_eq_true ⟨hw, hd⟩)]
  rfl
abbrev pool (ns : List Int) : Cell := .lst ((ns.map D.int).map R.dat)
theorem wf_set {S : Store} {k : Nat} {c : Cell} (h : WF S) (hc : c.below S.length = true) : WF (S.set k c) := by
  show (S.set k c).all (Cell.below (S.set k c).length) = true
  rw [List.length_set, List.all_eq_true]
  intro x hx
  rcases List.mem_or_eq_of_mem_set hx with h1 | h1
  · exact List.all_eq_true.mp h x h1
  · rw [h1]
    exact hc
theorem pys_map : ∀ ns : List Int, pys (ns.map D.int) = some (ns.map PyData.int)
  | [] => rfl
  | i :: ns => by
    show (match some (PyData.int i), pys (ns.map D.int) with
    | some x, some xs => some (x :: xs)
    | _, _ => none) = _
    rw [pys_map ns]
    rfl
theorem eq_pool {k : Nat} {ns : List Int} (hS : S[k]? = some (pool ns)) (hsh : SeqAt.shaped (.list (ns.map PyData.int)) = true) : eqD S (.own k) (.dat (.lst [])) = some ns.isEmpty := by
  have e1 : toD 0 S 8 (.own k) = some (.lst (ns.map D.int)) := by
    rw [toD_lst hS (Nat.zero_le _), allD_dat]
    rfl
  have e2 : toD 0 S 8 (.dat (.lst [])) = some (.lst []) := rfl
  have e3 : py (.lst (ns.map D.int)) = some (.list (ns.map PyData.int)) := by
    show (pys (ns.map D.int)).map PyData.list = _
    rw [pys_map]
    rfl
  have e4 : py (.lst []) = some (.list []) := rfl
  show (match toD 0 S 8 (.own k), toD 0 S 8 (.dat (.lst [])) with
    | some d, some e => (match py d, py e with
      | some x, some y => if SeqAt.shaped x = true ∧ SeqAt.shaped y = true then some (PyData.eqv x y) else none
      | _, _ => none)
    | _, _ => none) = _
  rw [e1, e2]
  show (match py (.lst (ns.map D.int)), py (.lst []) with
      | some x, some y => if SeqAt.shaped x = true ∧ SeqAt.shaped y = true then some (PyData.eqv x y) else none
      | _, _ => none) = _
  rw [e3, e4]
  show (if SeqAt.shaped (.list (ns.map PyData.int)) = true ∧ SeqAt.shaped (.list []) = true then some (PyData.eqv (.list (ns.map PyData.int)) (.list [])) else none) = _
  rw [if_pos ⟨hsh, by decide⟩]
  cases ns <;> rfl
theorem lay_ints : ∀ ns : List Int, PyData.canLayAll0 (ns.map PyData.int) = true
  | [] => by simp [PyData.canLayAll0]
  | i :: ns => by simp [PyData.canLayAll0, PyData.canLay0, lay_ints ns]
theorem dep_ints : ∀ ns : List Int, PyData.depthAll (ns.map PyData.int) ≤ 2
  | [] => by simp [PyData.depthAll]
  | i :: ns => by
    have := dep_ints ns
    simp [PyData.depthAll, PyData.depth] <;> omega
theorem sh_ints (ns : List Int) : SeqAt.shaped (.list (ns.map PyData.int)) = true := by
  unfold SeqAt.shaped
  have h1 := lay_ints ns
  have h2 := dep_ints ns
  rw [Bool.and_eq_true, decide_eq_true_iff]
  refine ⟨by simp [PyData.canLay0, h1], ?_⟩
  simp only [PyData.depth]
  omega
def ownsR (b m : Nat) : List R := (List.range m).map fun i => R.own (b + i)
theorem loop_new {t : IT} {c : MP.Env → MP.M Bool} {e : MP.Env → MP.M (List R)} {ρ0 : MP.Env} {cell : Cell} : ∀ {xs : List Itm} {S : Store}, (∀ x ∈ xs, ∀ S, ∃ ρ', bindT t x ρ0 S = some ρ' ∧ c ρ' S = .ok true S ∧ e ρ' S = .ok [.own S.length] (S ++ [cell])) →
    lcLoop [] (lcTurn t [] c e ρ0) xs S = .ok (ownsR S.length xs.length) (S ++ List.replicate xs.length cell)
  | [], S, _ => by
    show (if gdOk S [] = true then Res.ok [] S else .stuck) = _
    rw [if_pos gd_nil]
    simp [ownsR]
  | x :: xs, S, h => by
    obtain ⟨ρ', h1, h2, h3⟩ := h x List.mem_cons_self S
    have e1 : lcTurn t [] c e ρ0 x S = .ok [.own S.length] (S ++ [cell]) := by
      unfold lcTurn
      rw [if_pos gd_nil]
      simp only [h1]
      unfold M.noX
      rw [bind_at h2]
      simp only [if_pos, h3]
    have ih := loop_new (t := t) (c := c) (e := e) (ρ0 := ρ0) (cell := cell) (xs := xs) (S := S ++ [cell]) fun y hy => h y (List.mem_cons_of_mem _ hy)
    show MP.M.bind (lcTurn t [] c e ρ0 x) (fun a => MP.M.bind (lcLoop [] (lcTurn t [] c e ρ0) xs) fun b => MP.M.pure (a ++ b)) S = _
    rw [bind_at e1, bind_at ih]
    have e2 : [R.own S.length] ++ ownsR (S ++ [cell]).length xs.length = ownsR S.length (xs.length + 1) := by
      unfold ownsR
      rw [List.range_succ_eq_map, List.map_cons, List.map_map]
      simp [Function.comp_def, Nat.add_assoc, Nat.add_comm 1]
    show Res.ok ([R.own S.length] ++ ownsR (S ++ [cell]).length xs.length) _ = _
    rw [e2]
    simp [List.replicate_succ]
def stM (S : Store) (M : List (List Int)) : Store := S ++ (M.map pool ++ [Cell.lst (ownsR S.length M.length)])
theorem rng_lenN (lo : Int) (m : Nat) : (rngI lo m).length = m := by rw [rng_eq, List.length_map, List.length_range]
theorem stM_len : (stM S M).length = S.length + M.length + 1 := by
  unfold stM
  rw [List.length_append, List.length_append, List.length_map]
  simp only [List.length_cons, List.length_nil]
  omega
theorem stM_outer : (stM S M)[S.length + M.length]? = some (.lst (ownsR S.length M.length)) := by
  unfold stM
  rw [List.getElem?_append_right (by omega), List.getElem?_append_right (by rw [List.length_map]; omega), List.length_map]
  simp
theorem stM_row {i : Nat} (h : i < M.length) : (stM S M)[S.length + i]? = some (pool (row M i)) := by
  unfold stM row
  rw [List.getElem?_append_right (by omega), List.getElem?_append_left (by rw [List.length_map]; omega)]
  rw [show S.length + i - S.length = i by omega, List.getElem?_map, List.getElem?_eq_getElem h]
  rfl
theorem stM_low {i : Nat} (h : i < S.length) : (stM S M)[i]? = S[i]? := by
  unfold stM
  rw [List.getElem?_append_left h]
theorem stM_set {i : Nat} {r : List Int} (h : i < M.length) : (stM S M).set (S.length + i) (pool r) = stM S (M.set i r) := by
  unfold stM
  rw [List.set_append_right _ _ (by omega), show S.length + i - S.length = i by omega, List.set_append_left _ _ (by rw [List.length_map]; exact h), List.length_set, List.map_set]
theorem stM_setlow {i : Nat} {c : Cell} (h : i < S.length) : (stM S M).set i c = stM (S.set i c) M := by
  unfold stM
  rw [List.set_append_left _ _ h, List.length_set]
theorem stM_wf (h : WF S) : WF (stM S M) := by
  show (stM S M).all (Cell.below (stM S M).length) = true
  rw [stM_len, List.all_eq_true]
  intro x hx
  unfold stM at hx
  rcases List.mem_append.mp hx with h1 | h1
  · exact Cell.below_mono (by omega) (List.all_eq_true.mp h x h1)
  · rcases List.mem_append.mp h1 with h2 | h2
    · obtain ⟨r, _, rfl⟩ := List.mem_map.mp h2
      exact below_dats _
    · cases List.mem_singleton.mp h2
      refine List.all_eq_true.mpr fun r hr => ?_
      obtain ⟨i, hi, rfl⟩ := List.mem_map.mp hr
      have := List.mem_range.mp hi
      exact decide_eq_true (by omega)
def put (M : List (List Int)) (i j : Nat) (w : Int) : List (List Int) := M.set i ((row M i).set j w)
theorem put_len {i j : Nat} {w : Int} : (put M i j w).length = M.length := by unfold put; rw [List.length_set]
theorem ix_outer {i : Nat} (h : i < M.length) : ixR (.own (S.length + M.length)) (RI (i : Int)) (stM S M) = .ok (.own (S.length + i)) (stM S M) :=
  ix_own stM_outer (by unfold ownsR; rw [List.getElem?_map, List.getElem?_range h]; rfl)
theorem set_cell {i j : Nat} {w : Int} (h : i < M.length) (hj : j < (row M i).length) : setIxR (.own (S.length + i)) (RI (j : Int)) (RI w) (stM S M) = .ok () (stM S (put M i j w)) := by
  have h1 := stM_row (S := S) h
  have h2 : ixN (((row M i).map D.int).map R.dat).length (j : Int) = some j := by
    rw [List.length_map, List.length_map]
    unfold ixN
    have a1 : ¬ (j : Int) < 0 := by omega
    simp [a1, hj]
  show (match (stM S M)[S.length + i]? with
    | some (.lst rs) => (match ixN rs.length (j : Int) with
      | some k => Res.ok () ((stM S M).set (S.length + i) (.lst (rs.set k (RI w))))
      | none => .stuck)
    | _ => .stuck) = _
  rw [h1]
  simp only [h2]
  have e : (((row M i).map D.int).map R.dat).set j (RI w) = (((row M i).set j w).map D.int).map R.dat := by
    rw [List.map_set, List.map_set]
  rw [e]
  exact congrArg _ (stM_set h)
theorem row_put {i j a : Nat} {w : Int} (hi : i < M.length) : row (put M i j w) a = if a = i then (row M i).set j w else row M a := by
  unfold put
  by_cases h : a = i
  · subst h
    rw [if_pos rfl]
    show (M.set a ((row M a).set j w))[a]?.getD [] = _
    rw [List.getElem?_set_self hi]
    rfl
  · rw [if_neg h]
    show (M.set i ((row M i).set j w))[a]?.getD [] = M[a]?.getD []
    rw [List.getElem?_set_ne (fun e => h e.symm)]
theorem el_set {a : List Int} {j b : Nat} {w : Int} (hj : j < a.length) : el (a.set j w) b = if b = j then w else el a b := by
  unfold el
  by_cases h : b = j
  · subst h
    rw [if_pos rfl, List.getElem?_set_self hj]
    rfl
  · rw [if_neg h, List.getElem?_set_ne (fun e => h e.symm)]
def ent (M : List (List Int)) (a b : Nat) : Int := el (row M a) b
theorem ent_put {i j a b : Nat} {w : Int} (hi : i < M.length) (hj : j < (row M i).length) : ent (put M i j w) a b = if a = i ∧ b = j then w else ent M a b := by
  unfold ent
  rw [row_put hi]
  by_cases h : a = i
  · subst h
    rw [if_pos rfl, el_set hj]
    by_cases h2 : b = j
    · rw [if_pos h2, if_pos ⟨rfl, h2⟩]
    · rw [if_neg h2, if_neg fun z => h2 z.2]
  · rw [if_neg h, if_neg fun z => h z.1]
structure Sq (m : Nat) (B : Int) (M : List (List Int)) : Prop where
  len : M.length = m
  row : ∀ i, i < m → (DL.row M i).length = m
  pos : ∀ i j, i < m → j < m → 0 ≤ ent M i j ∧ ent M i j ≤ B
  sym : ∀ i j, i < m → j < m → ent M i j = ent M j i
def put2 (M : List (List Int)) (i j : Nat) (w : Int) : List (List Int) := put (put M i j w) j i w
theorem Sq.lenput (g : Sq m B M) {i j : Nat} {w : Int} (hi : i < m) {a : Nat} (ha : a < m) : (DL.row (put M i j w) a).length = m := by
  rw [row_put (by rw [g.len]; exact hi)]
  split
  · rw [List.length_set]
    exact g.row i hi
  · exact g.row a ha
theorem Sq.ent2 (g : Sq m B M) {i j : Nat} {w : Int} (hi : i < m) (hj : j < m) (a b : Nat) : ent (put2 M i j w) a b = if (a = i ∧ b = j) ∨ (a = j ∧ b = i) then w else ent M a b := by
  unfold put2
  rw [ent_put (by rw [put_len, g.len]; exact hj) (by rw [g.lenput hi hj]; exact hi), ent_put (by rw [g.len]; exact hi) (by rw [g.row i hi]; exact hj)]
  by_cases h1 : a = j ∧ b = i
  · rw [if_pos h1, if_pos (Or.inr h1)]
  · rw [if_neg h1]
    by_cases h2 : a = i ∧ b = j
    · rw [if_pos h2, if_pos (Or.inl h2)]
    · rw [if_neg h2, if_neg fun z => z.elim h2 h1]
theorem Sq.put2 (g : Sq m B M) {i j : Nat} {w : Int} (hi : i < m) (hj : j < m) (h0 : 0 ≤ w) (h1 : w ≤ B) : Sq m B (put2 M i j w) := by
  refine ⟨by unfold DL.put2; rw [put_len, put_len]; exact g.len, fun a ha => ?_, fun a b ha hb => ?_, fun a b ha hb => ?_⟩
  · unfold DL.put2
    rw [row_put (by rw [put_len, g.len]; exact hj)]
    split
    · rw [List.length_set]
      exact g.lenput hi hj
    · exact g.lenput hi ha
  · rw [g.ent2 hi hj]
    split
    · exact ⟨h0, h1⟩
    · exact g.pos a b ha hb
  · rw [g.ent2 hi hj, g.ent2 hi hj]
    have sw : ∀ {x y : Nat}, (x = i ∧ y = j) ∨ (x = j ∧ y = i) → (y = i ∧ x = j) ∨ (y = j ∧ x = i) := fun z => z.elim (fun z => .inr ⟨z.2, z.1⟩) fun z => .inl ⟨z.2, z.1⟩
    by_cases h : (a = i ∧ b = j) ∨ (a = j ∧ b = i)
    · rw [if_pos h, if_pos (sw h)]
    · rw [if_neg h, if_neg fun z => h (sw z)]
      exact g.sym a b ha hb
theorem p_eq {C : CallsX} {r : ISs} {ρ : MP.Env} {x : SRes} {P : SRes → Prop} (h : evSs C r ρ S = x) (k : P x) : P (evSs C r ρ S) := by
  rw [h]
  exact k
theorem r_put {C : CallsX} {ρ : MP.Env} {ns : List Int} {a b : IE} {e : IE} {p1 p2 : Pos} {i j : Nat} {w : Int} (hn : M.length = m) (hr : ∀ S, evE C.toCalls a ρ S = ixR (.own (1 + m)) (RI (i : Int)) S) (hb : ∀ S, evE C.toCalls b ρ S = .ok (RI (j : Int)) S) (he : ∀ S, evE C.toCalls e ρ S = .ok (RI w) S)
    (hi : i < M.length) (hj : j < (row M i).length) : evS C (.setIx a b e p1 p2) ρ (stM [pool ns] M) = .go .next ρ (stM [pool ns] (put M i j w)) := by
  have h1 := ix_outer (S := [pool ns]) hi
  have h2 := set_cell (S := [pool ns]) (w := w) hi hj
  have h3 : [pool ns].length = 1 := rfl
  rw [h3, hn] at h1
  rw [h3] at h2
  show SRes.of ρ (MP.M.bind (evE C.toCalls e ρ) (fun v => MP.M.bind (evE C.toCalls a ρ) fun x => MP.M.bind (evE C.toCalls b ρ) fun y => setIxR x y v) (stM [pool ns] M)) _ = _
  rw [bind_at (he _), bind_at ((hr _).trans h1), bind_at (hb _), h2]
  rfl
theorem wf_pool (ns : List Int) : WF [pool ns] := wf_push (S := []) wf_nil (below_dats _)
theorem ii_rng2 {C : Calls} {ρ : MP.Env} {a b : IE} {p0 p : Pos} {i m : Nat} (ha : evE C a ρ S = .ok (RI (i : Int)) S) (hb : evE C b ρ S = .ok (RI (m : Int)) S) (hi : i ≤ 1000000) (hm : m ≤ 1000000) : evII C (.rng2 a b p0 p) ρ S = .ok (rngI i (m - i), []) S := by
  show MP.M.bind (evE C a ρ) _ S = _
  rw [bind_at ha, bind_at hb]
  show (if rngOk (i : Int) = true ∧ rngOk (m : Int) = true then MP.M.pure (rngI (i : Int) ((m : Int) - (i : Int)).toNat, ([] : Gd)) else MP.M.stuck) S = _
  have e1 : rngOk (i : Int) = true := decide_eq_true ⟨by omega, by omega⟩
  have e2 : rngOk (m : Int) = true := decide_eq_true ⟨by omega, by omega⟩
  rw [if_pos ⟨e1, e2⟩, show ((m : Int) - (i : Int)).toNat = m - i by omega]
  rfl
theorem sum_nn : ∀ (l : List Int), (∀ x ∈ l, 0 ≤ x) → 0 ≤ l.sum
  | [], _ => Int.le_refl _
  | x :: l, h => by
    rw [List.sum_cons]
    have h1 := h x List.mem_cons_self
    have h2 := sum_nn l fun y hy => h y (List.mem_cons_of_mem _ hy)
    omega
theorem sum_ge : ∀ (l : List Int) (x : Int), (∀ x ∈ l, 0 ≤ x) → x ∈ l → x ≤ l.sum
  | y :: l, x, h, hx => by
    rw [List.sum_cons]
    have h1 := h y List.mem_cons_self
    have h2 := sum_nn l fun y hy => h y (List.mem_cons_of_mem _ hy)
    rcases List.mem_cons.mp hx with rfl | hx
    · omega
    · have := sum_ge l x (fun y hy => h y (List.mem_cons_of_mem _ hy)) hx
      omega
theorem mem_el {a : List Int} {x : Int} (h : x ∈ a) : ∃ k, k < a.length ∧ x = el a k := by
  obtain ⟨k, hk, e⟩ := List.mem_iff_getElem.mp h
  refine ⟨k, hk, ?_⟩
  unfold el
  rw [List.getElem?_eq_getElem hk, ← e]
  rfl
theorem Sq.nn (g : Sq m B M) {a : Nat} (ha : a < m) : ∀ x ∈ DL.row M a, 0 ≤ x := fun x hx => by
  obtain ⟨k, hk, rfl⟩ := mem_el hx
  rw [g.row a ha] at hk
  exact (g.pos a k ha hk).1
theorem Sq.pos_of (g : Sq m B M) {a b : Nat} (ha : a < m) (hb : b < m) (h : 0 < ent M a b) : 0 < (DL.row M a).sum := by
  have := sum_ge (DL.row M a) (ent M a b) (g.nn ha) (el_mem (by rw [g.row a ha]; exact hb))
  omega
theorem Sq.put2_row (g : Sq m B M) {i j a : Nat} {w : Int} (hi : i < m) (hj : j < m) (h1 : a ≠ i) (h2 : a ≠ j) : DL.row (DL.put2 M i j w) a = DL.row M a := by
  unfold DL.put2
  rw [row_put (by rw [put_len, g.len]; exact hj), if_neg h2, row_put (by rw [g.len]; exact hi), if_neg h1]
theorem sum_own {b : Bool} {k : Nat} {ns : List Int} (h : S[k]? = some (pool ns)) : biR b .sum [.own k] S = .ok (RI ns.sum) S := by
  have e : itemsR S (.own k) = some ((ns.map D.int).map R.dat) := by
    unfold itemsR
    simp only [h]
  show (match (itemsR S (.own k)).bind intsR with
    | some xs => Res.ok (R.dat (.int xs.sum)) S
    | none => .stuck) = _
  rw [e, List.map_map]
  have e2 : (ns.map (R.dat ∘ D.int)) = ns.map fun i => R.dat (.int i) := rfl
  rw [e2, Option.bind_some, intsR_map]
theorem allD_map {f : R → Option D} {g : Nat → R} {h : Nat → D} : ∀ k, (∀ i, i < k → f (g i) = some (h i)) → allD f ((List.range k).map g) = some ((List.range k).map h) := by
  have gen : ∀ l : List Nat, (∀ i ∈ l, f (g i) = some (h i)) → allD f (l.map g) = some (l.map h) := fun l => by
    induction l with
    | nil => intro _; rfl
    | cons i l ih =>
      intro H
      show (match f (g i), allD f (l.map g) with
        | some d, some ds => some (d :: ds)
        | _, _ => none) = _
      rw [H i List.mem_cons_self, ih fun j hj => H j (List.mem_cons_of_mem _ hj)]
      rfl
  exact fun k H => gen _ fun i hi => H i (List.mem_range.mp hi)
theorem toD_rows {ns : List Int} : toD 1 (stM [pool ns] M) 8 (.own (1 + M.length)) = some (.lst (M.map IL)) := by
  have h1 := stM_outer (S := [pool ns]) (M := M)
  have h3 : [pool ns].length = 1 := rfl
  rw [h3] at h1
  rw [toD_lst h1 (by omega)]
  unfold ownsR
  rw [allD_map (h := fun i => IL (row M i)) M.length fun i hi => by
    have h2 := stM_row (S := [pool ns]) hi
    rw [h3] at h2
    rw [toD_lst h2 (by omega), allD_dat]
    rfl]
  rw [map_row]
  rfl
theorem sq_zero (hB : 0 ≤ B) : Sq m B (List.replicate m (List.replicate m 0)) := by
  have hr : ∀ i, i < m → row (List.replicate m (List.replicate m (0 : Int))) i = List.replicate m 0 := fun i hi => by
    unfold row
    rw [List.getElem?_replicate, if_pos hi]
    rfl
  have he : ∀ i j, i < m → j < m → ent (List.replicate m (List.replicate m (0 : Int))) i j = 0 := fun i j hi hj => by
    unfold ent
    rw [hr i hi]
    unfold el
    rw [List.getElem?_replicate, if_pos hj]
    rfl
  refine ⟨List.length_replicate, fun i hi => by rw [hr i hi, List.length_replicate], fun i j hi hj => by rw [he i j hi hj]; exact ⟨Int.le_refl _, hB⟩, fun i j hi hj => by rw [he i j hi hj, he j i hj hi]⟩
theorem mem_row {r : List Int} (h : r ∈ rows) : ∃ i, i < rows.length ∧ r = row rows i := by
  obtain ⟨i, hi, e⟩ := List.mem_iff_getElem.mp h
  refine ⟨i, hi, ?_⟩
  unfold row
  rw [List.getElem?_eq_getElem hi, ← e]
  rfl
theorem sm_of {k : Nat} {x b : Int} (h0 : 0 ≤ x) (h1 : x ≤ b) (h2 : b.natAbs < 2 ^ k) : Sm k x := by
  show x.natAbs < 2 ^ k
  omega
theorem sum_le : ∀ {l : List Int} {b : Int}, (∀ x ∈ l, x ≤ b) → l.sum ≤ l.length * b
  | [], b, _ => by simp
  | x :: l, b, h => by
    rw [List.sum_cons, List.length_cons, Int.natCast_add, Int.add_mul]
    have h1 := h x List.mem_cons_self
    have h2 := sum_le (l := l) (b := b) fun y hy => h y (List.mem_cons_of_mem _ hy)
    have : ((1 : Nat) : Int) * b = b := Int.one_mul b
    omega
theorem map_el {α : Type} {a : List Int} (f : Int → α) : a.map f = (List.range a.length).map fun k => f (el a k) := by
  refine List.ext_getElem (by simp) fun i h1 h2 => ?_
  have h3 : i < a.length := by rw [List.length_map] at h1; exact h1
  simp [el, List.getElem?_eq_getElem h3]
theorem e_map2 {C : Calls} {e : IE} {f : Int → Int} {i j : Nat} {xi xi' xj : Str} {a : IE} {o1 o2 : List (Str × Nat)} {c1 c2 : Scope} {p1 p2 p3 p4 p5 : Pos} {ρ : MP.Env} (ha : evE C a ρ S = .ok (RM rows) S)
    (hv : ∀ r, evE C (.var i xi p1) ((wipeE ρ (o1.map (·.2))).set i (some (RL r))) S = .ok (RL r) S)
    (he : ∀ r ∈ rows, ∀ x ∈ r, evE C e ((wipeE ((wipeE ρ (o1.map (·.2))).set i (some (RL r))) (o2.map (·.2))).set j (some (RI x))) S = .ok (RI (f x)) S) (h1 : rows.length ≤ 1000000) (h2 : ∀ r ∈ rows, r.length ≤ 1000000) :
    evE C (.lc false (.lc false e (.one j xj p2) (.of (.var i xi p1)) .nil o2 c2 p3) (.one i xi' p4) (.of a) .nil o1 c1 p5) ρ S = .ok (RM (rows.map fun r => r.map f)) S := by
  have q : RM (rows.map fun r => r.map f) = .dat (.lst ((List.range rows.length).map fun k => IL ((row rows k).map f))) := by
    unfold RM
    rw [List.map_map, map_row]
    rfl
  rw [q]
  refine lc_at (l := rows.map IL) (ii_of ha) (by rw [List.length_map]) (fun k d hd => ?_) h1
  have h3 : ((rows.map IL).map R.dat)[k]? = some (.dat d) := by rw [List.getElem?_map, hd]; rfl
  obtain ⟨h4, h5⟩ := il_at h3
  cases h5
  have q2 : IL ((row rows k).map f) = .lst ((List.range (row rows k).length).map fun t => D.int (f (el (row rows k) t))) := by
    unfold IL
    rw [List.map_map, map_el]
    rfl
  rw [q2]
  refine lc_at (l := (row rows k).map D.int) (ii_of (hv (row rows k))) (by rw [List.length_map]) (fun t d hd => ?_) (h2 _ (row_mem h4))
  have h6 : (((row rows k).map D.int).map R.dat)[t]? = some (.dat d) := by rw [List.getElem?_map, hd]; rfl
  obtain ⟨h7, h8⟩ := rin_at h6
  cases h8
  exact he _ (row_mem h4) _ (el_mem h7)
theorem lcT_at {C : Calls} {e : IE} {i : Nat} {x : Str} {px : Pos} {it : II} {own : List (Str × Nat)} {sc : Scope} {p : Pos} {ρ : MP.Env} {l : List D} {G : Nat → D} {n : Nat} (hi : evII C it ρ S = .ok ((l.map R.dat).map .one, []) S) (hn : l.length = n)
    (hx : ∀ (k : Nat) d, l[k]? = some d → evE C e ((wipeE ρ (own.map (·.2))).set i (some (.dat d))) S = .ok (.dat (G k)) S) (hl : n ≤ 1000000) : evE C (.lc true e (.one i x px) it .nil own sc p) ρ S = .ok (.own S.length) (S ++ [.lst (((List.range n).map G).map R.dat)]) := by
  have hlen : ((l.map R.dat).map Itm.one).length = n := by rw [List.length_map, List.length_map]; exact hn
  show MP.M.bind (evII C it ρ) (fun q => MP.M.bind (lcLoop q.2 (lcTurn (.one i x px) q.2 (fun ρ' => evTs C .nil ρ') (fun ρ' => MP.M.bind (evE C e ρ') fun r => MP.M.pure [r]) (wipeE ρ (own.map (·.2)))) q.1) (lcOut true)) S = _
  rw [bind_at hi, bind_at (loop_ix (G := fun i => .dat (G i)) gd_nil fun k y hy => by
    rw [List.getElem?_map, List.getElem?_map] at hy
    cases e1 : l[k]? with
    | none => rw [e1] at hy; cases hy
    | some d =>
      rw [e1] at hy
      cases hy
      exact ⟨_, rfl, rfl, by rw [bind_at (hx k d e1)]; rfl⟩)]
  rw [hlen]
  have e1 : ((List.range n).map fun i => R.dat (G i)) = ((List.range n).map G).map R.dat := by
    rw [List.map_map]
    rfl
  rw [e1]
  unfold lcOut
  rw [if_pos (show small (((List.range n).map G).map R.dat).length = true by rw [List.length_map, List.length_map, List.length_range]; exact decide_eq_true hl)]
  rfl
def scl (s : Int) (rows : List (List Int)) : List (List Int) := rows.map fun r => r.map (s * ·)
theorem scl_len : (scl s rows).length = rows.length := by unfold scl; rw [List.length_map]
theorem scl_row {i : Nat} (h : i < rows.length) : row (scl s rows) i = (row rows i).map (s * ·) := by
  unfold row scl
  rw [List.getElem?_map, List.getElem?_eq_getElem h]
  rfl
theorem el_scl {a : List Int} {j : Nat} : el (a.map (s * ·)) j = s * el a j := by
  unfold el
  rw [List.getElem?_map]
  cases a[j]? with
  | none => exact (Int.mul_zero s).symm
  | some x => rfl
theorem sum_scl : ∀ a : List Int, (a.map (s * ·)).sum = s * a.sum
  | [] => by simp
  | x :: a => by
    rw [List.map_cons, List.sum_cons, List.sum_cons, sum_scl a, Int.mul_add]
theorem lcm_l (w d : Int) : w ∣ lcmI w d := Int.natAbs_dvd_natAbs.mp (Nat.dvd_lcm_left _ _)
theorem lcm_r (w d : Int) : d ∣ lcmI w d := Int.natAbs_dvd_natAbs.mp (Nat.dvd_lcm_right _ _)
theorem fold_dvd : ∀ (ds : List Int) (w : Int), w ∣ ds.foldl lcmI w
  | [], w => Int.dvd_refl w
  | d :: ds, w => Int.dvd_trans (lcm_l w d) (fold_dvd ds (lcmI w d))
theorem fold_mem : ∀ (ds : List Int) (w d : Int), d ∈ ds → d ∣ ds.foldl lcmI w
  | e :: ds, w, d, h => by
    rcases List.mem_cons.mp h with rfl | h
    · exact Int.dvd_trans (lcm_r w d) (fold_dvd ds (lcmI w d))
    · exact fold_mem ds (lcmI w e) d h
theorem ps_dvd0 : ∀ (rs : List (List Int)) (t : Int), t ∣ rs.foldl (fun t r => t * r.sum) t
  | [], t => Int.dvd_refl t
  | r :: rs, t => Int.dvd_trans (Int.dvd_mul_right t r.sum) (ps_dvd0 rs (t * r.sum))
theorem ps_dvd : ∀ (rs : List (List Int)) (t : Int) (r : List Int), r ∈ rs → r.sum ∣ rs.foldl (fun t r => t * r.sum) t
  | e :: rs, t, r, h => by
    rcases List.mem_cons.mp h with rfl | h
    · exact Int.dvd_trans ⟨t, Int.mul_comm _ _⟩ (ps_dvd0 rs (t * r.sum))
    · exact ps_dvd rs (t * e.sum) r h
theorem ps_div {r : List Int} (h : r ∈ rows) : ps rows / r.sum * r.sum = ps rows := Int.ediv_mul_cancel (ps_dvd rows 1 r h)
theorem lcmI_pos {w d : Int} (hw : 0 < w) (hd : 0 < d) : 0 < lcmI w d := by
  unfold lcmI
  have : 0 < Nat.lcm w.natAbs d.natAbs := Nat.lcm_pos (by omega) (by omega)
  omega
theorem maxI_mem : ∀ l : List Int, l ≠ [] → maxI l ∈ l
  | [], h => absurd rfl h
  | x :: xs, _ => by
    rcases foldl_max xs x with h | h
    · show xs.foldl max x ∈ x :: xs
      rw [h]
      exact List.mem_cons_self
    · exact List.mem_cons_of_mem _ h
theorem maxI_le : ∀ (l : List Int) (y : Int), y ∈ l → y ≤ maxI l
  | x :: xs, y, h => by
    have q := foldl_max_le xs x
    rcases List.mem_cons.mp h with rfl | h
    · exact q.1
    · exact q.2 y h
theorem e_l4 {C : Calls} {ρ : MP.Env} {a b c d : IE} {p : Pos} {i j k l : Int} (ha : evE C a ρ S = .ok (RI i) S) (hb : evE C b ρ S = .ok (RI j) S) (hc : evE C c ρ S = .ok (RI k) S) (hd : evE C d ρ S = .ok (RI l) S) :
    evE C (.lst false (.cons a (.cons b (.cons c (.cons d .nil)))) p) ρ S = .ok (.dat (.lst [.int i, .int j, .int k, .int l])) S := by
  simp [evSs, evS, evE, evEs, evKs, evAnd, evOr, evTs, M.bind, M.pure, SRes.of, getV, truB, optI, MP.start, isTR, tyR, isTy, cmpR, biR, ha, hb, hc, hd, mkL, datsR]
theorem e_pow {C : Calls} {ρ : MP.Env} {m : Bool} {a b : IE} {p : Pos} {i j : Int} (ha : evE C a ρ S = .ok (RI i) S) (hb : evE C b ρ S = .ok (RI j) S) (h : powOk i j = true) : evE C (.bin m .pow a b p) ρ S = .ok (RI (i ^ j.toNat)) S := by
  refine c_bin ha hb ?_
  show (if powOk i j = true then MP.M.pure (RI (i ^ j.toNat)) else MP.M.stuck) S = _
  rw [if_pos h]
  rfl
theorem ten6 {C : Calls} {ρ : MP.Env} {k1 k2 : Nat} {p1 p2 p3 : Pos} {b : Bool} : evE C (.bin b .pow (.int 10 k1 p1) (.int 6 k2 p2) p3) ρ S = .ok (RI 1000000) S := by
  refine c_bin (x := RI 10) (y := RI 6) rfl rfl ?_
  have e : powOk 10 6 = true := by decide
  show (if powOk 10 6 = true then MP.M.pure (RI (10 ^ (6 : Int).toNat)) else MP.M.stuck) S = _
  rw [if_pos e]
  rfl
end DL
set_option Elab.async false
set_option linter.all false
set_option maxRecDepth 100000
set_option maxHeartbeats 1000000
/-! DLW: loops over data, told of a wish; comprehensions with ifs. -/
namespace DL
open PySem PySem.Spec PyProof.Rows L2 MP
section
variable {C : CallsX} {ρ : MP.Env} {S S1 : Store} {P : SRes → Prop} {r : ISs} {p : Pos}
theorem setM2 {i j : Nat} {x y : Str} {px py : Pos} {v w : R} {ρ : MP.Env} : setM [(i, x, px), (j, y, py)] [v, w] ρ = some ((ρ.set i (some v)).set j (some w)) := rfl
theorem w_enum {i j q : Nat} {x y : Str} {px py p0 : Pos} {it : II} {b : ISs} {l : List D} (Pv : Nat → MP.Env → Store → Prop) (hi : evII C.toCalls it ρ S = .ok (enumI 0 (l.map R.dat), []) S1) (h0 : Pv 0 ρ S1)
    (hs : ∀ k d ρ S, l[k]? = some d → Pv k ρ S → Turn (Pv (k + 1)) P (evSs C b ((ρ.set i (some (RI (k : Int)))).set j (some (.dat d))) S)) (k : ∀ ρ' S', Pv l.length ρ' S' → P (evSs C r ρ' S')) : P (evSs C (.cons (.for_ (.many [(i, x, px), (j, y, py)] q p0) it b p) r) ρ S) := by
  refine w_for Pv hi h0 (fun _ _ _ _ => gd_nil) (fun k z ρ S hz hp => ?_) (by rw [enum_len, List.length_map]; exact k)
  obtain ⟨d, h1, h2⟩ := enum_at hz
  subst h2
  rw [List.getElem?_map] at h1
  cases e : l[k]? with
  | none => rw [e] at h1; cases h1
  | some d' =>
    rw [e] at h1
    cases h1
    rw [Nat.zero_add]
    exact ⟨_, rfl, hs k d' ρ S e hp⟩
theorem w_zip {i j q : Nat} {x y : Str} {px py p0 : Pos} {it : II} {b : ISs} {l l' : List D} (hn : l.length = l'.length) (Pv : Nat → MP.Env → Store → Prop) (hi : evII C.toCalls it ρ S = .ok (zipI (l.map R.dat) (l'.map R.dat), []) S1) (h0 : Pv 0 ρ S1)
    (hs : ∀ k d d' ρ S, l[k]? = some d → l'[k]? = some d' → Pv k ρ S → Turn (Pv (k + 1)) P (evSs C b ((ρ.set i (some (.dat d))).set j (some (.dat d'))) S)) (k : ∀ ρ' S', Pv l.length ρ' S' → P (evSs C r ρ' S')) : P (evSs C (.cons (.for_ (.many [(i, x, px), (j, y, py)] q p0) it b p) r) ρ S) := by
  refine w_for Pv hi h0 (fun _ _ _ _ => gd_nil) (fun k z ρ S hz hp => ?_) (by rw [zip_len hn]; exact k)
  obtain ⟨d, d', h1, h2, h3⟩ := zip_at hz
  subst h3
  exact ⟨_, rfl, hs k d d' ρ S h1 h2 hp⟩
end
variable {n : Nat} {S : Store} {rows M : List (List Int)} {m : Nat}
theorem loop_fl {t : IT} {g : Gd} {c : MP.Env → MP.M Bool} {e : MP.Env → MP.M (List R)} {ρ0 : MP.Env} (hg : gdOk S g = true) : ∀ {xs : List Itm} {G : Nat → List D}, (∀ (i : Nat) x, xs[i]? = some x → ∃ ρ', bindT t x ρ0 S = some ρ' ∧ ∃ b, c ρ' S = .ok b S ∧ (b = true → e ρ' S = .ok ((G i).map R.dat) S) ∧ (b = false → G i = [])) →
    lcLoop g (lcTurn t g c e ρ0) xs S = .ok (((List.range xs.length).flatMap G).map R.dat) S
  | [], G, _ => by
    show (if gdOk S g = true then _ else _) = _
    rw [if_pos hg]
    rfl
  | x :: xs, G, h => by
    obtain ⟨ρ', h1, b, h2, h3, h4⟩ := h 0 x rfl
    have e1 : lcTurn t g c e ρ0 x S = .ok ((G 0).map R.dat) S := by
      unfold lcTurn
      rw [if_pos hg]
      simp only [h1]
      unfold MP.M.noX
      rw [bind_at h2]
      cases b with
      | false => rw [h4 rfl]; rfl
      | true => simp only [if_pos, h3 rfl]
    show MP.M.bind (lcTurn t g c e ρ0 x) (fun a => MP.M.bind (lcLoop g (lcTurn t g c e ρ0) xs) fun b => MP.M.pure (a ++ b)) S = _
    rw [bind_at e1, bind_at (loop_fl hg (G := fun i => G (i + 1)) fun i y hy => h (i + 1) y hy), List.length_cons, List.range_succ_eq_map, List.flatMap_cons, List.map_append]
    rw [List.flatMap_map]
    rfl
theorem fl_len {G : Nat → List D} {B : Nat} : ∀ n, (∀ i, i < n → (G i).length ≤ B) → ((List.range n).flatMap G).length ≤ n * B
  | 0, _ => Nat.zero_le _
  | n + 1, h => by
    rw [List.range_succ, List.flatMap_append, List.length_append, Nat.succ_mul]
    have h1 := fl_len n fun i hi => h i (by omega)
    have h2 : (List.flatMap G [n]).length = (G n).length := by simp
    have h3 := h n (by omega)
    omega
/-- a comprehension of one generator with an if, its items made of data -/
theorem lc_fl {C : Calls} {e : IE} {t : IT} {it : II} {cs : IEs} {own : List (Str × Nat)} {sc : Scope} {p : Pos} {ρ : MP.Env} {xs : List Itm} {g : Gd} {G : Nat → List D} (hi : evII C it ρ S = .ok (xs, g) S) (hg : gdOk S g = true)
    (hx : ∀ (i : Nat) x, xs[i]? = some x → ∃ ρ', bindT t x (wipeE ρ (own.map (·.2))) S = some ρ' ∧ ∃ b, evTs C cs ρ' S = .ok b S ∧ (b = true → ∃ d, evE C e ρ' S = .ok (.dat d) S ∧ G i = [d]) ∧ (b = false → G i = [])) (hl : xs.length ≤ 1000000) :
    evE C (.lc false e t it cs own sc p) ρ S = .ok (.dat (.lst ((List.range xs.length).flatMap G))) S := by
  have h2 := loop_fl (S := S) (g := g) (t := t) (c := fun ρ' => evTs C cs ρ') (e := fun ρ' => MP.M.bind (evE C e ρ') fun r => MP.M.pure [r]) (ρ0 := wipeE ρ (own.map (·.2))) hg (xs := xs) (G := G) (fun i x h => by
    obtain ⟨ρ', h1, b, h2, h3, h4⟩ := hx i x h
    refine ⟨ρ', h1, b, h2, fun hb => ?_, h4⟩
    obtain ⟨d, h5, h6⟩ := h3 hb
    rw [bind_at h5, h6]
    rfl)
  have h3 : ((List.range xs.length).flatMap G).length ≤ xs.length * 1 := fl_len _ fun i hi => by
    obtain ⟨ρ', _, b, _, h3, h4⟩ := hx i xs[i] (List.getElem?_eq_getElem hi)
    cases b with
    | false => rw [h4 rfl]; exact Nat.zero_le _
    | true =>
      obtain ⟨d, _, h6⟩ := h3 rfl
      rw [h6]
      exact Nat.le_refl _
  show MP.M.bind (evII C it ρ) (fun q => MP.M.bind (lcLoop q.2 (lcTurn t q.2 (fun ρ' => evTs C cs ρ') (fun ρ' => MP.M.bind (evE C e ρ') fun r => MP.M.pure [r]) (wipeE ρ (own.map (·.2)))) q.1) (lcOut false)) S = _
  rw [bind_at hi, bind_at h2]
  unfold lcOut
  rw [if_pos (show small (((List.range xs.length).flatMap G).map R.dat).length = true by rw [List.length_map]; exact decide_eq_true (by omega))]
  unfold mkL
  rw [datsR_map]
/-- a comprehension of two generators, the second perhaps with an if -/
theorem lc2_fl {C : Calls} {e : IE} {t t2 : IT} {it it2 : II} {cs2 : IEs} {own : List (Str × Nat)} {vs2 : List Nat} {sc : Scope} {p : Pos} {ρ : MP.Env} {xs : List Itm} {g : Gd} {B : Nat} {G : Nat → Nat → List D} {N : Nat → Nat} (hi : evII C it ρ S = .ok (xs, g) S) (hg : gdOk S g = true)
    (hx : ∀ (i : Nat) x, xs[i]? = some x → ∃ ρ', bindT t x (wipeE ρ (own.map (·.2))) S = some ρ' ∧ ∃ xs2 g2, evII C it2 ρ' S = .ok (xs2, g2) S ∧ gdOk S g2 = true ∧ xs2.length = N i ∧ N i ≤ B ∧
      ∀ (j : Nat) y, xs2[j]? = some y → ∃ ρ2, bindT t2 y (wipeE ρ' vs2) S = some ρ2 ∧ ∃ b, evTs C cs2 ρ2 S = .ok b S ∧ (b = true → ∃ d, evE C e ρ2 S = .ok (.dat d) S ∧ G i j = [d]) ∧ (b = false → G i j = [])) (hB : xs.length * B ≤ 1000000) :
    evE C (.lc2 false e t it .nil t2 it2 cs2 own vs2 sc p) ρ S = .ok (.dat (.lst ((List.range xs.length).flatMap fun i => (List.range (N i)).flatMap (G i)))) S := by
  have h2 := loop_fl (S := S) (g := g) (t := t) (c := fun ρ' => evTs C .nil ρ') (e := fun ρ' => MP.M.bind (evII C it2 ρ') fun q2 => lcLoop q2.2 (lcTurn t2 q2.2 (fun ρ2 => evTs C cs2 ρ2) (fun ρ2 => MP.M.bind (evE C e ρ2) fun r => MP.M.pure [r]) (wipeE ρ' vs2)) q2.1) (ρ0 := wipeE ρ (own.map (·.2))) hg (xs := xs) (G := fun i => (List.range (N i)).flatMap (G i)) (fun i x h => by
    obtain ⟨ρ', h1, xs2, g2, h2, h3, h4, _, h5⟩ := hx i x h
    refine ⟨ρ', h1, true, rfl, fun _ => ?_, fun z => nomatch z⟩
    have k2 := loop_fl (S := S) (g := g2) (t := t2) (c := fun ρ2 => evTs C cs2 ρ2) (e := fun ρ2 => MP.M.bind (evE C e ρ2) fun r => MP.M.pure [r]) (ρ0 := wipeE ρ' vs2) h3 (xs := xs2) (G := G i) (fun j y hy => by
      obtain ⟨ρ2, l1, b, l2, l3, l4⟩ := h5 j y hy
      refine ⟨ρ2, l1, b, l2, fun hb => ?_, l4⟩
      obtain ⟨d, l5, l6⟩ := l3 hb
      rw [bind_at l5, l6]
      rfl)
    rw [bind_at h2, ← h4]
    exact k2)
  have h3 : ((List.range xs.length).flatMap fun i => (List.range (N i)).flatMap (G i)).length ≤ xs.length * B := fl_len _ fun i hi => by
    obtain ⟨ρ', _, xs2, g2, _, _, h4, h6, h5⟩ := hx i xs[i] (List.getElem?_eq_getElem hi)
    refine Nat.le_trans (fl_len (B := 1) _ fun j hj => ?_) (by omega)
    obtain ⟨ρ2, _, b, _, l3, l4⟩ := h5 j xs2[j] (List.getElem?_eq_getElem (by omega))
    cases b with
    | false => rw [l4 rfl]; exact Nat.zero_le _
    | true =>
      obtain ⟨d, _, l6⟩ := l3 rfl
      rw [l6]
      exact Nat.le_refl _
  show MP.M.bind (evII C it ρ) (fun q => MP.M.bind (lcLoop q.2 (lcTurn t q.2 (fun ρ' => evTs C .nil ρ') (fun ρ' => MP.M.bind (evII C it2 ρ') fun q2 =>
        lcLoop q2.2 (lcTurn t2 q2.2 (fun ρ2 => evTs C cs2 ρ2) (fun ρ2 => MP.M.bind (evE C e ρ2) fun r => MP.M.pure [r]) (wipeE ρ' vs2)) q2.1) (wipeE ρ (own.map (·.2)))) q.1) (lcOut false)) S = _
  rw [bind_at hi, bind_at h2]
  unfold lcOut
  rw [if_pos (show small (((List.range xs.length).flatMap fun i => (List.range (N i)).flatMap (G i)).map R.dat).length = true by rw [List.length_map]; exact decide_eq_true (by omega))]
  unfold mkL
  rw [datsR_map]
/-! ### webs -/
abbrev degs (rows : List (List Int)) : List Int := rows.map List.sum
def tiesOf (rows : List (List Int)) : List D := (List.range rows.length).flatMap fun i => (List.range rows.length).flatMap fun j => if i ≤ j ∧ 0 < el (row rows i) j then [.tup [.int i, .int j, .int (el (row rows i) j)]] else []
/-- a web as data -/
def webOf (rows : List (List Int)) : D := .obj "Web" ["rows", "size", "degrees", "volume", "_ties"] [.tup (rows.map TL), .int rows.length, TL (degs rows), .int (degs rows).sum, .tup (tiesOf rows)]
/-- a net: square, symmetric, no place bare; at most 40 places -/
structure Tied (rows : List (List Int)) : Prop where
  ge : 1 ≤ rows.length
  le : rows.length ≤ 40
  sq : ∀ r ∈ rows, r.length = rows.length
  w : ∀ r ∈ rows, ∀ x ∈ r, 0 ≤ x ∧ x ≤ 1000000000000000000000000000000
  sym : ∀ i j, i < rows.length → j < rows.length → el (row rows i) j = el (row rows j) i
  pos : ∀ r ∈ rows, 0 < r.sum
theorem lst_at {k : Nat} {d : D} (h : (rows.map IL)[k]? = some d) : k < rows.length ∧ d = IL (row rows k) := by
  rw [List.getElem?_map] at h
  cases e : rows[k]? with
  | none => rw [e] at h; cases h
  | some r =>
    rw [e] at h
    cases h
    exact ⟨(List.getElem?_eq_some_iff.mp e).1, by unfold row; rw [e]; rfl⟩
theorem dg_at {k : Nat} {d : D} (h : ((degs rows).map D.int)[k]? = some d) : k < rows.length ∧ d = .int (row rows k).sum := by
  rw [List.getElem?_map, List.getElem?_map] at h
  cases e : rows[k]? with
  | none => rw [e] at h; cases h
  | some r =>
    rw [e] at h
    cases h
    exact ⟨(List.getElem?_eq_some_iff.mp e).1, by unfold row; rw [e]; rfl⟩
end DL
set_option Elab.async false
set_option linter.all false
set_option maxRecDepth 100000
set_option maxHeartbeats 1000000
/-! DLR: lists, be they data or cells; loops that leave the store. -/
namespace DL
open PySem PySem.Spec PyProof.Rows L2 MP
variable {n : Nat} {S S1 : Store} {rows M : List (List Int)} {m : Nat} {q r : R} {xs : List R} {a : List Int}
/-- what can be walked -/
structure Wk (S : Store) (q : R) (xs : List R) : Prop where
  walk : walkR q S = .ok xs S
  gd : gdOk S (guardR S q) = true
  var : ∀ (ρ : MP.Env) i, ρ[i]? = some (some q) → getV ρ i S = .ok q S
  items : itemsR S q = some xs
  kind : (∃ l : List D, q = .dat (.lst l) ∧ xs = l.map R.dat) ∨ (∃ l : List D, q = .dat (.tup l) ∧ xs = l.map R.dat) ∨ ∃ k, q = .own k ∧ S[k]? = some (.lst xs)
/-- a list -/
structure Lst (S : Store) (q : R) (xs : List R) : Prop extends Wk S q xs where
  nt : isTup S q = false
theorem Lst.dat {l : List D} : Lst S (.dat (.lst l)) (l.map R.dat) := ⟨⟨rfl, gd_nil, fun ρ i h => by unfold getV; rw [h]; rfl, rfl, .inl ⟨_, rfl, rfl⟩⟩, rfl⟩
theorem Wk.tup {l : List D} : Wk S (.dat (.tup l)) (l.map R.dat) := ⟨rfl, gd_nil, fun ρ i h => by unfold getV; rw [h]; rfl, rfl, .inr (.inl ⟨_, rfl, rfl⟩)⟩
theorem Lst.own {k : Nat} {rs : List R} (h : S[k]? = some (.lst rs)) : Lst S (.own k) rs := by
  have e : itemsR S (.own k) = some rs := by
    unfold itemsR
    simp only [h]
  refine ⟨⟨?_, ?_, fun ρ i hi => by unfold getV; rw [hi]; rfl, e, .inr (.inr ⟨k, rfl, h⟩)⟩, ?_⟩
  · show (match R.own k, itemsR S (.own k) with
      | .dat (.lst _), some rs => Res.ok rs S
      | .dat (.tup _), some rs => .ok rs S
      | .own k, some rs => .ok rs S
      | _, _ => .stuck) = _
    rw [e]
  · refine gd_iff.mpr fun z hz => ?_
    unfold guardR at hz
    simp only [h] at hz
    rcases List.mem_cons.mp hz with rfl | hz
    · exact h
    · cases hz
  · unfold isTup
    simp only [h]
theorem Wk.len {b : Bool} (h : Wk S q xs) : biR b .len [q] S = .ok (RI xs.length) S := by
  show (match itemsR S q with
    | some xs => Res.ok (R.dat (.int xs.length)) S
    | none => .stuck) = _
  rw [h.items]
theorem Wk.ix {k : Nat} {x : R} (h : Wk S q xs) (hx : xs[k]? = some x) : ixR q (RI (k : Int)) S = .ok x S := by
  have ht : k < xs.length := (List.getElem?_eq_some_iff.mp hx).1
  have e : atR xs (k : Int) = some x := by
    unfold atR atI
    have e1 : ixN xs.length (k : Int) = some k := by
      unfold ixN
      simp
      omega
    rw [e1]
    exact hx
  show (match RI (k : Int), itemsR S q with
    | .dat (.int i), some rs => (match atR rs i with
      | some r => Res.ok r S
      | none => .stuck)
    | _, _ => .stuck) = _
  rw [h.items]
  show (match atR xs (k : Int) with
      | some r => Res.ok r S
      | none => .stuck) = _
  rw [e]
/-- a store that holds what the other holds -/
def Kp (S S' : Store) : Prop := ∀ (k : Nat) (c : Cell), S[k]? = some c → S'[k]? = some c
theorem Kp.app {E : Store} : Kp S (S ++ E) := fun k c h => by
  rw [List.getElem?_append_left (List.getElem?_eq_some_iff.mp h).1]
  exact h
theorem Lst.mono {S' : Store} (h : Lst S q xs) (e : Kp S S') : Lst S' q xs := by
  rcases h.kind with ⟨l, rfl, rfl⟩ | ⟨l, rfl, rfl⟩ | ⟨k, rfl, hk⟩
  · exact Lst.dat
  · have := h.nt
    cases this
  · exact Lst.own (e k _ hk)
/-- a list of numbers -/
abbrev RowR (S : Store) (q : R) (a : List Int) : Prop := Lst S q ((a.map D.int).map R.dat)
theorem RowR.dat : RowR S (RL a) a := Lst.dat
theorem RowR.own {k : Nat} (h : S[k]? = some (pool a)) : RowR S (.own k) a := Lst.own h
theorem RowR.len {b : Bool} (h : RowR S q a) : biR b .len [q] S = .ok (RI a.length) S := by
  have := Wk.len (b := b) h.toWk
  rw [List.length_map, List.length_map] at this
  exact this
theorem RowR.ix {k : Nat} (h : RowR S q a) (hk : k < a.length) : ixR q (RI (k : Int)) S = .ok (RI (el a k)) S := Wk.ix h.toWk (by rw [List.getElem?_map, el_at hk]; rfl)
theorem RowR.sum {b : Bool} (h : RowR S q a) : biR b .sum [q] S = .ok (RI a.sum) S := by
  show (match (itemsR S q).bind intsR with
    | some xs => Res.ok (R.dat (.int xs.sum)) S
    | none => .stuck) = _
  rw [h.items, List.map_map]
  have e2 : (a.map (R.dat ∘ D.int)) = a.map fun i => R.dat (.int i) := rfl
  rw [e2, Option.bind_some, intsR_map]
theorem RowR.tuple {b : Bool} (h : RowR S q a) : biR b .tuple [q] S = .ok (.dat (TL a)) S := by
  show (if isTup S q = true then Res.ok q S else (match itemsR S q with
    | some rs => mkT rs S
    | none => Res.stuck)) = _
  rw [h.nt, h.items]
  show mkT ((a.map D.int).map R.dat) S = _
  unfold mkT
  rw [datsR_map]
/-- a table of numbers -/
structure Rep (S : Store) (r : R) (rows : List (List Int)) (qs : List R) : Prop extends Lst S r qs where
  len' : qs.length = rows.length
  at_ : ∀ k x, qs[k]? = some x → RowR S x (row rows k)
theorem Rep.dat : Rep S (RM rows) rows ((rows.map IL).map R.dat) := ⟨Lst.dat, by rw [List.length_map, List.length_map], fun k x hx => by
  obtain ⟨_, rfl⟩ := il_at hx
  exact RowR.dat⟩
theorem Rep.mono {S' : Store} {qs : List R} (h : Rep S r rows qs) (e : Kp S S') : Rep S' r rows qs := ⟨h.toLst.mono e, h.len', fun k x hx => (h.at_ k x hx).mono e⟩
theorem Rep.len {b : Bool} {qs : List R} (h : Rep S r rows qs) : biR b .len [r] S = .ok (RI rows.length) S := by
  have := Wk.len (b := b) h.toWk
  rw [h.len'] at this
  exact this
theorem Rep.ix {k : Nat} {qs : List R} (h : Rep S r rows qs) (hk : k < rows.length) : ∃ x, ixR r (RI (k : Int)) S = .ok x S ∧ RowR S x (row rows k) := by
  have hx : qs[k]? = some (qs[k]'(by rw [h.len']; exact hk)) := List.getElem?_eq_getElem _
  exact ⟨_, Wk.ix h.toWk hx, h.at_ k _ hx⟩
theorem Rep.lt {k : Nat} {x : R} {qs : List R} (h : Rep S r rows qs) (hx : qs[k]? = some x) : k < rows.length := by
  rw [← h.len']
  exact (List.getElem?_eq_some_iff.mp hx).1
/-! ### loops that leave the store -/
section
variable {C : CallsX} {ρ : MP.Env} {P : SRes → Prop} {rs : ISs} {p : Pos}
theorem ii_wk {C : Calls} {ρ : MP.Env} {e : IE} (he : evE C e ρ S = .ok q S) (h : Wk S q xs) : evII C (.of e) ρ S = .ok (xs.map .one, guardR S q) S := by
  show MP.M.bind (evE C e ρ) (fun x => MP.M.bind (walkR x) fun rs => fun S => Res.ok (rs.map Itm.one, guardR S x) S) S = _
  rw [bind_at he, bind_at h.walk]
theorem ii_enW {C : Calls} {ρ : MP.Env} {e : IE} {p0 p : Pos} (he : evE C e ρ S = .ok q S) (h : Wk S q xs) : evII C (.enum e p0 p) ρ S = .ok (enumI 0 xs, guardR S q) S := by
  show MP.M.bind (evE C e ρ) (fun x => MP.M.bind (walkR x) fun rs => fun S => Res.ok (enumI 0 rs, guardR S x) S) S = _
  rw [bind_at he, bind_at h.walk]
theorem ii_en {C : Calls} {ρ : MP.Env} {e : IE} {p0 p : Pos} (he : evE C e ρ S = .ok q S) (h : Lst S q xs) : evII C (.enum e p0 p) ρ S = .ok (enumI 0 xs, guardR S q) S := ii_enW he h.toWk
theorem ii_zp {C : Calls} {ρ : MP.Env} {e e' : IE} {p0 p : Pos} {q' : R} {ys : List R} (he : evE C e ρ S = .ok q S) (he' : evE C e' ρ S = .ok q' S) (h : Wk S q xs) (h' : Wk S q' ys) : evII C (.zip e e' p0 p) ρ S = .ok (zipI xs ys, guardR S q ++ guardR S q') S := by
  show MP.M.bind (evE C e ρ) (fun x => MP.M.bind (evE C e' ρ) fun y => MP.M.bind (walkR x) fun rs => MP.M.bind (walkR y) fun qs => fun S => Res.ok (zipI rs qs, guardR S x ++ guardR S y) S) S = _
  rw [bind_at he, bind_at he', bind_at h.walk, bind_at h'.walk]
theorem gd_both {g g' : Gd} (h : gdOk S g = true) (h' : gdOk S g' = true) : gdOk S (g ++ g') = true := gd_iff.mpr fun z hz => by
  rcases List.mem_append.mp hz with h1 | h1
  · exact gd_iff.mp h z h1
  · exact gd_iff.mp h' z h1
theorem zipR_at : ∀ {l l' : List R} {i : Nat} {x : Itm}, (zipI l l')[i]? = some x → ∃ a b, l[i]? = some a ∧ l'[i]? = some b ∧ x = .tup [a, b]
  | [], _, i, x, h => by cases h
  | _ :: _, [], i, x, h => by cases h
  | a :: l, b :: l', 0, x, h => by
    cases h
    exact ⟨a, b, rfl, rfl, rfl⟩
  | a :: l, b :: l', i + 1, x, h => zipR_at (l := l) (l' := l') (i := i) h
theorem zipR_len : ∀ {l l' : List R}, l.length = l'.length → (zipI l l').length = l.length
  | [], _, _ => rfl
  | _ :: _, [], h => by cases h
  | a :: l, b :: l', h => congrArg Nat.succ (zipR_len (l := l) (l' := l') (Nat.succ.inj h))
/-- for x in a list: the store stays -/
theorem w_wk {i : Nat} {x : Str} {px : Pos} {e : IE} {b : ISs} (Pv : Nat → MP.Env → Prop) (he : evE C.toCalls e ρ S = .ok q S) (h : Wk S q xs) (h0 : Pv 0 ρ)
    (hs : ∀ k z ρ, xs[k]? = some z → Pv k ρ → Turn (fun ρ' S' => S' = S ∧ Pv (k + 1) ρ') P (evSs C b (ρ.set i (some z)) S)) (kk : ∀ ρ', Pv xs.length ρ' → P (evSs C rs ρ' S)) : P (evSs C (.cons (.for_ (.one i x px) (.of e) b p) rs) ρ S) := by
  refine w_for (fun k ρ' S' => S' = S ∧ Pv k ρ') (ii_wk he h) ⟨rfl, h0⟩ (fun _ _ _ hp => by rw [hp.1]; exact h.gd) (fun k y ρ S' hy hp => ?_) (by rw [List.length_map]; exact fun ρ' S' hp => by rw [hp.1]; exact kk ρ' hp.2)
  obtain ⟨rfl, hp⟩ := hp
  obtain ⟨z, h1, rfl⟩ := one_at hy
  exact ⟨_, rfl, hs k z ρ h1 hp⟩
theorem w_en {i j s : Nat} {x y : Str} {px py p0 p1 p2 : Pos} {e : IE} {b : ISs} (Pv : Nat → MP.Env → Prop) (he : evE C.toCalls e ρ S = .ok q S) (h : Lst S q xs) (h0 : Pv 0 ρ)
    (hs : ∀ k z ρ, xs[k]? = some z → Pv k ρ → Turn (fun ρ' S' => S' = S ∧ Pv (k + 1) ρ') P (evSs C b ((ρ.set i (some (RI (k : Int)))).set j (some z)) S)) (kk : ∀ ρ', Pv xs.length ρ' → P (evSs C rs ρ' S)) : P (evSs C (.cons (.for_ (.many [(i, x, px), (j, y, py)] s p0) (.enum e p1 p2) b p) rs) ρ S) := by
  refine w_for (fun k ρ' S' => S' = S ∧ Pv k ρ') (ii_en he h) ⟨rfl, h0⟩ (fun _ _ _ hp => by rw [hp.1]; exact h.gd) (fun k y ρ S' hy hp => ?_) (by rw [enum_len]; exact fun ρ' S' hp => by rw [hp.1]; exact kk ρ' hp.2)
  obtain ⟨rfl, hp⟩ := hp
  obtain ⟨z, h1, rfl⟩ := enum_at hy
  rw [Nat.zero_add]
  exact ⟨_, rfl, hs k z ρ h1 hp⟩
theorem w_enW {i j s : Nat} {x y : Str} {px py p0 p1 p2 : Pos} {e : IE} {b : ISs} (Pv : Nat → MP.Env → Prop) (he : evE C.toCalls e ρ S = .ok q S) (h : Wk S q xs) (h0 : Pv 0 ρ)
    (hs : ∀ k z ρ, xs[k]? = some z → Pv k ρ → Turn (fun ρ' S' => S' = S ∧ Pv (k + 1) ρ') P (evSs C b ((ρ.set i (some (RI (k : Int)))).set j (some z)) S)) (kk : ∀ ρ', Pv xs.length ρ' → P (evSs C rs ρ' S)) : P (evSs C (.cons (.for_ (.many [(i, x, px), (j, y, py)] s p0) (.enum e p1 p2) b p) rs) ρ S) := by
  refine w_for (fun k ρ' S' => S' = S ∧ Pv k ρ') (ii_enW he h) ⟨rfl, h0⟩ (fun _ _ _ hp => by rw [hp.1]; exact h.gd) (fun k y ρ S' hy hp => ?_) (by rw [enum_len]; exact fun ρ' S' hp => by rw [hp.1]; exact kk ρ' hp.2)
  obtain ⟨rfl, hp⟩ := hp
  obtain ⟨z, h1, rfl⟩ := enum_at hy
  rw [Nat.zero_add]
  exact ⟨_, rfl, hs k z ρ h1 hp⟩
theorem w_zp {i j s : Nat} {x y : Str} {px py p0 p1 p2 : Pos} {e e' : IE} {b : ISs} {q' : R} {ys : List R} (hn : xs.length = ys.length) (Pv : Nat → MP.Env → Prop) (he : evE C.toCalls e ρ S = .ok q S) (he' : evE C.toCalls e' ρ S = .ok q' S) (h : Wk S q xs) (h' : Wk S q' ys) (h0 : Pv 0 ρ)
    (hs : ∀ k z z' ρ, xs[k]? = some z → ys[k]? = some z' → Pv k ρ → Turn (fun ρ' S' => S' = S ∧ Pv (k + 1) ρ') P (evSs C b ((ρ.set i (some z)).set j (some z')) S)) (kk : ∀ ρ', Pv xs.length ρ' → P (evSs C rs ρ' S)) : P (evSs C (.cons (.for_ (.many [(i, x, px), (j, y, py)] s p0) (.zip e e' p1 p2) b p) rs) ρ S) := by
  refine w_for (fun k ρ' S' => S' = S ∧ Pv k ρ') (ii_zp he he' h h') ⟨rfl, h0⟩ (fun _ _ _ hp => by rw [hp.1]; exact gd_both h.gd h'.gd) (fun k y ρ S' hy hp => ?_) (by rw [zipR_len hn]; exact fun ρ' S' hp => by rw [hp.1]; exact kk ρ' hp.2)
  obtain ⟨rfl, hp⟩ := hp
  obtain ⟨z, z', h1, h2, rfl⟩ := zipR_at hy
  exact ⟨_, rfl, hs k z z' ρ h1 h2 hp⟩
/-- for i in range: the store stays -/
theorem w_rg {i : Nat} {x : Str} {px : Pos} {it : II} {b : ISs} {lo : Int} {n : Nat} (Pv : Nat → MP.Env → Prop) (hi : evII C.toCalls it ρ S = .ok (rngI lo n, []) S) (h0 : Pv 0 ρ)
    (hs : ∀ k ρ, k < n → Pv k ρ → Turn (fun ρ' S' => S' = S ∧ Pv (k + 1) ρ') P (evSs C b (ρ.set i (some (RI (lo + (k : Int))))) S)) (kk : ∀ ρ', Pv n ρ' → P (evSs C rs ρ' S)) : P (evSs C (.cons (.for_ (.one i x px) it b p) rs) ρ S) :=
  w_rng (fun k ρ' S' => S' = S ∧ Pv k ρ') hi ⟨rfl, h0⟩ (fun k ρ S' hk hp => by
    obtain ⟨rfl, hp⟩ := hp
    exact hs k ρ hk hp) fun ρ' S' hp => by rw [hp.1]; exact kk ρ' hp.2
/-- a comprehension over a list -/
theorem lc_wk {C : Calls} {e a : IE} {i : Nat} {x : Str} {px : Pos} {own : List (Str × Nat)} {sc : Scope} {p : Pos} {ρ : MP.Env} {G : Nat → D} {n : Nat} (ha : evE C a ρ S = .ok q S) (h : Wk S q xs) (hn : xs.length = n)
    (hx : ∀ (k : Nat) z, xs[k]? = some z → evE C e ((wipeE ρ (own.map (·.2))).set i (some z)) S = .ok (.dat (G k)) S) (hl : n ≤ 1000000) : evE C (.lc false e (.one i x px) (.of a) .nil own sc p) ρ S = .ok (.dat (.lst ((List.range n).map G))) S :=
  lc_ix (ii_wk ha h) h.gd (by rw [List.length_map]; exact hn) (fun k y hy => by
    obtain ⟨z, h1, rfl⟩ := one_at hy
    exact ⟨_, rfl, hx k z h1⟩) hl
theorem lc_zp {C : Calls} {e a a' : IE} {i j s : Nat} {x y : Str} {px py p0 p1 p2 : Pos} {own : List (Str × Nat)} {sc : Scope} {p : Pos} {ρ : MP.Env} {G : Nat → D} {n : Nat} {q' : R} {ys : List R} (ha : evE C a ρ S = .ok q S) (ha' : evE C a' ρ S = .ok q' S) (h : Wk S q xs) (h' : Wk S q' ys) (hn : xs.length = n) (hn' : ys.length = n)
    (hx : ∀ (k : Nat) z z', xs[k]? = some z → ys[k]? = some z' → evE C e (((wipeE ρ (own.map (·.2))).set i (some z)).set j (some z')) S = .ok (.dat (G k)) S) (hl : n ≤ 1000000) : evE C (.lc false e (.many [(i, x, px), (j, y, py)] s p0) (.zip a a' p1 p2) .nil own sc p) ρ S = .ok (.dat (.lst ((List.range n).map G))) S :=
  lc_ix (ii_zp ha ha' h h') (gd_both h.gd h'.gd) (by rw [zipR_len (hn.trans hn'.symm)]; exact hn) (fun k y hy => by
    obtain ⟨z, z', h1, h2, rfl⟩ := zipR_at hy
    exact ⟨_, rfl, hx k z z' h1 h2⟩) hl
end
/-! ### instances -/
section
variable {C : CallsX} {ρ : MP.Env} {P : SRes → Prop} {rs : ISs} {p : Pos}
theorem w_fld {c f s : Str} {ns : List Str} {vs : List R} {v : R} {e : IE} {p1 p2 : Pos} (ho : ρ[0]? = some (some (.own S.length))) (h : evE C.toCalls e ρ (S ++ [Cell.obj c ns vs]) = .ok v (S ++ [Cell.obj c ns vs])) (hl : ns.length < 900) (k : P (evSs C rs ρ (S ++ [Cell.obj c (putN f v ns vs).1 (putN f v ns vs).2]))) :
    P (evSs C (.cons (.setAt (.var 0 s p1) c f e p2 p) rs) ρ (S ++ [Cell.obj c ns vs])) := by
  have q : evE C.toCalls (.var 0 s p1) ρ (S ++ [Cell.obj c ns vs]) = .ok (.own S.length) (S ++ [Cell.obj c ns vs]) := by
    show getV ρ 0 _ = _
    unfold getV
    rw [ho]
    rfl
  have h2 := r_setAt (C := C) (c := c) (f := f) (ps := p2) (p := p) h q get_last hl
  rw [set_last] at h2
  exact p_next h2 k
theorem seal_obj {c : Str} {ns : List Str} {ds : List D} {ρ : MP.Env} (h : WF S) {c0 : Cell} : sealS (S ++ [c0]).length (.go .next ρ (S ++ [Cell.obj c ns (ds.map R.dat)])) = .ok (.dat .non) (S ++ [Cell.obj c ns (ds.map R.dat)]) := by
  have e2 : (S ++ [c0]).length = (S ++ [Cell.obj c ns (ds.map R.dat)]).length := by simp
  rw [e2]
  exact seal_next (wf_push h (below_dats ds))
theorem toD_obj {m f k : Nat} {c : Str} {ns : List Str} {rs : List R} (hk : S[k]? = some (.obj c ns rs)) (h : m ≤ k) : toD m S (f + 1) (.own k) = (allD (toD m S f) rs).map (D.obj c ns) := by
  show (if k < m then none else match S[k]? with
    | some (.lst rs) => (allD (toD m S f) rs).map D.lst
    | some (.tup rs) => (allD (toD m S f) rs).map D.tup
    | some (.obj c ns rs) => (allD (toD m S f) rs).map (D.obj c ns)
    | none => none) = _
  rw [if_neg (Nat.not_lt.mpr h), hk]
theorem make_dat {C : Calls} {f : Nat} {c : Str} {rs : List R} {ns : List Str} {ds : List D} (h : WF S) (hi : C.fn f (.own S.length :: rs) (S ++ [.obj c [] []]) = .ok (.dat .non) (S ++ [Cell.obj c ns (ds.map R.dat)])) : makeR C false f c rs S = .ok (.dat (.obj c ns ds)) S := by
  unfold makeR
  rw [hi]
  have t1 : (S ++ [Cell.obj c ns (ds.map R.dat)]).take S.length = S := by simp
  have t2 : (S.all (Cell.below S.length)) = true := h
  have t3 : toD S.length (S ++ [Cell.obj c ns (ds.map R.dat)]) 8 (.own S.length) = some (.obj c ns ds) := by
    rw [toD_obj get_last (Nat.le_refl _), allD_dat]
    rfl
  simp only [t1, t2, t3]
  simp
end
theorem row_rin {k : Nat} {z : R} (h : ((a.map D.int).map R.dat)[k]? = some z) : k < a.length ∧ z = RI (el a k) := rin_at h
theorem map_rng {α : Type} {f : Nat → α} {n : Nat} {g : List Int → α} (hn : rows.length = n) (h : ∀ k, k < n → f k = g (row rows k)) : (List.range n).map f = rows.map g := by
  rw [map_row, hn]
  exact List.map_congr_left fun k hk => h k (List.mem_range.mp hk)
end DL
set_option Elab.async false
set_option linter.all false
set_option maxRecDepth 100000
set_option maxHeartbeats 1000000
/-! DLF: fractions in lowest terms. -/
namespace DL
open PySem PySem.Spec PyProof.Rows L2 MP
def gc (x y : Int) : Int := (Nat.gcd x.natAbs y.natAbs : Nat)
def frD (t b : Int) : D := .obj "Frac" ["top", "bottom"] [.int t, .int b]
/-- x / y in lowest terms -/
def F (x y : Int) : D := frD (x / gc x y) (y / gc x y)
variable {x y u v : Int}
theorem gc_pos (hy : 0 < y) : 0 < gc x y := by
  unfold gc
  have : 0 < Nat.gcd x.natAbs y.natAbs := Nat.gcd_pos_of_pos_right _ (by omega)
  omega
theorem gc_l : gc x y ∣ x := Int.natAbs_dvd_natAbs.mp (by unfold gc; rw [Int.natAbs_natCast]; exact Nat.gcd_dvd_left _ _)
theorem gc_r : gc x y ∣ y := Int.natAbs_dvd_natAbs.mp (by unfold gc; rw [Int.natAbs_natCast]; exact Nat.gcd_dvd_right _ _)
theorem gc_le (hy : 0 < y) : gc x y ≤ y := Int.le_of_dvd hy gc_r
theorem num_l : gc x y * (x / gc x y) = x := Int.mul_ediv_cancel' gc_l
theorem num_r : gc x y * (y / gc x y) = y := Int.mul_ediv_cancel' gc_r
theorem bt_pos (hy : 0 < y) : 0 < y / gc x y := Int.ediv_pos_of_pos_of_dvd hy (Int.le_of_lt (gc_pos hy)) gc_r
theorem cop (hy : 0 < y) : Nat.gcd (x / gc x y).natAbs (y / gc x y).natAbs = 1 := by
  have hg := gc_pos (x := x) hy
  have h1 : x.natAbs = (gc x y).natAbs * (x / gc x y).natAbs := by rw [← Int.natAbs_mul, num_l]
  have h2 : y.natAbs = (gc x y).natAbs * (y / gc x y).natAbs := by rw [← Int.natAbs_mul, num_r]
  have h3 : (gc x y).natAbs = Nat.gcd x.natAbs y.natAbs := by unfold gc; rw [Int.natAbs_natCast]
  have h4 : Nat.gcd x.natAbs y.natAbs = (gc x y).natAbs * Nat.gcd (x / gc x y).natAbs (y / gc x y).natAbs := by
    conv => lhs; rw [h1, h2]
    rw [Nat.gcd_mul_left]
  rw [← h3] at h4
  have h5 : 0 < (gc x y).natAbs := by omega
  exact Nat.eq_of_mul_eq_mul_left h5 (by rw [← h4, Nat.mul_one])
theorem low_eq {a b c d : Int} (hb : 0 < b) (hd : 0 < d) (h1 : Nat.gcd a.natAbs b.natAbs = 1) (h2 : Nat.gcd c.natAbs d.natAbs = 1) (h : a * d = c * b) : a = c ∧ b = d := by
  have h3 : a.natAbs * d.natAbs = c.natAbs * b.natAbs := by rw [← Int.natAbs_mul, ← Int.natAbs_mul, h]
  have k1 : b.natAbs ∣ d.natAbs := Nat.Coprime.dvd_of_dvd_mul_left (m := a.natAbs) (by rw [Nat.Coprime, Nat.gcd_comm]; exact h1) (by rw [h3]; exact Nat.dvd_mul_left _ _)
  have k2 : d.natAbs ∣ b.natAbs := Nat.Coprime.dvd_of_dvd_mul_left (m := c.natAbs) (by rw [Nat.Coprime, Nat.gcd_comm]; exact h2) (by rw [← h3]; exact Nat.dvd_mul_left _ _)
  have k3 := Nat.dvd_antisymm k1 k2
  have k4 : b = d := by omega
  refine ⟨?_, k4⟩
  rw [k4] at h
  exact Int.eq_of_mul_eq_mul_right (by omega) h
theorem cross : x / gc x y * y = x * (y / gc x y) := by
  have h1 := num_l (x := x) (y := y)
  have h2 := num_r (x := x) (y := y)
  generalize x / gc x y = a at *
  generalize y / gc x y = b at *
  generalize gc x y = g at *
  rw [← h1, ← h2]
  grind
theorem low (hy : 0 < y) (hv : 0 < v) (h : x * v = u * y) : x / gc x y = u / gc u v ∧ y / gc x y = v / gc u v := by
  refine low_eq (bt_pos hy) (bt_pos hv) (cop hy) (cop hv) ?_
  have h1 := num_l (x := x) (y := y)
  have h2 := num_r (x := x) (y := y)
  have h3 := num_l (x := u) (y := v)
  have h4 := num_r (x := u) (y := v)
  have g1 := gc_pos (x := x) hy
  have g2 := gc_pos (x := u) hv
  generalize x / gc x y = a at *
  generalize y / gc x y = b at *
  generalize u / gc u v = c at *
  generalize v / gc u v = d at *
  generalize gc x y = g at *
  generalize gc u v = k at *
  have e : (g * k) * (a * d) = (g * k) * (c * b) := by
    have : (g * a) * (k * d) = (k * c) * (g * b) := by rw [h1, h4, h3, h2, h]
    grind
  exact Int.eq_of_mul_eq_mul_left (by have := Int.mul_pos g1 g2; omega) e
theorem F_eq (hy : 0 < y) (hv : 0 < v) (h : x * v = u * y) : F x y = F u v := by
  unfold F
  obtain ⟨h1, h2⟩ := low hy hv h
  rw [h1, h2]
/-- the sum of two -/
theorem F_add (hy : 0 < y) (hv : 0 < v) {w z : Int} (hz : 0 < z) (h : (x * v + u * y) * z = w * (y * v)) : F (x / gc x y * (v / gc u v) + u / gc u v * (y / gc x y)) (y / gc x y * (v / gc u v)) = F w z := by
  refine F_eq (Int.mul_pos (bt_pos hy) (bt_pos hv)) hz ?_
  have h1 := num_l (x := x) (y := y)
  have h2 := num_r (x := x) (y := y)
  have h3 := num_l (x := u) (y := v)
  have h4 := num_r (x := u) (y := v)
  have g1 := gc_pos (x := x) hy
  have g2 := gc_pos (x := u) hv
  generalize x / gc x y = a at *
  generalize y / gc x y = b at *
  generalize u / gc u v = c at *
  generalize v / gc u v = d at *
  generalize gc x y = g at *
  generalize gc u v = k at *
  have e : (g * k) * ((a * d + c * b) * z) = (g * k) * (w * (b * d)) := by
    have : ((g * a) * (k * d) + (k * c) * (g * b)) * z = w * ((g * b) * (k * d)) := by rw [h1, h4, h3, h2, h]
    grind
  exact Int.eq_of_mul_eq_mul_left (by have := Int.mul_pos g1 g2; omega) e
theorem gc_sm {k : Nat} (hy : 0 < y) (h : Sm k y) : Sm k (gc x y) := by
  have h1 := gc_le (x := x) hy
  have h2 := gc_pos (x := x) hy
  show (gc x y).natAbs < 2 ^ k
  have h3 : y.natAbs < 2 ^ k := h
  omega
theorem gc_div {k : Nat} (hy : 0 < y) (h : Sm k y) (hk : k < 9000) : divOk (gc x y) = true := decide_eq_true ⟨gc_pos hy, by have := (gc_sm (x := x) hy h).log; omega⟩
def gp (g : Int) : Nat → Int
  | 0 => 1
  | k + 1 => gp g k * g
theorem gp_pos {g : Int} (h : 0 < g) : ∀ k, 0 < gp g k
  | 0 => by show (0 : Int) < 1; decide
  | k + 1 => Int.mul_pos (gp_pos h k) h
theorem gp_sm {g : Int} {c : Nat} (h : Sm c g) : ∀ k, Sm (1 + c * k) (gp g k)
  | 0 => by show (1 : Int).natAbs < 2 ^ (1 + c * 0); rw [Nat.mul_zero]; decide
  | k + 1 => ((gp_sm h k).mul h).mono (by rw [Nat.mul_succ]; omega)
theorem gp_add (g : Int) (a : Nat) : ∀ b, gp g (a + b) = gp g a * gp g b
  | 0 => (Int.mul_one _).symm
  | b + 1 => by
    show gp g (a + b) * g = gp g a * (gp g b * g)
    rw [gp_add g a b, Int.mul_assoc]
end DL
set_option Elab.async false
set_option linter.all false
set_option maxRecDepth 100000
set_option maxHeartbeats 1000000
/-! DLN: a net's walk by the program (steps of one common degree), and by the laws (degrees multiplied). -/
namespace DL
open PySem PySem.Spec PyProof.Rows L2 MP
variable {rows : List (List Int)} {kd : Nat}
/-! ### sums -/
theorem sm_mul (c : Int) (f : Nat → Int) : ∀ n, sm n f * c = sm n fun k => f k * c
  | 0 => by rw [sm_zero, sm_zero, Int.zero_mul]
  | n + 1 => by rw [sm_succ, sm_succ, Int.add_mul, sm_mul c f n]
theorem sm_mull (c : Int) (f : Nat → Int) (n : Nat) : c * sm n f = sm n fun k => c * f k := by
  rw [Int.mul_comm, sm_mul]
  exact sm_congr fun k _ => Int.mul_comm _ _
theorem sm_add (f g : Nat → Int) : ∀ n, sm n f + sm n g = sm n fun k => f k + g k
  | 0 => rfl
  | n + 1 => by
    rw [sm_succ, sm_succ, sm_succ, ← sm_add f g n]
    omega
theorem sm_z (n : Nat) : sm n (fun _ => 0) = 0 := by
  induction n with
  | zero => rfl
  | succ n ih => rw [sm_succ, ih]; rfl
theorem sm_swap (f : Nat → Nat → Int) (m : Nat) : ∀ n, (sm n fun i => sm m fun j => f i j) = sm m fun j => sm n fun i => f i j
  | 0 => (sm_z m).symm
  | n + 1 => by
    rw [sm_succ, sm_swap f m n, sm_add]
    exact sm_congr fun j _ => (sm_succ n fun i => f i j).symm
theorem sm_one {n b : Nat} (f : Nat → Int) (hb : b < n) : (sm n fun i => (if i = b then 1 else 0) * f i) = f b := by
  induction n with
  | zero => omega
  | succ n ih =>
    rw [sm_succ]
    by_cases h : n = b
    · subst h
      rw [if_pos rfl, Int.one_mul]
      have : (sm n fun i => (if i = n then 1 else 0) * f i) = 0 := by
        exact (sm_congr (g := fun _ => 0) fun k hk => by rw [if_neg (by omega), Int.zero_mul]).trans (sm_z n)
      omega
    · rw [if_neg h, ih (by omega), Int.zero_mul, Int.add_zero]
theorem sum_sm_el (a : List Int) : a.sum = sm a.length fun k => el a k := by
  unfold sm
  rw [← map_el (fun x => x), List.map_id']
theorem RLr {m : Nat} {f : Nat → Int} : RL ((List.range m).map f) = .dat (.lst ((List.range m).map fun r => D.int (f r))) := congrArg R.dat RL_map
/-! ### a net -/
def cdeg (ds : List Int) : Int := ds.foldl lcmI 1
theorem cdeg_take {ds : List Int} {i : Nat} {d : Int} (h : ds[i]? = some d) : cdeg (ds.take (i + 1)) = lcmI (cdeg (ds.take i)) d := by
  unfold cdeg
  rw [List.take_add_one, h, List.foldl_append]
  rfl
theorem cdeg_sm {k : Nat} {ds : List Int} (hs : ∀ d ∈ ds, Sm k d) : ∀ i, i ≤ ds.length → Sm (1 + k * i) (cdeg (ds.take i))
  | 0, _ => by show (1 : Int).natAbs < 2 ^ (1 + k * 0); rw [Nat.mul_zero]; decide
  | i + 1, hi => by
    rw [cdeg_take (List.getElem?_eq_getElem (by omega : i < ds.length))]
    exact (lcm_sm (cdeg_sm hs i (by omega)) (hs _ (List.getElem_mem _))).mono (by rw [Nat.mul_succ]; omega)
/-- a net whose degrees have at most kd bits -/
structure Net (rows : List (List Int)) (kd : Nat) : Prop extends Tied rows where
  v : ∀ r ∈ rows, Sm kd r.sum
  b1 : 1 + kd * rows.length ≤ 8900
/-- the bits of the common degree, and of the degrees' product -/
abbrev cb (rows : List (List Int)) (kd : Nat) : Nat := 1 + kd * rows.length
abbrev whole (rows : List (List Int)) : Int := cdeg (degs rows)
theorem Net.kd_le (g : Net rows kd) : kd ≤ kd * rows.length := Nat.le_mul_of_pos_right _ g.ge
theorem Net.ds (g : Net rows kd) : ∀ d ∈ degs rows, Sm kd d := fun d hd => by
  obtain ⟨r, hr, e⟩ := List.mem_map.mp hd
  rw [← e]
  exact g.v r hr
theorem Net.ws (g : Net rows kd) : Sm (cb rows kd) (whole rows) := by
  have h := cdeg_sm (k := kd) g.ds (degs rows).length (Nat.le_refl _)
  rw [List.take_length] at h
  refine h.mono ?_
  rw [List.length_map]
  exact Nat.le_refl _
theorem Net.psm (g : Net rows kd) : Sm (cb rows kd) (ps rows) := by
  have h := ps_sm (k := kd) g.v rows.length (Nat.le_refl _)
  rw [List.take_length] at h
  exact h
theorem Net.elw (g : Net rows kd) {r : List Int} (hr : r ∈ rows) {x : Int} (hx : x ∈ r) : Sm kd x := by
  have h1 := sum_ge r x (fun y hy => (g.w r hr y hy).1) hx
  have h2 := (g.w r hr x hx).1
  have h3 : r.sum.natAbs < 2 ^ kd := g.v r hr
  show x.natAbs < 2 ^ kd
  omega
theorem Net.div (g : Net rows kd) {r : List Int} (hr : r ∈ rows) : divOk r.sum = true := decide_eq_true ⟨g.pos r hr, by have := (g.v r hr).log; have := g.b1; have := g.kd_le; omega⟩
theorem Net.vol (g : Net rows kd) : Sm (kd + 6) (degs rows).sum := by
  have h1 := sum_sm (a := kd) (degs rows) g.ds
  rw [List.length_map] at h1
  have h2 : 0 < 2 ^ kd := Nat.pow_pos (by decide)
  show (degs rows).sum.natAbs < 2 ^ (kd + 6)
  rw [Nat.pow_add]
  have h3 : rows.length * 2 ^ kd ≤ 63 * 2 ^ kd := Nat.mul_le_mul_right _ (by have := g.le; omega)
  omega
theorem cdeg_pos0 : ∀ (ds : List Int) (w : Int), 0 < w → (∀ d ∈ ds, 0 < d) → 0 < ds.foldl lcmI w
  | [], w, h, _ => h
  | d :: ds, w, h, hd => cdeg_pos0 ds (lcmI w d) (lcmI_pos h (hd d List.mem_cons_self)) fun e he => hd e (List.mem_cons_of_mem _ he)
theorem whole_pos (hp : ∀ r ∈ rows, 0 < r.sum) : 0 < whole rows := cdeg_pos0 (degs rows) 1 (by decide) fun d hd => by
  obtain ⟨r, hr, e⟩ := List.mem_map.mp hd
  rw [← e]
  exact hp r hr
theorem ps_pos0 : ∀ (rs : List (List Int)) (t : Int), 0 < t → (∀ r ∈ rs, 0 < r.sum) → 0 < rs.foldl (fun t r => t * r.sum) t
  | [], t, h, _ => h
  | r :: rs, t, h, hp => ps_pos0 rs (t * r.sum) (Int.mul_pos h (hp r List.mem_cons_self)) fun r hr => hp r (List.mem_cons_of_mem _ hr)
theorem ps_pos (hp : ∀ r ∈ rows, 0 < r.sum) : 0 < ps rows := ps_pos0 rows 1 (by decide) hp
theorem whole_div {r : List Int} (h : r ∈ rows) : whole rows / r.sum * r.sum = whole rows := Int.ediv_mul_cancel (fold_mem (degs rows) 1 r.sum (List.mem_map.mpr ⟨r, h, rfl⟩))
/-! ### the program's walk -/
def stepRows (rows : List (List Int)) : List (List Int) := (List.range rows.length).map fun r => (List.range rows.length).map fun j => el (row rows r) j * (whole rows / (row rows r).sum)
def deal (rs : List (List Int)) (ns : List Int) : List Int := (List.range rs.length).map fun p => sm rs.length fun k => el ns k * el (row rs k) p
theorem deal_len (rs : List (List Int)) (ns : List Int) : (deal rs ns).length = rs.length := by unfold deal; rw [List.length_map, List.length_range]
theorem sr_len (rows : List (List Int)) : (stepRows rows).length = rows.length := by unfold stepRows; rw [List.length_map, List.length_range]
theorem sr_row {r : Nat} (h : r < rows.length) : row (stepRows rows) r = (List.range rows.length).map fun j => el (row rows r) j * (whole rows / (row rows r).sum) := by
  unfold row stepRows
  rw [List.getElem?_map, List.getElem?_range h]
  rfl
theorem sr_mem {r : List Int} (h : r ∈ stepRows rows) : ∃ k, k < rows.length ∧ r = (List.range rows.length).map fun j => el (row rows k) j * (whole rows / (row rows k).sum) := by
  obtain ⟨k, hk, e⟩ := List.mem_map.mp (show r ∈ (List.range rows.length).map _ from h)
  exact ⟨k, List.mem_range.mp hk, e.symm⟩
theorem sr_sq {r : List Int} (h : r ∈ stepRows rows) : r.length = (stepRows rows).length := by
  obtain ⟨k, hk, e⟩ := sr_mem h
  rw [e, sr_len, List.length_map, List.length_range]
theorem sr_sm (g : Net rows kd) {r : List Int} (h : r ∈ stepRows rows) : ∀ x ∈ r, Sm (kd + cb rows kd) x := fun x hx => by
  obtain ⟨k, hk, e⟩ := sr_mem h
  rw [e] at hx
  obtain ⟨j, hj, rfl⟩ := mem_rng hx
  exact (g.elw (row_mem hk) (el_mem (by rw [g.sq _ (row_mem hk)]; exact hj))).mul (div_sm g.ws (g.pos _ (row_mem hk)))
def pw (rows : List (List Int)) (b : Nat) : Nat → List Int
  | 0 => unit rows.length b
  | k + 1 => deal (stepRows rows) (pw rows b k)
abbrev sc (rows : List (List Int)) (k : Nat) : Int := gp (whole rows) k
theorem pw_len (rows : List (List Int)) (b : Nat) : ∀ k, (pw rows b k).length = rows.length
  | 0 => by show ((List.range rows.length).map _).length = _; simp
  | k + 1 => by show (deal _ _).length = _; rw [deal_len, sr_len]
/-- the bits of a step -/
abbrev sb (rows : List (List Int)) (kd : Nat) : Nat := kd + cb rows kd + 6
theorem pw_sm (g : Net rows kd) (b : Nat) : ∀ k, ∀ x ∈ pw rows b k, Sm (1 + sb rows kd * k) x
  | 0, x, hx => by
    obtain ⟨j, _, e⟩ := mem_rng (show x ∈ (List.range rows.length).map _ from hx)
    subst e
    show (if j = b then (1 : Int) else 0).natAbs < 2 ^ (1 + sb rows kd * 0)
    rw [Nat.mul_zero]
    split <;> decide
  | k + 1, x, hx => by
    obtain ⟨j, hj, e⟩ := mem_rng (show x ∈ (List.range (stepRows rows).length).map _ from hx)
    subst e
    have ih := pw_sm g b k
    have hz := g.le
    refine (sm_sm (a := 1 + sb rows kd * k + (kd + cb rows kd)) (fun i hi => ?_) (by rw [sr_len]; omega)).mono (by have hs : sb rows kd = kd + cb rows kd + 6 := rfl; rw [Nat.mul_succ (sb rows kd) k]; omega)
    have hi' : i < (pw rows b k).length := by rw [pw_len, ← sr_len]; exact hi
    exact (ih _ (el_mem hi')).mul (sr_sm g (row_mem hi) _ (el_mem (by rw [sr_sq (row_mem hi)]; exact hj)))
theorem sc_sm (g : Net rows kd) (k : Nat) : Sm (1 + cb rows kd * k) (sc rows k) := gp_sm g.ws k
theorem sc_pos (hp : ∀ r ∈ rows, 0 < r.sum) (k : Nat) : 0 < sc rows k := gp_pos (whole_pos hp) k
/-! ### strays -/
def strayT (rows : List (List Int)) (ns : List Int) (k : Nat) : Int := el ns k * el ns k * (whole rows / (row rows k).sum)
def tot (rows : List (List Int)) (ns : List Int) : Int := sm rows.length (strayT rows ns)
def botP (rows : List (List Int)) (sc : Int) : Int := whole rows * sc * sc
def topP (rows : List (List Int)) (ns : List Int) (sc : Int) : Int := (degs rows).sum * tot rows ns - botP rows sc
theorem strayT_sm (g : Net rows kd) {ns : List Int} {k1 : Nat} (hn : ns.length = rows.length) (ha : ∀ x ∈ ns, Sm k1 x) {k : Nat} (hk : k < rows.length) : Sm (k1 + k1 + cb rows kd) (strayT rows ns k) :=
  ((ha _ (el_mem (by omega))).mul (ha _ (el_mem (by omega)))).mul (div_sm g.ws (g.pos _ (row_mem hk)))
theorem tot_sm (g : Net rows kd) {ns : List Int} {k1 : Nat} (hn : ns.length = rows.length) (ha : ∀ x ∈ ns, Sm k1 x) : Sm (k1 + k1 + cb rows kd + 6) (tot rows ns) := sm_sm (fun k hk' => strayT_sm g hn ha hk') (by have := g.le; omega)
theorem botP_sm (g : Net rows kd) {ks : Nat} {sc : Int} (hs : Sm ks sc) : Sm (cb rows kd + ks + ks) (botP rows sc) := (g.ws.mul hs).mul hs
theorem botP_pos (hp : ∀ r ∈ rows, 0 < r.sum) {s : Int} (hs : 0 < s) : 0 < botP rows s := Int.mul_pos (Int.mul_pos (whole_pos hp) hs) hs
/-! ### the law's walk -/
def prt (rows : List (List Int)) : List Int := rows.map fun r => ps rows / r.sum
def lwd (rows : List (List Int)) (ns : List Int) : List Int := (List.range rows.length).map fun i => el ns i * el (prt rows) i
def lws (rows : List (List Int)) (ns : List Int) : List Int := (List.range rows.length).map fun j => sm rows.length fun k => el (row rows j) k * el (lwd rows ns) k
def W (rows : List (List Int)) (b : Nat) : Nat → List Int
  | 0 => unit rows.length b
  | k + 1 => lws rows (W rows b k)
theorem prt_len : (prt rows).length = rows.length := by unfold prt; rw [List.length_map]
theorem prt_at {i : Nat} (h : i < rows.length) : el (prt rows) i = ps rows / (row rows i).sum := by
  unfold el prt row
  rw [List.getElem?_map, List.getElem?_eq_getElem h]
  rfl
theorem prt_sm (g : Net rows kd) : ∀ x ∈ prt rows, Sm (cb rows kd) x := fun x hx => by
  obtain ⟨r, hr, e⟩ := List.mem_map.mp hx
  rw [← e]
  exact div_sm g.psm (g.pos r hr)
theorem lwd_len (rows : List (List Int)) (ns : List Int) : (lwd rows ns).length = rows.length := by unfold lwd; rw [List.length_map, List.length_range]
theorem W_len (rows : List (List Int)) (b : Nat) : ∀ k, (W rows b k).length = rows.length
  | 0 => by show ((List.range rows.length).map _).length = _; simp
  | k + 1 => by show ((List.range rows.length).map _).length = _; simp
theorem W_sm (g : Net rows kd) (b : Nat) : ∀ k, ∀ x ∈ W rows b k, Sm (1 + sb rows kd * k) x
  | 0, x, hx => by
    obtain ⟨j, _, e⟩ := mem_rng (show x ∈ (List.range rows.length).map _ from hx)
    subst e
    show (if j = b then (1 : Int) else 0).natAbs < 2 ^ (1 + sb rows kd * 0)
    rw [Nat.mul_zero]
    split <;> decide
  | k + 1, x, hx => by
    obtain ⟨j, hj, e⟩ := mem_rng (show x ∈ (List.range rows.length).map _ from hx)
    subst e
    have ih := W_sm g b k
    have hz := g.le
    refine (sm_sm (a := kd + (1 + sb rows kd * k + cb rows kd)) (fun i hi => ?_) (by omega)).mono (by have hs : sb rows kd = kd + cb rows kd + 6 := rfl; rw [Nat.mul_succ (sb rows kd) k]; omega)
    refine (g.elw (row_mem hj) (el_mem (by rw [g.sq _ (row_mem hj)]; exact hi))).mul ?_
    unfold lwd
    rw [el_map hi]
    exact (ih _ (el_mem (by rw [W_len]; exact hi))).mul (prt_sm g _ (el_mem (by rw [prt_len]; exact hi)))
theorem lwd_sm (g : Net rows kd) (b k : Nat) : ∀ x ∈ lwd rows (W rows b k), Sm (1 + sb rows kd * k + cb rows kd) x := fun x hx => by
  obtain ⟨j, hj, e⟩ := mem_rng (show x ∈ (List.range rows.length).map _ from hx)
  subst e
  exact (W_sm g b k _ (el_mem (by rw [W_len]; exact hj))).mul (prt_sm g _ (el_mem (by rw [prt_len]; exact hj)))
/-! ### both are one -/
theorem cut {i : Nat} (h : i < rows.length) : whole rows / (row rows i).sum * ps rows = whole rows * el (prt rows) i := by
  have h1 := whole_div (rows := rows) (r := row rows i) (row_mem h)
  have h2 := ps_div (rows := rows) (r := row rows i) (row_mem h)
  rw [prt_at h]
  have e3 : ∀ q p d L G : Int, q * d = L → p * d = G → q * G = L * p := fun q p d L G a b => by
    rw [← a, ← b]
    grind
  exact e3 _ _ _ _ _ h1 h2
theorem el_W {b k j : Nat} (hj : j < rows.length) : el (W rows b (k + 1)) j = sm rows.length fun i => el (row rows j) i * (el (W rows b k) i * el (prt rows) i) := by
  show el (lws rows (W rows b k)) j = _
  unfold lws
  rw [el_map hj]
  exact sm_congr fun i hi => by unfold lwd; rw [el_map hi]
theorem pw_eq (g : Tied rows) (b : Nat) : ∀ k j, j < rows.length → el (pw rows b k) j * gp (ps rows) k = el (W rows b k) j * sc rows k
  | 0, j, hj => rfl
  | k + 1, j, hj => by
    have ih := pw_eq g b k
    have e1 : el (pw rows b (k + 1)) j = sm rows.length fun i => el (pw rows b k) i * (el (row rows i) j * (whole rows / (row rows i).sum)) := by
      show el (deal (stepRows rows) (pw rows b k)) j = _
      unfold deal
      rw [el_map (by rw [sr_len]; exact hj), sr_len]
      refine sm_congr fun i hi => ?_
      rw [sr_row hi, el_map hj]
    show _ * (gp (ps rows) k * ps rows) = _ * (sc rows k * whole rows)
    rw [e1, el_W hj, sm_mul, sm_mul]
    refine sm_congr fun i hi => ?_
    have c := cut hi
    have h1 := ih i hi
    rw [g.sym i j hi hj]
    have alg : ∀ a t g L P q G w sk : Int, a * g = t * sk → q * G = L * P → a * (w * q) * (g * G) = w * (t * P) * (sk * L) := fun a t g L P q G w sk h1 h2 => by
      have : a * (w * q) * (g * G) = (a * g) * w * (q * G) := by grind
      rw [this, h1, h2]
      grind
    exact alg _ _ _ _ _ _ _ _ _ h1 c
/-- the law's stray, times the volume -/
def strW (rows : List (List Int)) (b k : Nat) : Int := sm rows.length fun j => el (W rows b k) j * el (W rows b k) j * el (prt rows) j
/-- its bottom -/
def und (rows : List (List Int)) (k : Nat) : Int := gp (ps rows) (2 * k) * ps rows
theorem gp_two (g : Int) (k : Nat) : gp g (2 * k) = gp g k * gp g k := by rw [show 2 * k = k + k by omega, gp_add]
theorem und_pos (g : Tied rows) (k : Nat) : 0 < und rows k := Int.mul_pos (gp_pos (ps_pos g.pos) _) (ps_pos g.pos)
theorem tot_eq (g : Tied rows) (b k : Nat) : tot rows (pw rows b k) * und rows k = strW rows b k * botP rows (sc rows k) := by
  unfold tot strW botP und
  rw [sm_mul, sm_mul, gp_two]
  refine sm_congr fun i hi => ?_
  unfold strayT
  have c := cut hi
  have h1 := pw_eq g b k i hi
  have alg : ∀ a t g L P q G sk : Int, a * g = t * sk → q * G = L * P → a * a * q * (g * g * G) = t * t * P * (L * sk * sk) := fun a t g L P q G sk h1 h2 => by
    have : a * a * q * (g * g * G) = (a * g) * (a * g) * (q * G) := by grind
    rw [this, h1, h2]
    grind
  exact alg _ _ _ _ _ _ _ _ h1 c
theorem top_eq (g : Tied rows) (b k : Nat) : topP rows (pw rows b k) (sc rows k) * und rows k = ((degs rows).sum * strW rows b k - und rows k) * botP rows (sc rows k) := by
  have h := tot_eq g b k
  unfold topP
  generalize tot rows (pw rows b k) = T at *
  generalize botP rows (sc rows k) = B at *
  generalize und rows k = U at *
  generalize strW rows b k = X at *
  have : ((degs rows).sum * T - B) * U = (degs rows).sum * (T * U) - B * U := by grind
  rw [this, h]
  grind
/-! ### the law's walk: to and fro -/
abbrev w (rows : List (List Int)) (k b j : Nat) : Int := el (W rows b k) j
theorem w_zero {b j : Nat} (hj : j < rows.length) : w rows 0 b j = if j = b then 1 else 0 := el_map hj
theorem w_succ {k b j : Nat} (hj : j < rows.length) : w rows (k + 1) b j = sm rows.length fun i => el (row rows j) i * (w rows k b i * el (prt rows) i) := el_W hj
/-- the first step apart -/
theorem w_right (g : Tied rows) : ∀ k b j, b < rows.length → j < rows.length → w rows (k + 1) b j = sm rows.length fun i => w rows k i j * (el (row rows i) b * el (prt rows) b)
  | 0, b, j, hb, hj => by
    rw [w_succ hj]
    have e1 : (sm rows.length fun i => el (row rows j) i * (w rows 0 b i * el (prt rows) i)) = sm rows.length fun i => (if i = b then 1 else 0) * (el (row rows j) i * el (prt rows) i) := sm_congr fun i hi => by
      rw [w_zero hi]
      split <;> simp
    have e2 : (sm rows.length fun i => w rows 0 i j * (el (row rows i) b * el (prt rows) b)) = sm rows.length fun i => (if i = j then 1 else 0) * (el (row rows i) b * el (prt rows) b) := sm_congr fun i hi => by
      rw [w_zero hj]
      by_cases h : j = i
      · subst h; rfl
      · rw [if_neg h, if_neg (fun z => h z.symm)]
    rw [e1, e2, sm_one _ hb, sm_one _ hj]
  | k + 1, b, j, hb, hj => by
    rw [w_succ hj]
    have e1 : (sm rows.length fun i => el (row rows j) i * (w rows (k + 1) b i * el (prt rows) i)) = sm rows.length fun i => sm rows.length fun l => el (row rows j) i * (w rows k l i * (el (row rows l) b * el (prt rows) b) * el (prt rows) i) := sm_congr fun i hi => by
      rw [w_right g k b i hb hi, sm_mul, sm_mull]
    rw [e1, sm_swap]
    refine sm_congr fun l hl => ?_
    rw [w_succ hj, sm_mul]
    exact sm_congr fun i hi => by grind
/-- two walks, one behind the other -/
theorem w_add (s : Nat) (b : Nat) : ∀ t j, j < rows.length → w rows (s + t) b j = sm rows.length fun i => w rows s b i * w rows t i j
  | 0, j, hj => by
    have e : (sm rows.length fun i => w rows s b i * w rows 0 i j) = sm rows.length fun i => (if i = j then 1 else 0) * w rows s b i := sm_congr fun i hi => by
      rw [w_zero hj]
      by_cases h : j = i
      · subst h; simp
      · rw [if_neg h, if_neg (fun z => h z.symm)]; simp
    rw [e, sm_one _ hj]
    rfl
  | t + 1, j, hj => by
    show w rows (s + t + 1) b j = _
    rw [w_succ hj]
    have e1 : (sm rows.length fun l => el (row rows j) l * (w rows (s + t) b l * el (prt rows) l)) = sm rows.length fun l => sm rows.length fun i => el (row rows j) l * (w rows s b i * w rows t i l * el (prt rows) l) := sm_congr fun l hl => by
      rw [w_add s b t l hl, sm_mul, sm_mull]
    rw [e1, sm_swap]
    refine sm_congr fun i hi => ?_
    rw [w_succ hj, sm_mull]
    exact sm_congr fun l hl => by grind
theorem prt_deg {i : Nat} (h : i < rows.length) : el (prt rows) i * (row rows i).sum = ps rows := by
  rw [prt_at h]
  exact ps_div (row_mem h)
/-- detailed balance -/
theorem w_bal (g : Tied rows) : ∀ k b j, b < rows.length → j < rows.length → w rows k b j * (row rows b).sum = w rows k j b * (row rows j).sum
  | 0, b, j, hb, hj => by
    rw [w_zero hj, w_zero hb]
    by_cases h : j = b
    · subst h; rfl
    · rw [if_neg h, if_neg (fun z => h z.symm), Int.zero_mul, Int.zero_mul]
  | k + 1, b, j, hb, hj => by
    rw [w_succ hj, w_right g k j b hj hb, sm_mul, sm_mul]
    refine sm_congr fun i hi => ?_
    have h1 := w_bal g k b i hb hi
    have h2 := prt_deg hi
    have h3 := prt_deg hj
    have h4 := g.sym i j hi hj
    have alg : ∀ A wbi wib pi pj di db dj G : Int, wbi * db = wib * di → pi * di = G → pj * dj = G → A * (wbi * pi) * db = wib * (A * pj) * dj := fun A wbi wib pi pj di db dj G a b c => by
      have e1 : A * (wbi * pi) * db = A * (wbi * db) * pi := by grind
      have e2 : wib * (A * pj) * dj = A * wib * (pj * dj) := by grind
      rw [e1, e2, a, c, ← b]
      grind
    rw [h4]
    exact alg _ _ _ _ _ _ _ _ _ h1 h2 h3
/-- the strays by the degrees: the returns in twice the steps -/
theorem stray_sum (g : Tied rows) (k : Nat) : (sm rows.length fun i => (row rows i).sum * strW rows i k) = ps rows * sm rows.length fun i => w rows (2 * k) i i := by
  rw [sm_mull]
  have e1 : (sm rows.length fun i => (row rows i).sum * strW rows i k) = sm rows.length fun i => ps rows * w rows (2 * k) i i := sm_congr fun i hi => by
    rw [show 2 * k = k + k by omega, w_add k i k i hi, sm_mull]
    unfold strW
    rw [sm_mull]
    refine sm_congr fun j hj => ?_
    have h1 := w_bal g k i j hi hj
    have h2 := prt_deg hj
    have alg : ∀ di wij wji p dj G : Int, wij * di = wji * dj → p * dj = G → di * (wij * wij * p) = G * (wij * wji) := fun di wij wji p dj G a b => by
      have : di * (wij * wij * p) = (wij * di) * wij * p := by grind
      rw [this, a, ← b]
      grind
    exact alg _ _ _ _ _ _ h1 h2
  rw [e1]
/-! ### returns -/
def trc (rows : List (List Int)) (t : Nat) : Int := sm rows.length fun s => el (pw rows s t) s
/-- the law's returns -/
def clo (rows : List (List Int)) (t : Nat) : Int := sm rows.length fun i => w rows t i i
theorem trc_eq (g : Tied rows) (t : Nat) : trc rows t * gp (ps rows) t = clo rows t * sc rows t := by
  unfold trc clo
  rw [sm_mul, sm_mul]
  exact sm_congr fun i hi => pw_eq g i t i hi
theorem sm_ones : ∀ n, (sm n fun _ => 1) = n
  | 0 => rfl
  | n + 1 => by rw [sm_succ, sm_ones n]; omega
theorem trc_zero : trc rows 0 = rows.length := by
  unfold trc
  rw [← sm_ones rows.length]
  exact sm_congr fun i hi => by show el (unit rows.length i) i = 1; unfold unit; rw [el_map hi, if_pos rfl]
theorem strW_zero {b : Nat} (hb : b < rows.length) : strW rows b 0 = el (prt rows) b := by
  unfold strW
  have e : (sm rows.length fun j => el (W rows b 0) j * el (W rows b 0) j * el (prt rows) j) = sm rows.length fun j => (if j = b then 1 else 0) * el (prt rows) j := sm_congr fun j hj => by
    have := w_zero (rows := rows) (b := b) hj
    unfold w at this
    rw [this]
    split <;> simp
  rw [e, sm_one _ hb]
/-- the stray's top, by the law -/
def due (rows : List (List Int)) (b k : Nat) : Int := (degs rows).sum * strW rows b k - und rows k
theorem due_zero {b : Nat} (hb : b < rows.length) : due rows b 0 * (row rows b).sum = ((degs rows).sum - (row rows b).sum) * und rows 0 := by
  have h := prt_deg hb
  have e : und rows 0 = ps rows := by show 1 * ps rows = _; rw [Int.one_mul]
  unfold due
  rw [strW_zero hb, e, ← h]
  grind
theorem due_sum (g : Tied rows) (k : Nat) : (sm rows.length fun i => (row rows i).sum * due rows i k) = (degs rows).sum * (ps rows * (clo rows (2 * k) - gp (ps rows) (2 * k))) := by
  have h := stray_sum g k
  have e1 : (sm rows.length fun i => (row rows i).sum * due rows i k) = (sm rows.length fun i => ((row rows i).sum * strW rows i k) * (degs rows).sum) + sm rows.length fun i => (row rows i).sum * (- und rows k) := by
    rw [sm_add]
    exact sm_congr fun i hi => by unfold due; grind
  rw [e1, ← sm_mul, ← sm_mul, h]
  have e2 : (sm rows.length fun i => (row rows i).sum) = (degs rows).sum := by
    unfold sm degs
    rw [← map_row List.sum]
  rw [e2]
  unfold und clo
  grind
theorem F_due (g : Tied rows) (b k : Nat) : F (topP rows (pw rows b k) (sc rows k)) (botP rows (sc rows k)) = F (due rows b k) (und rows k) := F_eq (botP_pos g.pos (sc_pos g.pos k)) (und_pos g k) (top_eq g b k)
theorem F_clo (g : Tied rows) (t : Nat) : F (trc rows t) (sc rows t) = F (clo rows t) (gp (ps rows) t) := F_eq (sc_pos g.pos t) (gp_pos (ps_pos g.pos) t) (trc_eq g t)
/-- the strays' weighed sum, by fractions that are multiplied out -/
theorem fin_eq {left bottom C U th bh V G : Int} (hU : 0 < U) (hG : 0 < G) (h : left * (U * G) = bottom * (V * (G * (C - U)))) (hh : th * U = C * bh) : left * bh = (th - bh) * bottom * V := by
  have e1 : left * U = bottom * (V * (C - U)) := by
    refine Int.eq_of_mul_eq_mul_right (a := G) (by omega) ?_
    have : left * U * G = left * (U * G) := by grind
    rw [this, h]
    grind
  refine Int.eq_of_mul_eq_mul_right (a := U) (by omega) ?_
  have a1 : left * bh * U = (left * U) * bh := by grind
  rw [a1, e1]
  have a2 : (th - bh) * bottom * V * U = (th * U - bh * U) * bottom * V := by grind
  rw [a2, hh]
  grind
theorem add_sm {a : Nat} {x y : Int} (hx : Sm a x) (hy : Sm a y) : Sm (a + 1) (x + y) := by
  show (x + y).natAbs < 2 ^ (a + 1)
  have h1 : x.natAbs < 2 ^ a := hx
  have h2 : y.natAbs < 2 ^ a := hy
  have h3 := Int.natAbs_add_le x y
  rw [Nat.pow_succ]
  omega
theorem strW_sm (g : Net rows kd) (b t : Nat) : Sm (2 * (1 + sb rows kd * t) + cb rows kd + 6) (strW rows b t) :=
  (sm_sm (a := 1 + sb rows kd * t + (1 + sb rows kd * t) + cb rows kd) (fun j hj => ((W_sm g b t _ (el_mem (by rw [W_len]; exact hj))).mul (W_sm g b t _ (el_mem (by rw [W_len]; exact hj)))).mul (prt_sm g _ (el_mem (by rw [prt_len]; exact hj)))) (by have := g.le; omega)).mono (by omega)
theorem und_sm (g : Net rows kd) (t : Nat) : Sm (1 + cb rows kd * (2 * t) + cb rows kd) (und rows t) := (gp_sm g.psm (2 * t)).mul g.psm
theorem clo_sm (g : Net rows kd) (t : Nat) : Sm (1 + sb rows kd * t + 6) (clo rows t) := sm_sm (fun i hi => W_sm g i t _ (el_mem (by rw [W_len]; exact hi))) (by have := g.le; omega)
end DL
set_option Elab.async false
set_option linter.all false
set_option maxRecDepth 100000
set_option maxHeartbeats 1000000
/-! DLP: tables as cells; nets from drawn rows; the pool. -/
namespace DL
open PySem PySem.Spec PyProof.Rows L2 MP
variable {n : Nat} {S : Store} {rows M : List (List Int)} {m : Nat} {B : Int}
/-! ### tables as cells -/
theorem rep_stM : Rep (stM S M) (.own (S.length + M.length)) M (ownsR S.length M.length) := by
  refine ⟨Lst.own stM_outer, by unfold ownsR; rw [List.length_map, List.length_range], fun k x hx => ?_⟩
  unfold ownsR at hx
  rw [List.getElem?_map] at hx
  cases e : (List.range M.length)[k]? with
  | none => rw [e] at hx; cases hx
  | some i =>
    rw [e] at hx
    cases hx
    have hk := (List.getElem?_eq_some_iff.mp e).1
    rw [List.length_range] at hk
    rw [List.getElem?_range hk] at e
    cases e
    exact RowR.own (stM_row hk)
theorem loop_rows {t : IT} {c : MP.Env → MP.M Bool} {e : MP.Env → MP.M (List R)} {ρ0 : MP.Env} : ∀ {xs : List Itm} {S : Store} {M : List (List Int)}, xs.length = M.length → (∀ (k : Nat) x, xs[k]? = some x → ∀ S', ∃ ρ', bindT t x ρ0 S' = some ρ' ∧ c ρ' S' = .ok true S' ∧ e ρ' S' = .ok [.own S'.length] (S' ++ [pool (row M k)])) →
    lcLoop [] (lcTurn t [] c e ρ0) xs S = .ok (ownsR S.length M.length) (S ++ M.map pool)
  | [], S, [], _, _ => by
    show (if gdOk S [] = true then Res.ok [] S else .stuck) = _
    rw [if_pos gd_nil]
    simp [ownsR]
  | [], S, _ :: _, h, _ => by cases h
  | _ :: _, S, [], h, _ => by cases h
  | x :: xs, S, a :: M, hl, h => by
    obtain ⟨ρ', h1, h2, h3⟩ := h 0 x rfl S
    have h3' : e ρ' S = .ok [.own S.length] (S ++ [pool a]) := h3
    have e1 : lcTurn t [] c e ρ0 x S = .ok [.own S.length] (S ++ [pool a]) := by
      unfold lcTurn
      rw [if_pos gd_nil]
      simp only [h1]
      unfold MP.M.noX
      rw [bind_at h2]
      simp only [if_pos, h3']
    have ih := loop_rows (t := t) (c := c) (e := e) (ρ0 := ρ0) (xs := xs) (S := S ++ [pool a]) (M := M) (Nat.succ.inj hl) fun k y hy => h (k + 1) y hy
    show MP.M.bind (lcTurn t [] c e ρ0 x) (fun a => MP.M.bind (lcLoop [] (lcTurn t [] c e ρ0) xs) fun b => MP.M.pure (a ++ b)) S = _
    rw [bind_at e1, bind_at ih]
    have e2 : [R.own S.length] ++ ownsR (S ++ [pool a]).length M.length = ownsR S.length (M.length + 1) := by
      unfold ownsR
      rw [List.range_succ_eq_map, List.map_cons, List.map_map]
      simp [Function.comp_def, Nat.add_assoc, Nat.add_comm 1]
    show Res.ok ([R.own S.length] ++ ownsR (S ++ [pool a]).length M.length) _ = _
    rw [e2]
    simp
/-- [list(row) for row in rows], to be changed -/
theorem lc_own {C : Calls} {e a : IE} {i : Nat} {x : Str} {px : Pos} {own : List (Str × Nat)} {sc : Scope} {p : Pos} {ρ : MP.Env} (ha : evE C a ρ S = .ok (RM M) S) (hl : M.length ≤ 1000000)
    (hx : ∀ k, k < M.length → ∀ S', evE C e ((wipeE ρ (own.map (·.2))).set i (some (RL (row M k)))) S' = .ok (.own S'.length) (S' ++ [pool (row M k)])) : evE C (.lc true e (.one i x px) (.of a) .nil own sc p) ρ S = .ok (.own (S.length + M.length)) (stM S M) := by
  have hi := ii_wk ha (Lst.dat (S := S) (l := M.map IL)).toWk
  show MP.M.bind (evII C (.of a) ρ) (fun q => MP.M.bind (lcLoop q.2 (lcTurn (.one i x px) q.2 (fun ρ' => evTs C .nil ρ') (fun ρ' => MP.M.bind (evE C e ρ') fun r => MP.M.pure [r]) (wipeE ρ (own.map (·.2)))) q.1) (lcOut true)) S = _
  rw [bind_at hi]
  have q := loop_rows (t := .one i x px) (c := fun ρ' => evTs C .nil ρ') (e := fun ρ' => MP.M.bind (evE C e ρ') fun r => MP.M.pure [r]) (ρ0 := wipeE ρ (own.map (·.2))) (xs := ((M.map IL).map R.dat).map Itm.one) (S := S) (M := M) (by rw [List.length_map, List.length_map, List.length_map]) (fun k y hy S' => by
    obtain ⟨z, h1, rfl⟩ := one_at hy
    obtain ⟨hk, rfl⟩ := il_at h1
    exact ⟨_, rfl, rfl, by rw [bind_at (hx k hk S')]; rfl⟩)
  have q' : lcLoop (guardR S (RM M)) (lcTurn (.one i x px) (guardR S (RM M)) (fun ρ' => evTs C .nil ρ') (fun ρ' => MP.M.bind (evE C e ρ') fun r => MP.M.pure [r]) (wipeE ρ (own.map (·.2)))) (((M.map IL).map R.dat).map Itm.one) S = .ok (ownsR S.length M.length) (S ++ M.map pool) := q
  rw [bind_at q']
  unfold lcOut
  have h2 : small (ownsR S.length M.length).length = true := by
    unfold ownsR
    rw [List.length_map, List.length_range]
    exact decide_eq_true hl
  rw [if_pos h2]
  unfold mkL DL.stM
  simp
theorem r_put1 {C : CallsX} {ρ : MP.Env} {ns : List Int} {a b : IE} {e : IE} {p1 p2 : Pos} {i j : Nat} {w : Int} (hn : M.length = m) (hr : evE C.toCalls a ρ (stM [pool ns] M) = .ok (.own (1 + i)) (stM [pool ns] M)) (hb : evE C.toCalls b ρ (stM [pool ns] M) = .ok (RI (j : Int)) (stM [pool ns] M)) (he : evE C.toCalls e ρ (stM [pool ns] M) = .ok (RI w) (stM [pool ns] M))
    (hi : i < M.length) (hj : j < (row M i).length) : evS C (.setIx a b e p1 p2) ρ (stM [pool ns] M) = .go .next ρ (stM [pool ns] (put M i j w)) := by
  have h2 := set_cell (S := [pool ns]) (w := w) hi hj
  have h3 : [pool ns].length = 1 := rfl
  rw [h3] at h2
  show SRes.of ρ (MP.M.bind (evE C.toCalls e ρ) (fun v => MP.M.bind (evE C.toCalls a ρ) fun x => MP.M.bind (evE C.toCalls b ρ) fun y => setIxR x y v) (stM [pool ns] M)) _ = _
  rw [bind_at he, bind_at hr, bind_at hb, h2]
  rfl
/-! ### nets -/
theorem Sq.mem (g : Sq m B M) {r : List Int} (h : r ∈ M) : r.length = m ∧ ∀ x ∈ r, 0 ≤ x ∧ x ≤ B := by
  obtain ⟨i, hi, rfl⟩ := mem_row h
  rw [g.len] at hi
  refine ⟨g.row i hi, fun x hx => ?_⟩
  obtain ⟨k, hk, rfl⟩ := mem_el hx
  rw [g.row i hi] at hk
  exact g.pos i k hi hk
theorem Sq.net (g : Sq m B M) {kd : Nat} (h1 : 1 ≤ m) (h2 : m ≤ 40) (hB : B ≤ 1000000000000000000000000000000) (hp : ∀ a, a < m → 0 < (DL.row M a).sum) (hk : (m : Int) * B < ((2 ^ kd : Nat) : Int)) (hb : 1 + kd * m ≤ 8900) : Net M kd := by
  have hl := g.len
  refine ⟨⟨by omega, by omega, fun r hr => by rw [hl]; exact (g.mem hr).1, fun r hr x hx => ?_, fun i j hi hj => ?_, fun r hr => ?_⟩, fun r hr => ?_, by rw [hl]; exact hb⟩
  · have := (g.mem hr).2 x hx
    omega
  · rw [hl] at hi hj
    exact g.sym i j hi hj
  · obtain ⟨i, hi, rfl⟩ := mem_row hr
    rw [hl] at hi
    exact hp i hi
  · have a := sum_nn r fun x hx => ((g.mem hr).2 x hx).1
    have b := sum_le (l := r) (b := B) fun x hx => ((g.mem hr).2 x hx).2
    rw [(g.mem hr).1] at b
    show r.sum.natAbs < 2 ^ kd
    omega
/-- a tie set -/
theorem Sq.put2_pos (g : Sq m B M) {i j : Nat} {w : Int} (hi : i < m) (hj : j < m) (h0 : 0 < w) (h1 : w ≤ B) (hp : ∀ a, a < m → 0 < (DL.row M a).sum) : ∀ a, a < m → 0 < (DL.row (DL.put2 M i j w) a).sum := fun a ha => by
  have g' := g.put2 (w := w) hi hj (by omega) h1
  by_cases e1 : a = i
  · exact g'.pos_of (b := j) ha hj (by rw [g.ent2 hi hj, if_pos (Or.inl ⟨e1, rfl⟩)]; exact h0)
  · by_cases e2 : a = j
    · exact g'.pos_of (b := i) ha hi (by rw [g.ent2 hi hj, if_pos (Or.inr ⟨e2, rfl⟩)]; exact h0)
    · rw [g.put2_row hi hj e1 e2]
      exact hp a ha
/-! ### equal tables -/
theorem pys_tl : ∀ rows : List (List Int), pys (rows.map TL) = some (rows.map fun r => PyData.tuple (r.map PyData.int))
  | [] => rfl
  | r :: rows => by
    show (match (pys (r.map D.int)).map PyData.tuple, pys (rows.map TL) with
    | some x, some xs => some (x :: xs)
    | _, _ => none) = _
    rw [pys_tl rows, pys_map]
    rfl
theorem lay_tl : ∀ rows : List (List Int), PyData.canLayAll0 (rows.map fun r => PyData.tuple (r.map PyData.int)) = true
  | [] => by simp [PyData.canLayAll0]
  | r :: rows => by simp [PyData.canLayAll0, PyData.canLay0, lay_ints r, lay_tl rows]
theorem dep_tl : ∀ rows : List (List Int), PyData.depthAll (rows.map fun r => PyData.tuple (r.map PyData.int)) ≤ 4
  | [] => by simp [PyData.depthAll]
  | r :: rows => by
    have h1 := dep_tl rows
    have h2 := dep_ints r
    simp [PyData.depthAll, PyData.depth] <;> omega
theorem eq_tl {rows : List (List Int)} : cmpR .eq (.dat (.tup (rows.map TL))) (.dat (.tup (rows.map TL))) S = .ok (.dat (.bl true)) S := by
  have e3 : py (.tup (rows.map TL)) = some (.tuple (rows.map fun r => PyData.tuple (r.map PyData.int))) := by
    show (pys (rows.map TL)).map PyData.tuple = _
    rw [pys_tl]
    rfl
  have l0 : PyData.canLay0 (.tuple (rows.map fun r => PyData.tuple (r.map PyData.int))) = true := by simp [PyData.canLay0, lay_tl rows]
  have sh : SeqAt.shaped (.tuple (rows.map fun r => PyData.tuple (r.map PyData.int))) = true := by
    unfold SeqAt.shaped
    rw [Bool.and_eq_true, decide_eq_true_iff]
    refine ⟨l0, ?_⟩
    have := dep_tl rows
    simp only [PyData.depth]
    omega
  show (match (match toD 0 S 8 (.dat (.tup (rows.map TL))), toD 0 S 8 (.dat (.tup (rows.map TL))) with
    | some d, some e => (match py d, py e with
      | some x, some y => if SeqAt.shaped x = true ∧ SeqAt.shaped y = true then some (PyData.eqv x y) else none
      | _, _ => none)
    | _, _ => none) with
    | some c => Res.ok (R.dat (.bl c)) S
    | none => .stuck) = _
  have e2 : toD 0 S 8 (.dat (.tup (rows.map TL))) = some (.tup (rows.map TL)) := rfl
  rw [e2]
  simp only [e3]
  rw [if_pos ⟨sh, sh⟩, SeqAt.eqv_refl _ l0]
/-! ### the pool -/
theorem cutM {α β : Type} (f : α → β) (xs : List α) (lo hi : Option Int) : cutR (xs.map f) lo hi = (cutR xs lo hi).map f := by
  unfold cutR
  rw [List.length_map, List.map_take, List.map_drop]
def cells (ns : List Int) : List Int := (cutR ns none (some 63)).map fun x => if x < 0 then -x else x
theorem cells_nn (ns : List Int) : ∀ x ∈ cells ns, 0 ≤ x := fun y hy => by
  obtain ⟨x, _, rfl⟩ := List.mem_map.mp hy
  split <;> omega
/-- [abs(int(cell)) for cell in script[:63]] -/
theorem e_cells {C : Calls} {e : IE} {i : Nat} {x : Str} {px p1 p2 p3 p4 : Pos} {k : Nat} {own : List (Str × Nat)} {sc : Scope} {p : Pos} {ρ : MP.Env} {ns : List Int} (h0 : ρ[0]? = some (some (.dat (.slst (ns.map D.int))))) (h : ns.length ≤ 63)
    (he : ∀ v, evE C e ((wipeE ρ (own.map (·.2))).set i (some (RI v))) [] = .ok (RI (if v < 0 then -v else v)) []) : evE C (.lc true e (.one i x px) (.of (.sl false (.var 0 "script" p1) .nil (.cons (.int 63 k p2) .nil) p3 p4)) .nil own sc p) ρ [] = .ok (.own 0) [pool (cells ns)] := by
  have hc : (cutR ns none (some 63)).length ≤ 1000000 := by
    have : (cutR ns none (some 63)).length ≤ ns.length := by
      show ((ns.drop _).take _).length ≤ _
      rw [List.length_take, List.length_drop]
      omega
    omega
  have hs : evE C (.sl false (.var 0 "script" p1) .nil (.cons (.int 63 k p2) .nil) p3 p4) ρ [] = .ok (RL (cutR ns none (some 63))) [] := by
    show MP.M.bind (getV ρ 0) _ [] = _
    have : getV ρ 0 [] = .ok (.dat (.slst (ns.map D.int))) [] := by
      unfold getV
      rw [h0]
      rfl
    rw [bind_at this]
    show Res.ok (R.dat (.lst (cutR (ns.map D.int) none (some 63)))) [] = _
    rw [cutM]
  refine (lcT_at (S := []) (l := (cutR ns none (some 63)).map D.int) (n := (cutR ns none (some 63)).length) (G := fun k => .int (if el (cutR ns none (some 63)) k < 0 then -el (cutR ns none (some 63)) k else el (cutR ns none (some 63)) k)) (ii_of hs) (by rw [List.length_map]) (fun k d hd => ?_) hc).trans ?_
  · have h6 : (((cutR ns none (some 63)).map D.int).map R.dat)[k]? = some (.dat d) := by rw [List.getElem?_map, hd]; rfl
    obtain ⟨h7, h8⟩ := rin_at h6
    cases h8
    exact he _
  · have e : (cells ns).map D.int = (List.range (cutR ns none (some 63)).length).map fun k => D.int (if el (cutR ns none (some 63)) k < 0 then -el (cutR ns none (some 63)) k else el (cutR ns none (some 63)) k) := by
      unfold cells
      rw [List.map_map]
      exact map_el (fun x => D.int (if x < 0 then -x else x))
    show Res.ok (R.own 0) ([] ++ [Cell.lst (((List.range (cutR ns none (some 63)).length).map fun k => D.int (if el (cutR ns none (some 63)) k < 0 then -el (cutR ns none (some 63)) k else el (cutR ns none (some 63)) k)).map R.dat)]) = _
    unfold pool
    rw [e]
    rfl
end DL
namespace MP
def ISs.drop : Nat → ISs → ISs
  | 0, r => r
  | n + 1, .cons _ r => ISs.drop n r
  | _ + 1, .nil => .nil
end MP
set_option Elab.async false
set_option linter.all false
set_option maxRecDepth 100000
set_option maxHeartbeats 1000000
/-! DLK: webs on pairs of places: products, sums, halves, and their walks. -/
namespace DL
open PySem PySem.Spec PyProof.Rows L2 MP
theorem sm_front (f : Nat → Int) : ∀ n, sm (n + 1) f = f 0 + sm n fun k => f (k + 1)
  | 0 => by rw [sm_succ, sm_zero, sm_zero]; omega
  | n + 1 => by rw [sm_succ, sm_front f n, sm_succ]; omega
theorem sm_app (f : Nat → Int) (a : Nat) : ∀ b, sm (a + b) f = sm a f + sm b fun k => f (a + k)
  | 0 => by rw [sm_zero]; simp
  | b + 1 => by rw [← Nat.add_assoc, sm_succ, sm_app f a b, sm_succ]; omega
/-- a sum over pairs -/
theorem sm_pairs (m : Nat) (f : Nat → Int) : ∀ n, sm (n * m) f = sm n fun i => sm m fun k => f (i * m + k)
  | 0 => by rw [Nat.zero_mul]; rfl
  | n + 1 => by rw [Nat.succ_mul, sm_app, sm_pairs m f n, sm_succ]
theorem pr_div {m i k : Nat} (h : k < m) : (i * m + k) / m = i := by
  rw [Nat.mul_comm, Nat.mul_add_div (by omega), Nat.div_eq_of_lt h, Nat.add_zero]
theorem pr_mod {m i k : Nat} (h : k < m) : (i * m + k) % m = k := by
  rw [Nat.mul_comm, Nat.mul_add_mod, Nat.mod_eq_of_lt h]
theorem pr_lt {n m i k : Nat} (hi : i < n) (hk : k < m) : i * m + k < n * m := by
  have : (i + 1) * m ≤ n * m := Nat.mul_le_mul_right _ hi
  rw [Nat.succ_mul] at this
  omega
theorem flat_pairs {α : Type} (m : Nat) (g : Nat → Nat → α) : ∀ n, ((List.range n).flatMap fun i => (List.range m).map (g i)) = (List.range (n * m)).map fun p => g (p / m) (p % m)
  | 0 => by rw [Nat.zero_mul]; rfl
  | n + 1 => by
    rw [List.range_succ, List.flatMap_append, flat_pairs m g n, Nat.succ_mul, List.range_add, List.map_append, List.map_map]
    congr 1
    rw [List.flatMap_cons, List.flatMap_nil, List.append_nil]
    refine List.map_congr_left fun k hk => ?_
    have h := List.mem_range.mp hk
    show g n k = g ((n * m + k) / m) ((n * m + k) % m)
    rw [pr_div h, pr_mod h]
/-- a table on pairs of places -/
def prs (n m : Nat) (f : Nat → Nat → Nat → Nat → Int) : List (List Int) := (List.range (n * m)).map fun p => (List.range (n * m)).map fun q => f (p / m) (p % m) (q / m) (q % m)
variable {n m : Nat} {f : Nat → Nat → Nat → Nat → Int}
theorem prs_len : (prs n m f).length = n * m := by unfold prs; rw [List.length_map, List.length_range]
theorem row_map {α : Nat → List Int} {k N : Nat} (h : k < N) : row ((List.range N).map α) k = α k := by
  unfold row
  rw [List.getElem?_map, List.getElem?_range h]
  rfl
theorem prs_row {p : Nat} (h : p < n * m) : row (prs n m f) p = (List.range (n * m)).map fun q => f (p / m) (p % m) (q / m) (q % m) := row_map h
theorem prs_el {i k j l : Nat} (hi : i < n) (hk : k < m) (hj : j < n) (hl : l < m) : el (row (prs n m f) (i * m + k)) (j * m + l) = f i k j l := by
  rw [prs_row (pr_lt hi hk), el_map (pr_lt hj hl), pr_div hk, pr_mod hk, pr_div hl, pr_mod hl]
theorem prs_mem {r : List Int} (h : r ∈ prs n m f) : ∃ i k, i < n ∧ k < m ∧ r = (List.range (n * m)).map fun q => f i k (q / m) (q % m) := by
  obtain ⟨p, hp, e⟩ := List.mem_map.mp h
  have hp := List.mem_range.mp hp
  have hm : 0 < m := by
    rcases Nat.eq_zero_or_pos m with h | h
    · subst h; rw [Nat.mul_zero] at hp; omega
    · exact h
  exact ⟨p / m, p % m, Nat.div_lt_of_lt_mul (by rw [Nat.mul_comm]; exact hp), Nat.mod_lt _ hm, e.symm⟩
theorem sum_map {N : Nat} {g : Nat → Int} : ((List.range N).map g).sum = sm N g := rfl
theorem prs_sum (i k : Nat) : ((List.range (n * m)).map fun q => f i k (q / m) (q % m)).sum = sm n fun j => sm m fun l => f i k j l := by
  rw [sum_map, sm_pairs]
  refine sm_congr fun j hj => sm_congr fun l hl => ?_
  rw [pr_div hl, pr_mod hl]
theorem sm_nn : ∀ {n : Nat} {f : Nat → Int}, (∀ k, k < n → 0 ≤ f k) → 0 ≤ sm n f
  | 0, _, _ => Int.le_refl _
  | n + 1, f, h => by
    rw [sm_succ]
    have h1 := sm_nn (n := n) (f := f) fun k hk => h k (by omega)
    have h2 := h n (by omega)
    omega
theorem sum_row {rows : List (List Int)} {i N : Nat} (h : (row rows i).length = N) : (row rows i).sum = sm N fun j => el (row rows i) j := by rw [sum_sm_el, h]
/-- a table on pairs is a net -/
theorem prs_tied (h1 : 1 ≤ n) (h2 : 1 ≤ m) (h3 : n * m ≤ 40) (hw : ∀ i k j l, i < n → k < m → j < n → l < m → 0 ≤ f i k j l ∧ f i k j l ≤ 1000000000000000000000000000000) (hs : ∀ i k j l, i < n → k < m → j < n → l < m → f i k j l = f j l i k)
    (hp : ∀ i k, i < n → k < m → 0 < sm n fun j => sm m fun l => f i k j l) : Tied (prs n m f) := by
  have md : ∀ q, q < n * m → q / m < n ∧ q % m < m := fun q hq => ⟨Nat.div_lt_of_lt_mul (by rw [Nat.mul_comm]; exact hq), Nat.mod_lt _ h2⟩
  refine ⟨by rw [prs_len]; exact Nat.mul_pos h1 h2, by rw [prs_len]; exact h3, fun r hr => ?_, fun r hr x hx => ?_, fun p q hp hq => ?_, fun r hr => ?_⟩
  · obtain ⟨i, k, hi, hk, rfl⟩ := prs_mem hr
    rw [List.length_map, List.length_range, prs_len]
  · obtain ⟨i, k, hi, hk, rfl⟩ := prs_mem hr
    obtain ⟨q, hq, rfl⟩ := mem_rng hx
    exact hw _ _ _ _ hi hk (md q hq).1 (md q hq).2
  · rw [prs_len] at hp hq
    rw [prs_row hp, prs_row hq, el_map hp, el_map hq]
    exact hs _ _ _ _ (md p hp).1 (md p hp).2 (md q hq).1 (md q hq).2
  · obtain ⟨i, k, hi, hk, rfl⟩ := prs_mem hr
    rw [prs_sum]
    exact hp i k hi hk
/-! ### steps -/
/-- the share of one step, times the common degree -/
abbrev stp (rows : List (List Int)) (i j : Nat) : Int := el (row rows i) j * (whole rows / (row rows i).sum)
abbrev pe (rows : List (List Int)) (b t j : Nat) : Int := el (pw rows b t) j
variable {rows A B M : List (List Int)}
theorem pe_zero {b j : Nat} (hj : j < rows.length) : pe rows b 0 j = if j = b then 1 else 0 := el_map hj
theorem pe_succ {b t j : Nat} (hj : j < rows.length) : pe rows b (t + 1) j = sm rows.length fun i => pe rows b t i * stp rows i j := by
  show el (deal (stepRows rows) (pw rows b t)) j = _
  unfold deal
  rw [sr_len, el_map hj]
  refine sm_congr fun i hi => ?_
  rw [sr_row hi, el_map hj]
/-! ### sums over choices -/
def ch : Nat → List Int
  | 0 => [1]
  | t + 1 => [1] ++ ((List.range ((ch t).length - 1)).map fun j => el (ch t) j + el (ch t) (j + 1)) ++ [1]
theorem ch_eq (t : Nat) : ch (t + 1) = [1] ++ ((List.range ((ch t).length - 1)).map fun j => el (ch t) j + el (ch t) (j + 1)) ++ [1] := by rw [ch]
theorem ch_len : ∀ t, (ch t).length = t + 1
  | 0 => by rw [ch]; rfl
  | t + 1 => by
    rw [ch_eq, List.length_append, List.length_append, List.length_map, List.length_range, ch_len t]
    simp
    omega
theorem el_over {a : List Int} {k : Nat} (h : a.length ≤ k) : el a k = 0 := by
  unfold el
  rw [List.getElem?_eq_none h]
  rfl
theorem el_app_l {a b : List Int} {k : Nat} (h : k < a.length) : el (a ++ b) k = el a k := by
  unfold el
  rw [List.getElem?_append_left h]
theorem el_app_r {a b : List Int} {k : Nat} (h : a.length ≤ k) : el (a ++ b) k = el b (k - a.length) := by
  unfold el
  rw [List.getElem?_append_right h]
theorem ch_z : ∀ t, el (ch t) 0 = 1
  | 0 => by rw [ch]; rfl
  | t + 1 => by rw [ch_eq]; rfl
theorem ch_last : ∀ t, el (ch t) t = 1
  | 0 => by rw [ch]; rfl
  | t + 1 => by
    rw [ch_eq, el_app_r (by rw [List.length_append, List.length_map, List.length_range, ch_len]; simp; omega), List.length_append, List.length_map, List.length_range, ch_len]
    have : t + 1 - ([(1 : Int)].length + (t + 1 - 1)) = 0 := by simp; omega
    rw [this]
    rfl
theorem ch_succ (t j : Nat) : el (ch (t + 1)) (j + 1) = el (ch t) j + el (ch t) (j + 1) := by
  rcases Nat.lt_trichotomy j t with h | h | h
  · rw [ch_eq, el_app_l (by rw [List.length_append, List.length_map, List.length_range, ch_len]; simp; omega), el_app_r (by simp)]
    show el _ (j + 1 - 1) = _
    rw [Nat.add_sub_cancel, el_map (by rw [ch_len]; omega)]
  · subst h
    rw [ch_last, ch_last, el_over (by rw [ch_len]; omega)]
    rfl
  · rw [el_over (by rw [ch_len]; omega), el_over (by rw [ch_len]; omega), el_over (by rw [ch_len]; omega)]
    rfl
/-- the sum over m of (t over m) times w m (t - m) -/
def bs (t : Nat) (w : Nat → Nat → Int) : Int := sm (t + 1) fun m => el (ch t) m * w m (t - m)
theorem bs_zero (w : Nat → Nat → Int) : bs 0 w = w 0 0 := by
  show sm 1 _ = _
  rw [sm_succ, sm_zero, ch_z]
  show 0 + 1 * w 0 0 = _
  omega
theorem bs_succ (t : Nat) (w : Nat → Nat → Int) : bs (t + 1) w = bs t (fun m s => w (m + 1) s) + bs t (fun m s => w m (s + 1)) := by
  unfold bs
  rw [sm_front]
  have e1 : (sm (t + 1) fun k => el (ch (t + 1)) (k + 1) * w (k + 1) (t + 1 - (k + 1))) = (sm (t + 1) fun k => el (ch t) k * w (k + 1) (t - k)) + sm (t + 1) fun k => el (ch t) (k + 1) * w (k + 1) (t - k) := by
    rw [sm_add]
    refine sm_congr fun k hk => ?_
    rw [ch_succ, Nat.add_sub_add_right]
    exact Int.add_mul _ _ _
  have e2 : (sm (t + 1) fun m => el (ch t) m * w m (t - m + 1)) = sm (t + 2) fun m => el (ch t) m * w m (t + 1 - m) := by
    rw [sm_succ _ (fun m => el (ch t) m * w m (t + 1 - m)), el_over (k := t + 1) (by rw [ch_len]; exact Nat.le_refl _), Int.zero_mul, Int.add_zero]
    refine sm_congr fun k hk => ?_
    rw [show t - k + 1 = t + 1 - k by omega]
  rw [e1, e2, sm_front _ (t + 1), ch_z, ch_z]
  have e3 : (sm (t + 1) fun k => el (ch t) (k + 1) * w (k + 1) (t + 1 - (k + 1))) = sm (t + 1) fun k => el (ch t) (k + 1) * w (k + 1) (t - k) := sm_congr fun k hk => by rw [Nat.add_sub_add_right]
  rw [e3]
  show _ = (sm (t + 1) fun k => el (ch t) k * w (k + 1) (t - k)) + _
  omega
theorem bs_congr {t : Nat} {w v : Nat → Nat → Int} (h : ∀ m s, m ≤ t → s ≤ t → w m s = v m s) : bs t w = bs t v := sm_congr fun k hk => by rw [h _ _ (by omega) (by omega)]
theorem bs_add (t : Nat) (w v : Nat → Nat → Int) : bs t w + bs t v = bs t fun m s => w m s + v m s := by
  unfold bs
  rw [sm_add]
  exact sm_congr fun k hk => (Int.mul_add _ _ _).symm
theorem bs_mul (t : Nat) (w : Nat → Nat → Int) (c : Int) : bs t w * c = bs t fun m s => w m s * c := by
  unfold bs
  rw [sm_mul]
  exact sm_congr fun k hk => Int.mul_assoc _ _ _
theorem bs_sm (t N : Nat) (w : Nat → Nat → Nat → Int) : (sm N fun u => bs t (w u)) = bs t fun m s => sm N fun u => w u m s := by
  unfold bs
  rw [sm_swap]
  refine sm_congr fun k hk => ?_
  rw [sm_mull]
/-! ### the three webs -/
theorem cut_eq {d L : Int} (hd : 0 < d) {x y : Int} (h : x * d = y * d) : x = y := Int.eq_of_mul_eq_mul_right (by omega) h
def kronF (A B : List (List Int)) : Nat → Nat → Nat → Nat → Int := fun i k j l => el (row A i) j * el (row B k) l
def mixF (A B : List (List Int)) (x y : Int) : Nat → Nat → Nat → Nat → Int := fun i k j l => (if l = k then x * el (row A i) j * (row B k).sum else 0) + (if j = i then y * (row A i).sum * el (row B k) l else 0)
abbrev kron (A B : List (List Int)) : List (List Int) := prs A.length B.length (kronF A B)
abbrev mix (A B : List (List Int)) (x y : Int) : List (List Int) := prs A.length B.length (mixF A B x y)
def hlf (A : List (List Int)) : List (List Int) := (List.range A.length).map fun i => (List.range A.length).map fun j => el (row A i) j + if j = i then (row A i).sum else 0
theorem kron_deg (gA : Tied A) (gB : Tied B) {i k : Nat} (hi : i < A.length) (hk : k < B.length) : (sm A.length fun j => sm B.length fun l => kronF A B i k j l) = (row A i).sum * (row B k).sum := by
  rw [sum_row (gA.sq _ (row_mem hi)), sum_row (gB.sq _ (row_mem hk)), sm_mul]
  refine sm_congr fun j hj => ?_
  rw [sm_mull]
  rfl
theorem mix_deg (gA : Tied A) (gB : Tied B) {x y : Int} {i k : Nat} (hi : i < A.length) (hk : k < B.length) : (sm A.length fun j => sm B.length fun l => mixF A B x y i k j l) = (x + y) * (row A i).sum * (row B k).sum := by
  have e1 : ∀ j, (sm B.length fun l => mixF A B x y i k j l) = x * (row B k).sum * el (row A i) j + (if j = i then 1 else 0) * (y * (row A i).sum * (row B k).sum) := fun j => by
    unfold mixF
    rw [← sm_add]
    congr 1
    · have : (sm B.length fun l => if l = k then x * el (row A i) j * (row B k).sum else 0) = sm B.length fun l => (if l = k then 1 else 0) * (x * el (row A i) j * (row B k).sum) := sm_congr fun l hl => by split <;> simp
      rw [this, sm_one _ hk]
      grind
    · by_cases h : j = i
      · simp only [if_pos h]
        rw [← sm_mull, ← sum_row (gB.sq _ (row_mem hk))]
        grind
      · simp only [if_neg h]
        rw [sm_z]
        simp
  have e2 : (sm A.length fun j => sm B.length fun l => mixF A B x y i k j l) = (sm A.length fun j => x * (row B k).sum * el (row A i) j) + sm A.length fun j => (if j = i then 1 else 0) * (y * (row A i).sum * (row B k).sum) := by
    rw [sm_add]
    exact sm_congr fun j hj => e1 j
  rw [e2, sm_one _ hi, ← sm_mull, ← sum_row (gA.sq _ (row_mem hi))]
  grind
theorem hlf_len : (hlf A).length = A.length := by unfold hlf; rw [List.length_map, List.length_range]
theorem hlf_row {i : Nat} (hi : i < A.length) : row (hlf A) i = (List.range A.length).map fun j => el (row A i) j + if j = i then (row A i).sum else 0 := row_map hi
theorem hlf_deg (gA : Tied A) {i : Nat} (hi : i < A.length) : (row (hlf A) i).sum = 2 * (row A i).sum := by
  rw [hlf_row hi, sum_map, ← sm_add]
  have : (sm A.length fun j => if j = i then (row A i).sum else 0) = sm A.length fun j => (if j = i then 1 else 0) * (row A i).sum := sm_congr fun j hj => by split <;> simp
  rw [this, sm_one _ hi, ← sum_row (gA.sq _ (row_mem hi))]
  omega
theorem kron_stp (gA : Tied A) (gB : Tied B) {i k j l : Nat} (hi : i < A.length) (hk : k < B.length) (hj : j < A.length) (hl : l < B.length) : stp (kron A B) (i * B.length + k) (j * B.length + l) * (whole A * whole B) = whole (kron A B) * (stp A i j * stp B k l) := by
  have hp : i * B.length + k < (kron A B).length := by rw [prs_len]; exact pr_lt hi hk
  have hd : (row (kron A B) (i * B.length + k)).sum = (row A i).sum * (row B k).sum := by
    rw [prs_row (pr_lt hi hk), pr_div hk, pr_mod hk, prs_sum, kron_deg gA gB hi hk]
  have d1 := whole_div (row_mem hp)
  have d2 := whole_div (row_mem hi)
  have d3 := whole_div (row_mem hk)
  have p1 := gA.pos _ (row_mem hi)
  have p2 := gB.pos _ (row_mem hk)
  unfold stp
  rw [prs_el hi hk hj hl]
  rw [hd] at d1 ⊢
  unfold kronF
  generalize whole (kron A B) / ((row A i).sum * (row B k).sum) = u at *
  generalize whole A / (row A i).sum = v at *
  generalize whole B / (row B k).sum = w at *
  generalize (row A i).sum = a at *
  generalize (row B k).sum = b at *
  rw [← d1, ← d2, ← d3]
  grind
theorem mix_stp (gA : Tied A) (gB : Tied B) {x y : Int} (hx : 0 < x) (hy : 0 < y) {i k j l : Nat} (hi : i < A.length) (hk : k < B.length) (hj : j < A.length) (hl : l < B.length) :
    stp (mix A B x y) (i * B.length + k) (j * B.length + l) * ((x + y) * whole A * whole B) = whole (mix A B x y) * ((if l = k then x * whole B * stp A i j else 0) + if j = i then y * whole A * stp B k l else 0) := by
  have hp : i * B.length + k < (mix A B x y).length := by rw [prs_len]; exact pr_lt hi hk
  have hd : (row (mix A B x y) (i * B.length + k)).sum = (x + y) * (row A i).sum * (row B k).sum := by
    rw [prs_row (pr_lt hi hk), pr_div hk, pr_mod hk, prs_sum, mix_deg gA gB hi hk]
  have d1 := whole_div (row_mem hp)
  have d2 := whole_div (row_mem hi)
  have d3 := whole_div (row_mem hk)
  unfold stp
  rw [prs_el hi hk hj hl]
  rw [hd] at d1 ⊢
  unfold mixF
  generalize whole (mix A B x y) / ((x + y) * (row A i).sum * (row B k).sum) = u at *
  generalize whole A / (row A i).sum = v at *
  generalize whole B / (row B k).sum = w at *
  generalize (row A i).sum = a at *
  generalize (row B k).sum = b at *
  rw [← d1, ← d2, ← d3]
  split <;> split <;> grind
theorem hlf_stp (gA : Tied A) {i j : Nat} (hi : i < A.length) (hj : j < A.length) : stp (hlf A) i j * (2 * whole A) = whole (hlf A) * (stp A i j + if j = i then whole A else 0) := by
  have hp : i < (hlf A).length := by rw [hlf_len]; exact hi
  have d1 := whole_div (row_mem hp)
  have d2 := whole_div (row_mem hi)
  have hd := hlf_deg gA hi
  unfold stp
  rw [hd] at d1 ⊢
  rw [hlf_row hi, el_map hj]
  generalize whole (hlf A) / (2 * (row A i).sum) = u at *
  generalize whole A / (row A i).sum = v at *
  generalize (row A i).sum = a at *
  rw [← d1, ← d2]
  split <;> grind
theorem kron_pe (gA : Tied A) (gB : Tied B) {i k : Nat} (hi : i < A.length) (hk : k < B.length) : ∀ t j l, j < A.length → l < B.length → pe (kron A B) (i * B.length + k) t (j * B.length + l) * gp (whole A * whole B) t = gp (whole (kron A B)) t * (pe A i t j * pe B k t l)
  | 0, j, l, hj, hl => by
    rw [pe_zero (by rw [prs_len]; exact pr_lt hj hl), pe_zero hj, pe_zero hl]
    show _ * 1 = 1 * _
    have : j * B.length + l = i * B.length + k ↔ j = i ∧ l = k := ⟨fun h => by
      have a := pr_div (m := B.length) (i := j) hl
      have b := pr_mod (m := B.length) (i := j) hl
      rw [h, pr_div hk] at a
      rw [h, pr_mod hk] at b
      exact ⟨a.symm, b.symm⟩, fun ⟨a, b⟩ => by rw [a, b]⟩
    by_cases h1 : j = i
    · by_cases h2 : l = k
      · rw [if_pos (this.mpr ⟨h1, h2⟩), if_pos h1, if_pos h2]; rfl
      · rw [if_neg fun z => h2 (this.mp z).2, if_pos h1, if_neg h2]; rfl
    · rw [if_neg fun z => h1 (this.mp z).1, if_neg h1]; simp
  | t + 1, j, l, hj, hl => by
    rw [pe_succ (by rw [prs_len]; exact pr_lt hj hl), prs_len, sm_pairs, pe_succ hj, pe_succ hl]
    show _ * (gp (whole A * whole B) t * (whole A * whole B)) = gp (whole (kron A B)) t * whole (kron A B) * _
    rw [sm_mul, sm_mul, sm_mull]
    refine sm_congr fun u hu => ?_
    rw [sm_mul, sm_mull, sm_mull]
    refine sm_congr fun v hv => ?_
    have h1 := kron_pe gA gB hi hk t u v hu hv
    have h2 := kron_stp gA gB hu hv hj hl
    have alg : ∀ P G S W Lt L Q T : Int, P * G = Lt * Q → S * W = L * T → P * S * (G * W) = Lt * L * (Q * T) := fun P G S W Lt L Q T a b => by
      have : P * S * (G * W) = (P * G) * (S * W) := by grind
      rw [this, a, b]
      grind
    refine (alg _ _ _ _ _ _ _ _ h1 h2).trans ?_
    grind
theorem gp_mul (a b : Int) : ∀ t, gp (a * b) t = gp a t * gp b t
  | 0 => rfl
  | t + 1 => by
    show gp (a * b) t * (a * b) = gp a t * a * (gp b t * b)
    rw [gp_mul a b t]
    grind
theorem kron_trc (gA : Tied A) (gB : Tied B) (t : Nat) : trc (kron A B) t * (gp (whole A) t * gp (whole B) t) = trc A t * trc B t * sc (kron A B) t := by
  unfold trc
  rw [prs_len, sm_pairs, ← gp_mul, sm_mul, sm_mul, sm_mul]
  refine sm_congr fun i hi => ?_
  rw [sm_mul, sm_mull, sm_mul]
  refine sm_congr fun k hk => ?_
  have := kron_pe gA gB hi hk t i k hi hk
  refine this.trans ?_
  show gp (whole (kron A B)) t * _ = _ * gp (whole (kron A B)) t
  grind
/-- what the sum's walk comes to -/
def mixW (A B : List (List Int)) (x y : Int) (i k j l : Nat) : Nat → Nat → Int := fun m s => gp x m * gp (whole A) s * (gp y s * gp (whole B) m) * (pe A i m j * pe B k s l)
theorem mix_pe (gA : Tied A) (gB : Tied B) {x y : Int} (hx : 0 < x) (hy : 0 < y) {i k : Nat} (hi : i < A.length) (hk : k < B.length) :
    ∀ t j l, j < A.length → l < B.length → pe (mix A B x y) (i * B.length + k) t (j * B.length + l) * gp ((x + y) * whole A * whole B) t = gp (whole (mix A B x y)) t * bs t (mixW A B x y i k j l)
  | 0, j, l, hj, hl => by
    rw [pe_zero (by rw [prs_len]; exact pr_lt hj hl), bs_zero]
    unfold mixW
    rw [pe_zero hj, pe_zero hl]
    show _ * 1 = 1 * (1 * 1 * (1 * 1) * _)
    have : j * B.length + l = i * B.length + k ↔ j = i ∧ l = k := ⟨fun h => by
      have a := pr_div (m := B.length) (i := j) hl
      have b := pr_mod (m := B.length) (i := j) hl
      rw [h, pr_div hk] at a
      rw [h, pr_mod hk] at b
      exact ⟨a.symm, b.symm⟩, fun ⟨a, b⟩ => by rw [a, b]⟩
    by_cases h1 : j = i
    · by_cases h2 : l = k
      · rw [if_pos (this.mpr ⟨h1, h2⟩), if_pos h1, if_pos h2]; rfl
      · rw [if_neg fun z => h2 (this.mp z).2, if_pos h1, if_neg h2]; rfl
    · rw [if_neg fun z => h1 (this.mp z).1, if_neg h1]; simp
  | t + 1, j, l, hj, hl => by
    rw [pe_succ (by rw [prs_len]; exact pr_lt hj hl), prs_len, sm_pairs]
    show _ * (gp ((x + y) * whole A * whole B) t * ((x + y) * whole A * whole B)) = gp (whole (mix A B x y)) t * whole (mix A B x y) * _
    have e1 : (sm A.length fun u => sm B.length fun v => pe (mix A B x y) (i * B.length + k) t (u * B.length + v) * stp (mix A B x y) (u * B.length + v) (j * B.length + l)) * (gp ((x + y) * whole A * whole B) t * ((x + y) * whole A * whole B)) =
        gp (whole (mix A B x y)) t * whole (mix A B x y) * sm A.length fun u => sm B.length fun v => bs t (mixW A B x y i k u v) * ((if l = v then x * whole B * stp A u j else 0) + if j = u then y * whole A * stp B v l else 0) := by
      rw [sm_mul, sm_mull]
      refine sm_congr fun u hu => ?_
      rw [sm_mul, sm_mull]
      refine sm_congr fun v hv => ?_
      have h1 := mix_pe gA gB hx hy hi hk t u v hu hv
      have h2 := mix_stp gA gB hx hy hu hv hj hl
      have alg : ∀ P G S W Lt L Q T : Int, P * G = Lt * Q → S * W = L * T → P * S * (G * W) = Lt * L * (Q * T) := fun P G S W Lt L Q T a b => by
        have : P * S * (G * W) = (P * G) * (S * W) := by grind
        rw [this, a, b]
        grind
      exact alg _ _ _ _ _ _ _ _ h1 h2
    rw [e1]
    congr 1
    have e2 : (sm A.length fun u => sm B.length fun v => bs t (mixW A B x y i k u v) * ((if l = v then x * whole B * stp A u j else 0) + if j = u then y * whole A * stp B v l else 0)) =
        (sm A.length fun u => sm B.length fun v => (if v = l then 1 else 0) * (bs t (mixW A B x y i k u v) * (x * whole B * stp A u j))) + sm A.length fun u => (if u = j then 1 else 0) * sm B.length fun v => bs t (mixW A B x y i k u v) * (y * whole A * stp B v l) := by
      rw [sm_add]
      refine sm_congr fun u hu => ?_
      rw [sm_mull, sm_add]
      refine sm_congr fun v hv => ?_
      by_cases a : l = v <;> by_cases b : j = u
      · rw [if_pos a, if_pos b, if_pos a.symm, if_pos b.symm]; grind
      · rw [if_pos a, if_neg b, if_pos a.symm, if_neg (fun z => b z.symm)]; grind
      · rw [if_neg a, if_pos b, if_neg (fun z => a z.symm), if_pos b.symm]; grind
      · rw [if_neg a, if_neg b, if_neg (fun z => a z.symm), if_neg (fun z => b z.symm)]; grind
    rw [e2, sm_one _ hj, bs_succ]
    have e3 : (sm A.length fun u => sm B.length fun v => (if v = l then 1 else 0) * (bs t (mixW A B x y i k u v) * (x * whole B * stp A u j))) = bs t fun m s => mixW A B x y i k j l (m + 1) s := by
      have : (sm A.length fun u => sm B.length fun v => (if v = l then 1 else 0) * (bs t (mixW A B x y i k u v) * (x * whole B * stp A u j))) = sm A.length fun u => bs t fun m s => mixW A B x y i k u l m s * (x * whole B * stp A u j) := sm_congr fun u hu => by
        rw [sm_one (fun v => bs t (mixW A B x y i k u v) * (x * whole B * stp A u j)) hl, bs_mul]
      rw [this, bs_sm]
      refine bs_congr fun m s _ _ => ?_
      unfold mixW
      rw [pe_succ hj]
      show _ = gp x m * x * gp (whole A) s * (gp y s * (gp (whole B) m * whole B)) * _
      rw [sm_mul, sm_mull]
      exact sm_congr fun u hu => by grind
    have e4 : (sm B.length fun v => bs t (mixW A B x y i k j v) * (y * whole A * stp B v l)) = bs t fun m s => mixW A B x y i k j l m (s + 1) := by
      have : (sm B.length fun v => bs t (mixW A B x y i k j v) * (y * whole A * stp B v l)) = sm B.length fun v => bs t fun m s => mixW A B x y i k j v m s * (y * whole A * stp B v l) := sm_congr fun v hv => bs_mul _ _ _
      rw [this, bs_sm]
      refine bs_congr fun m s _ _ => ?_
      unfold mixW
      rw [pe_succ hl]
      show _ = gp x m * (gp (whole A) s * whole A) * (gp y s * y * gp (whole B) m) * _
      rw [sm_mull, sm_mull]
      exact sm_congr fun u hu => by grind
    rw [e3, e4]
/-- the sum's traces, by choices -/
def mixT (A B : List (List Int)) (x y : Int) : Nat → Nat → Int := fun m s => gp x m * gp (whole A) s * (gp y s * gp (whole B) m) * (trc A m * trc B s)
theorem mix_trc (gA : Tied A) (gB : Tied B) {x y : Int} (hx : 0 < x) (hy : 0 < y) (t : Nat) : trc (mix A B x y) t * gp ((x + y) * whole A * whole B) t = bs t (mixT A B x y) * sc (mix A B x y) t := by
  have e1 : trc (mix A B x y) t * gp ((x + y) * whole A * whole B) t = sc (mix A B x y) t * sm A.length fun i => sm B.length fun k => bs t (mixW A B x y i k i k) := by
    unfold trc
    rw [prs_len, sm_pairs, sm_mul, sm_mull]
    refine sm_congr fun i hi => ?_
    rw [sm_mul, sm_mull]
    exact sm_congr fun k hk => mix_pe gA gB hx hy hi hk t i k hi hk
  have e2 : (sm A.length fun i => sm B.length fun k => bs t (mixW A B x y i k i k)) = bs t (mixT A B x y) := by
    have : (sm A.length fun i => sm B.length fun k => bs t (mixW A B x y i k i k)) = sm A.length fun i => bs t fun m s => sm B.length fun k => mixW A B x y i k i k m s := sm_congr fun i hi => bs_sm _ _ _
    rw [this, bs_sm]
    refine bs_congr fun m s _ _ => ?_
    unfold mixT trc mixW
    rw [sm_mul, sm_mull]
    refine sm_congr fun i hi => ?_
    rw [sm_mull, sm_mull]
  rw [e1, e2, Int.mul_comm]
def hlfW (A : List (List Int)) (i j : Nat) : Nat → Nat → Int := fun m s => pe A i m j * gp (whole A) s
theorem hlf_pe (gA : Tied A) {i : Nat} (hi : i < A.length) : ∀ t j, j < A.length → pe (hlf A) i t j * gp (2 * whole A) t = gp (whole (hlf A)) t * bs t (hlfW A i j)
  | 0, j, hj => by
    rw [pe_zero (by rw [hlf_len]; exact hj), bs_zero]
    unfold hlfW
    rw [pe_zero hj]
    show _ * 1 = 1 * (_ * 1)
    omega
  | t + 1, j, hj => by
    rw [pe_succ (by rw [hlf_len]; exact hj), hlf_len]
    show _ * (gp (2 * whole A) t * (2 * whole A)) = gp (whole (hlf A)) t * whole (hlf A) * _
    have e1 : (sm A.length fun u => pe (hlf A) i t u * stp (hlf A) u j) * (gp (2 * whole A) t * (2 * whole A)) = gp (whole (hlf A)) t * whole (hlf A) * sm A.length fun u => bs t (hlfW A i u) * (stp A u j + if j = u then whole A else 0) := by
      rw [sm_mul, sm_mull]
      refine sm_congr fun u hu => ?_
      have h1 := hlf_pe gA hi t u hu
      have h2 := hlf_stp gA hu hj
      have alg : ∀ P G S W Lt L Q T : Int, P * G = Lt * Q → S * W = L * T → P * S * (G * W) = Lt * L * (Q * T) := fun P G S W Lt L Q T a b => by
        have : P * S * (G * W) = (P * G) * (S * W) := by grind
        rw [this, a, b]
        grind
      exact alg _ _ _ _ _ _ _ _ h1 h2
    rw [e1]
    congr 1
    have e2 : (sm A.length fun u => bs t (hlfW A i u) * (stp A u j + if j = u then whole A else 0)) = (sm A.length fun u => bs t fun m s => hlfW A i u m s * stp A u j) + sm A.length fun u => (if u = j then 1 else 0) * (bs t (hlfW A i u) * whole A) := by
      rw [sm_add]
      refine sm_congr fun u hu => ?_
      rw [← bs_mul]
      by_cases a : j = u
      · rw [if_pos a, if_pos a.symm]; grind
      · rw [if_neg a, if_neg (fun z => a z.symm)]; grind
    rw [e2, sm_one (fun u => bs t (hlfW A i u) * whole A) hj, bs_succ, bs_sm, bs_mul]
    congr 1
    · refine bs_congr fun m s _ _ => ?_
      unfold hlfW
      rw [pe_succ hj, sm_mul]
      exact sm_congr fun u hu => by grind
    · refine bs_congr fun m s _ _ => ?_
      unfold hlfW
      show _ = pe A i m j * (gp (whole A) s * whole A)
      grind
def hlfT (A : List (List Int)) : Nat → Nat → Int := fun m s => trc A m * gp (whole A) s
theorem hlf_trc (gA : Tied A) (t : Nat) : trc (hlf A) t * gp (2 * whole A) t = bs t (hlfT A) * sc (hlf A) t := by
  have e1 : trc (hlf A) t * gp (2 * whole A) t = sc (hlf A) t * sm A.length fun i => bs t (hlfW A i i) := by
    unfold trc
    rw [hlf_len, sm_mul, sm_mull]
    exact sm_congr fun i hi => hlf_pe gA hi t i hi
  rw [e1, bs_sm, Int.mul_comm]
  congr 1
  refine bs_congr fun m s _ _ => ?_
  unfold hlfT trc hlfW
  rw [sm_mul]
/-! ### the law's common degree, its steps -/
theorem gc_lcm {x y : Int} (hx : 0 < x) (hy : 0 < y) : x * (y / gc x y) = lcmI x y := by
  have e1 : gc x y = ((Nat.gcd x.natAbs y.natAbs : Nat) : Int) := rfl
  have e2 : lcmI x y = ((Nat.lcm x.natAbs y.natAbs : Nat) : Int) := rfl
  obtain ⟨a, rfl⟩ := Int.eq_ofNat_of_zero_le (Int.le_of_lt hx)
  obtain ⟨b, rfl⟩ := Int.eq_ofNat_of_zero_le (Int.le_of_lt hy)
  rw [e1, e2]
  simp only [Int.natAbs_natCast]
  rw [← Int.natCast_ediv, ← Int.natCast_mul, Nat.lcm, Nat.mul_div_assoc _ (Nat.gcd_dvd_right a b)]
theorem cdeg_pos {ds : List Int} (h : ∀ d ∈ ds, 0 < d) : 0 < cdeg ds := cdeg_pos0 ds 1 (by decide) h
/-- the shares of one step, one by one -/
def shr (A : List (List Int)) : List Int := A.map fun r => whole A / r.sum
theorem shr_len : (shr A).length = A.length := List.length_map _
theorem shr_at {k : Nat} (h : k < A.length) : el (shr A) k = whole A / (row A k).sum := by
  unfold el shr row
  rw [List.getElem?_map, List.getElem?_eq_getElem h]
  rfl
theorem deal_el {ns : List Int} {j : Nat} (hj : j < A.length) : el (deal (stepRows A) ns) j = sm A.length fun k => el ns k * el (shr A) k * el (row A k) j := by
  unfold deal
  rw [sr_len, el_map hj]
  refine sm_congr fun k hk => ?_
  rw [sr_row hk, el_map hj, shr_at hk]
  grind
/-- all walks after t steps -/
def tb (A : List (List Int)) (t : Nat) : List (List Int) := (List.range A.length).map fun i => pw A i t
theorem tb_len {t : Nat} : (tb A t).length = A.length := by unfold tb; rw [List.length_map, List.length_range]
theorem tb_row {t i : Nat} (h : i < A.length) : row (tb A t) i = pw A i t := row_map h
/-- common degrees divide -/
theorem fold_min : ∀ (ds : List Int) (w L : Int), w ∣ L → (∀ d ∈ ds, d ∣ L) → ds.foldl lcmI w ∣ L
  | [], w, L, h, _ => h
  | d :: ds, w, L, h, hd => fold_min ds (lcmI w d) L (by
      have h1 := Int.natAbs_dvd_natAbs.mpr h
      have h2 := Int.natAbs_dvd_natAbs.mpr (hd d List.mem_cons_self)
      exact Int.natAbs_dvd_natAbs.mp (Nat.lcm_dvd h1 h2)) fun e he => hd e (List.mem_cons_of_mem _ he)
theorem whole_min {L : Int} (h : ∀ r ∈ rows, r.sum ∣ L) : whole rows ∣ L := fold_min (degs rows) 1 L ⟨L, (Int.one_mul L).symm⟩ fun d hd => by
  obtain ⟨r, hr, e⟩ := List.mem_map.mp hd
  rw [← e]
  exact h r hr
theorem deg_dvd {r : List Int} (h : r ∈ rows) : r.sum ∣ whole rows := fold_mem (degs rows) 1 r.sum (List.mem_map.mpr ⟨r, h, rfl⟩)
theorem kron_whole (gA : Tied A) (gB : Tied B) : whole (kron A B) ∣ whole A * whole B := whole_min fun r hr => by
  obtain ⟨i, k, hi, hk, rfl⟩ := prs_mem hr
  rw [prs_sum, kron_deg gA gB hi hk]
  exact Int.mul_dvd_mul (deg_dvd (row_mem hi)) (deg_dvd (row_mem hk))
theorem mix_whole (gA : Tied A) (gB : Tied B) {x y : Int} : whole (mix A B x y) ∣ (x + y) * whole A * whole B := whole_min fun r hr => by
  obtain ⟨i, k, hi, hk, rfl⟩ := prs_mem hr
  rw [prs_sum, mix_deg gA gB hi hk]
  exact Int.mul_dvd_mul (Int.mul_dvd_mul (Int.dvd_refl _) (deg_dvd (row_mem hi))) (deg_dvd (row_mem hk))
theorem hlf_whole (gA : Tied A) : whole (hlf A) ∣ 2 * whole A := whole_min fun r hr => by
  obtain ⟨i, hi, rfl⟩ := mem_row hr
  rw [hlf_len] at hi
  rw [hlf_deg gA hi]
  exact Int.mul_dvd_mul (Int.dvd_refl _) (deg_dvd (row_mem hi))
theorem dvd_sm {x y : Int} {k : Nat} (h : x ∣ y) (hy : 0 < y) (s : Sm k y) : Sm k x := by
  have h1 := Nat.le_of_dvd (by omega) (Int.natAbs_dvd_natAbs.mpr h)
  exact Nat.lt_of_le_of_lt h1 s
end DL
set_option Elab.async false
set_option linter.all false
set_option maxRecDepth 100000
set_option maxHeartbeats 1000000
/-! DLQ: lists that grow, tables that are filled, two generators. -/
namespace DL
open PySem PySem.Spec PyProof.Rows L2 MP
variable {n : Nat} {S S1 : Store} {rows M : List (List Int)} {m : Nat} {q r : R} {xs : List R} {a : List Int}
theorem get_o {C : Calls} {ρ : MP.Env} {i : Nat} {x : Str} {p : Pos} {k : Nat} (h : ρ[i]? = some (some (.own k))) : evE C (.var i x p) ρ S = .ok (.own k) S := by
  show getV ρ i S = _
  unfold getV
  rw [h]
  rfl
theorem get_d {C : Calls} {ρ : MP.Env} {i : Nat} {x : Str} {p : Pos} {d : D} (h : ρ[i]? = some (some (.dat d))) : evE C (.var i x p) ρ S = .ok (.dat d) S := by
  show getV ρ i S = _
  unfold getV
  rw [h]
  rfl
theorem rng_at {lo : Int} {n j : Nat} {x : Itm} (h : (rngI lo n)[j]? = some x) : j < n ∧ x = .one (RI (lo + (j : Int))) := by
  rw [rng_eq, List.getElem?_map] at h
  cases g : (List.range n)[j]? with
  | none => rw [g] at h; cases h
  | some k =>
    rw [g] at h
    cases h
    have hj := (List.getElem?_eq_some_iff.mp g).1
    rw [List.length_range] at hj
    rw [List.getElem?_range hj] at g
    cases g
    exact ⟨hj, rfl⟩
theorem rng0_at {n j : Nat} {x : Itm} (h : (rngI 0 n)[j]? = some x) : j < n ∧ x = .one (RI (j : Int)) := by
  obtain ⟨a, b⟩ := rng_at h
  rw [Int.zero_add] at b
  exact ⟨a, b⟩
theorem c_ifx {C : Calls} {ρ : MP.Env} {c a b : IE} {p : Pos} {t : Bool} (h : evE C c ρ S = .ok (.dat (.bl t)) S1) : evE C (.ifx c a b p) ρ S = if t = true then evE C a ρ S1 else evE C b ρ S1 := by
  show MP.M.bind (MP.M.bind (evE C c ρ) truB) (fun t => if t = true then evE C a ρ else evE C b ρ) S = _
  have e : MP.M.bind (evE C c ρ) truB S = .ok t S1 := by rw [bind_at h]; rfl
  rw [bind_at e]
  cases t <;> rfl
section
variable {C : CallsX} {ρ : MP.Env} {P : SRes → Prop} {rs : ISs} {p p1 p2 px : Pos}
/-- x.append(e): x the last cell -/
theorem w_app {i : Nat} {x : Str} {e : IE} {v : R} {ys : List R} (ho : ρ[i]? = some (some (.own S.length))) (he : evE C.toCalls e ρ (S ++ [Cell.lst ys]) = .ok v (S ++ [Cell.lst ys])) (hz : ys.length ≤ 1000000) (k : P (evSs C rs ρ (S ++ [Cell.lst (ys ++ [v])]))) :
    P (evSs C (.cons (.expr (.lmeth (.var i x px) .append (.cons e .nil) p1 p) p2) rs) ρ (S ++ [Cell.lst ys])) := by
  refine p_next (r_expr (app_own (k := S.length) (get_o ho) get_last he get_last hz)) ?_
  rw [set_last]
  exact k
/-- rows[i][j] = w -/
theorem r_putS {a b e : IE} {i j : Nat} {w : Int} (hr : evE C.toCalls a ρ (stM S M) = .ok (.own (S.length + i)) (stM S M)) (hb : evE C.toCalls b ρ (stM S M) = .ok (RI (j : Int)) (stM S M)) (he : evE C.toCalls e ρ (stM S M) = .ok (RI w) (stM S M))
    (hi : i < M.length) (hj : j < (row M i).length) : evS C (.setIx a b e p1 p2) ρ (stM S M) = .go .next ρ (stM S (put M i j w)) := by
  show SRes.of ρ (MP.M.bind (evE C.toCalls e ρ) (fun v => MP.M.bind (evE C.toCalls a ρ) fun x => MP.M.bind (evE C.toCalls b ρ) fun y => setIxR x y v) (stM S M)) _ = _
  rw [bind_at he, bind_at hr, bind_at hb, set_cell hi hj]
  rfl
end
/-- [[0] * size for x in range(size)], to be changed -/
theorem e_zer {C : Calls} {e a : IE} {i : Nat} {x : Str} {px p p1 p2 p3 p4 p5 : Pos} {own : List (Str × Nat)} {sc : Scope} {ρ : MP.Env} {m k1 : Nat} (hm : m ≤ 1000) (ha : evE C a ρ S = .ok (RI (m : Int)) S) (he : ∀ (k : Nat) S', evE C e ((wipeE ρ (own.map (·.2))).set i (some (RI (k : Int)))) S' = .ok (RI (m : Int)) S') :
    evE C (.lc true (.bin true .mul (.lst false (.cons (.int 0 k1 p1) .nil) p2) e p3) (.one i x px) (.rng1 a p4 p5) .nil own sc p) ρ S = .ok (.own (S.length + m)) (stM S (List.replicate m (List.replicate m 0))) := by
  have hi := ii_rng1 (p0 := p4) (p := p5) ha (by omega : m ≤ 1000000)
  have hx : ∀ x' ∈ rngI 0 m, ∀ S', ∃ ρ', bindT (.one i x px) x' (wipeE ρ (own.map (·.2))) S' = some ρ' ∧ evTs C .nil ρ' S' = .ok true S' ∧
      (MP.M.bind (evE C (.bin true .mul (.lst false (.cons (.int 0 k1 p1) .nil) p2) e p3) ρ') fun r => MP.M.pure [r]) S' = .ok [.own S'.length] (S' ++ [pool (List.replicate m 0)]) := by
    intro x' hx S'
    rw [rng_eq] at hx
    obtain ⟨k, hk, rfl⟩ := List.mem_map.mp hx
    rw [Int.zero_add]
    refine ⟨_, rfl, rfl, ?_⟩
    have e1 : evE C (.bin true .mul (.lst false (.cons (.int 0 k1 p1) .nil) p2) e p3) ((wipeE ρ (own.map (·.2))).set i (some (RI (k : Int)))) S' = .ok (.own S'.length) (S' ++ [pool (List.replicate m 0)]) := by
      refine c_bin (x := .dat (.lst [.int 0])) rfl (he k S') ?_
      show repL true (.dat (.lst [.int 0])) (m : Int) S' = _
      have q : itemsL S' (.dat (.lst [.int 0])) = some [RI 0] := rfl
      unfold repL
      rw [q]
      have h1 : small ([RI 0].length * (m : Int).toNat) = true := decide_eq_true (by simp; omega)
      simp only [h1]
      rw [if_pos ⟨trivial, by omega, by omega⟩]
      unfold mkL
      simp [pool]
    exact (bind_at e1).trans rfl
  show MP.M.bind (evII C (.rng1 a p4 p5) ρ) (fun q => MP.M.bind (lcLoop q.2 (lcTurn (.one i x px) q.2 (fun ρ' => evTs C .nil ρ') (fun ρ' => MP.M.bind (evE C _ ρ') fun r => MP.M.pure [r]) (wipeE ρ (own.map (·.2)))) q.1) (lcOut true)) S = _
  rw [bind_at hi]
  have q := loop_new (S := S) (xs := rngI 0 m) (t := .one i x px) (c := fun ρ' => evTs C .nil ρ') (e := fun ρ' => MP.M.bind (evE C (.bin true .mul (.lst false (.cons (.int 0 k1 p1) .nil) p2) e p3) ρ') fun r => MP.M.pure [r]) hx
  rw [bind_at q]
  unfold lcOut
  have h2 : small (ownsR S.length (rngI 0 m).length).length = true := by
    unfold ownsR
    rw [List.length_map, List.length_range, rng_lenN]
    exact decide_eq_true (by omega)
  rw [if_pos h2]
  unfold mkL DL.stM
  simp [rng_lenN]
/-- [list(row) for row in a tuple of tuples], to be changed -/
theorem lc_ownT {C : Calls} {e a : IE} {i : Nat} {x : Str} {px : Pos} {own : List (Str × Nat)} {sc : Scope} {p : Pos} {ρ : MP.Env} (ha : evE C a ρ S = .ok (.dat (.tup (M.map TL))) S) (hl : M.length ≤ 1000000)
    (hx : ∀ k, k < M.length → ∀ S', evE C e ((wipeE ρ (own.map (·.2))).set i (some (.dat (TL (row M k))))) S' = .ok (.own S'.length) (S' ++ [pool (row M k)])) : evE C (.lc true e (.one i x px) (.of a) .nil own sc p) ρ S = .ok (.own (S.length + M.length)) (stM S M) := by
  have hi := ii_wk ha (Wk.tup (S := S) (l := M.map TL))
  show MP.M.bind (evII C (.of a) ρ) (fun q => MP.M.bind (lcLoop q.2 (lcTurn (.one i x px) q.2 (fun ρ' => evTs C .nil ρ') (fun ρ' => MP.M.bind (evE C e ρ') fun r => MP.M.pure [r]) (wipeE ρ (own.map (·.2)))) q.1) (lcOut true)) S = _
  rw [bind_at hi]
  have q := loop_rows (t := .one i x px) (c := fun ρ' => evTs C .nil ρ') (e := fun ρ' => MP.M.bind (evE C e ρ') fun r => MP.M.pure [r]) (ρ0 := wipeE ρ (own.map (·.2))) (xs := ((M.map TL).map R.dat).map Itm.one) (S := S) (M := M) (by rw [List.length_map, List.length_map, List.length_map]) (fun k y hy S' => by
    obtain ⟨z, h1, rfl⟩ := one_at hy
    rw [List.getElem?_map] at h1
    cases h2 : (M.map TL)[k]? with
    | none => rw [h2] at h1; cases h1
    | some d =>
      rw [h2] at h1
      cases h1
      obtain ⟨hk, rfl⟩ := tl_at h2
      exact ⟨_, rfl, rfl, by rw [bind_at (hx k hk S')]; rfl⟩)
  have q' : lcLoop (guardR S (.dat (.tup (M.map TL)))) (lcTurn (.one i x px) (guardR S (.dat (.tup (M.map TL)))) (fun ρ' => evTs C .nil ρ') (fun ρ' => MP.M.bind (evE C e ρ') fun r => MP.M.pure [r]) (wipeE ρ (own.map (·.2)))) (((M.map TL).map R.dat).map Itm.one) S = .ok (ownsR S.length M.length) (S ++ M.map pool) := q
  rw [bind_at q']
  unfold lcOut
  have h2 : small (ownsR S.length M.length).length = true := by
    unfold ownsR
    rw [List.length_map, List.length_range]
    exact decide_eq_true hl
  rw [if_pos h2]
  unfold mkL DL.stM
  simp
/-- two generators, no if: pairs -/
theorem lc2_pr {C : Calls} {e : IE} {t t2 : IT} {it it2 : II} {own : List (Str × Nat)} {vs2 : List Nat} {sc : Scope} {p : Pos} {ρ : MP.Env} {ys : List Itm} {g : Gd} {n m : Nat} {G : Nat → Nat → D} (hi : evII C it ρ S = .ok (ys, g) S) (hg : gdOk S g = true) (hn : ys.length = n)
    (hx : ∀ (i : Nat) x, ys[i]? = some x → ∃ ρ', bindT t x (wipeE ρ (own.map (·.2))) S = some ρ' ∧ ∃ xs2 g2, evII C it2 ρ' S = .ok (xs2, g2) S ∧ gdOk S g2 = true ∧ xs2.length = m ∧
      ∀ (j : Nat) y, xs2[j]? = some y → ∃ ρ2, bindT t2 y (wipeE ρ' vs2) S = some ρ2 ∧ evE C e ρ2 S = .ok (.dat (G i j)) S) (hB : n * m ≤ 1000000) :
    evE C (.lc2 false e t it .nil t2 it2 .nil own vs2 sc p) ρ S = .ok (.dat (.lst ((List.range (n * m)).map fun p => G (p / m) (p % m)))) S := by
  subst hn
  have q := lc2_fl (B := m) (N := fun _ => m) (G := fun i j => [G i j]) (e := e) (t := t) (t2 := t2) (it2 := it2) (cs2 := .nil) (own := own) (vs2 := vs2) (sc := sc) (p := p) hi hg (fun i x h => by
    obtain ⟨ρ', h1, xs2, g2, h2, h3, h4, h5⟩ := hx i x h
    refine ⟨ρ', h1, xs2, g2, h2, h3, h4, Nat.le_refl _, fun j y hy => ?_⟩
    obtain ⟨ρ2, k1, k2⟩ := h5 j y hy
    exact ⟨ρ2, k1, true, rfl, fun _ => ⟨_, k2, rfl⟩, fun z => nomatch z⟩) hB
  rw [q]
  congr 3
  rw [← flat_pairs]
  congr 1
  funext i
  rw [List.map_eq_flatMap]
theorem RM_prs {n m : Nat} {f : Nat → Nat → Nat → Nat → Int} : RM (prs n m f) = .dat (.lst ((List.range (n * m)).map fun p => IL ((List.range (n * m)).map fun q => f (p / m) (p % m) (q / m) (q % m)))) := RM_map
theorem el_ext {a b : List Int} (h : a.length = b.length) (he : ∀ k, k < a.length → el a k = el b k) : a = b := by
  refine List.ext_getElem h fun i h1 h2 => ?_
  have := he i h1
  unfold el at this
  rw [List.getElem?_eq_getElem h1, List.getElem?_eq_getElem h2] at this
  exact this
theorem row_ext {M N : List (List Int)} (h : M.length = N.length) (he : ∀ k, k < M.length → row M k = row N k) : M = N := by
  refine List.ext_getElem h fun i h1 h2 => ?_
  have := he i h1
  unfold row at this
  rw [List.getElem?_eq_getElem h1, List.getElem?_eq_getElem h2] at this
  exact this
/-! ### lists of expressions -/
theorem es_nil {C : Calls} {ρ : MP.Env} : evEs C .nil ρ S = .ok [] S := rfl
theorem es_cons {C : Calls} {ρ : MP.Env} {e : IE} {es : IEs} {v : R} {vs : List R} {S2 : Store} (h : evE C e ρ S = .ok v S1) (h2 : evEs C es ρ S1 = .ok vs S2) : evEs C (.cons e es) ρ S = .ok (v :: vs) S2 := by
  show MP.M.bind (evE C e ρ) (fun x => MP.M.bind (evEs C es ρ) fun xs => MP.M.pure (x :: xs)) S = _
  rw [bind_at h, bind_at h2]
  rfl
theorem c_lst {C : Calls} {ρ : MP.Env} {es : IEs} {p : Pos} {vs : List R} {ds : List D} (h : evEs C es ρ S = .ok vs S1) (h2 : datsR vs = some ds) : evE C (.lst false es p) ρ S = .ok (.dat (.lst ds)) S1 := by
  show MP.M.bind (evEs C es ρ) (mkL false) S = _
  rw [bind_at h]
  unfold mkL
  rw [h2]
theorem ix_cases {l : List Int} {x : Int} (h0 : 0 ≤ x) (h1 : x < l.length) : ixR (RL l) (RI x) S = .ok (RI (el l x.toNat)) S := by
  have := RowR.ix (S := S) (k := x.toNat) (RowR.dat (a := l)) (by omega)
  rw [Int.toNat_of_nonneg h0] at this
  exact this
theorem toD_tup {m f k : Nat} {rs : List R} (hk : S[k]? = some (.tup rs)) (h : m ≤ k) : toD m S (f + 1) (.own k) = (allD (toD m S f) rs).map D.tup := by
  show (if k < m then none else match S[k]? with
    | some (.lst rs) => (allD (toD m S f) rs).map D.lst
    | some (.tup rs) => (allD (toD m S f) rs).map D.tup
    | some (.obj c ns rs) => (allD (toD m S f) rs).map (D.obj c ns)
    | none => none) = _
  rw [if_neg (Nat.not_lt.mpr h), hk]
theorem set_pool {l : List Int} {x w : Int} (h1 : x.toNat < l.length) (h0 : 0 ≤ x) : setIxR (.own S.length) (RI x) (RI w) (S ++ [pool l]) = .ok () (S ++ [pool (l.set x.toNat w)]) := by
  obtain ⟨k, rfl⟩ := Int.eq_ofNat_of_zero_le h0
  rw [Int.toNat_natCast] at h1 ⊢
  unfold setIxR
  simp only [get_last]
  have e1 : ixN ((l.map D.int).map R.dat).length (k : Int) = some k := by
    unfold ixN
    simp
    omega
  simp only [e1]
  rw [set_last]
  unfold pool
  rw [List.map_set, List.map_set]
/-! ### tables as cells -/
theorem toD_stM {m0 : Nat} (h : m0 ≤ S.length) : toD m0 (stM S M) 8 (.own (S.length + M.length)) = some (.lst (M.map IL)) := by
  rw [toD_lst stM_outer (by omega)]
  unfold ownsR
  rw [allD_map (h := fun i => IL (row M i)) M.length fun i hi => by
    rw [toD_lst (stM_row hi) (by omega), allD_dat]
    rfl]
  rw [map_row]
  rfl
/-- a table that was filled is returned -/
theorem seal_stM {E : Store} {ρ : MP.Env} (h : WF S) : sealS S.length (.go (.ret (.own ((S ++ E).length + M.length))) ρ (stM (S ++ E) M)) = .ok (RM M) S := by
  have e : stM (S ++ E) M = S ++ (E ++ (M.map pool ++ [Cell.lst (ownsR (S ++ E).length M.length)])) := by unfold stM; rw [List.append_assoc]
  have h2 := toD_stM (S := S ++ E) (M := M) (m0 := S.length) (by rw [List.length_append]; omega)
  rw [e] at h2 ⊢
  exact seal_own rfl h (by rw [List.length_append]; omega) h2
section
variable {C : CallsX} {ρ : MP.Env} {P : SRes → Prop} {rs : ISs} {B : Int}
/-- rows[i][j] = e, rows[j][i] = e' -/
theorem w_sym {ri ii ji : Nat} {x y z x' y' z' : Str} {p1 p2 p3 p4 p5 p6 q1 q2 q3 q4 q5 q6 : Pos} {e e' : IE} {i j : Nat} {w : Int} (g : Sq m B M) (hi : i < m) (hj : j < m) (hR : ρ[ri]? = some (some (.own (S.length + m)))) (hI : ρ[ii]? = some (some (RI (i : Int)))) (hJ : ρ[ji]? = some (some (RI (j : Int))))
    (he : ∀ M', evE C.toCalls e ρ (stM S M') = .ok (RI w) (stM S M')) (he' : ∀ M', evE C.toCalls e' ρ (stM S M') = .ok (RI w) (stM S M')) (k : P (evSs C rs ρ (stM S (put2 M i j w)))) :
    P (evSs C (.cons (.setIx (.ix (.var ri x p1) (.var ii y p2) p3) (.var ji z p4) e p5 p6) (.cons (.setIx (.ix (.var ri x' q1) (.var ji z' q2) q3) (.var ii y' q4) e' q5 q6) rs)) ρ (stM S M)) := by
  have x1 := ix_outer (S := S) (M := M) (i := i) (by rw [g.len]; exact hi)
  rw [g.len] at x1
  have x2 := ix_outer (S := S) (M := put M i j w) (i := j) (by rw [put_len, g.len]; exact hj)
  rw [put_len, g.len] at x2
  refine p_next (r_putS (i := i) (j := j) (w := w) (c_ix (x := .own (S.length + m)) (y := RI (i : Int)) (get_o hR) (get_d hI) x1) (get_d hJ) (he M) (by rw [g.len]; exact hi) (by rw [g.row i hi]; exact hj)) ?_
  exact p_next (r_putS (i := j) (j := i) (w := w) (c_ix (x := .own (S.length + m)) (y := RI (j : Int)) (get_o hR) (get_d hJ) x2) (get_d hI) (he' _) (by rw [put_len, g.len]; exact hj) (by rw [g.lenput hi hj]; exact hi)) k
end
def tri (m : Nat) : Nat → Nat
  | 0 => 0
  | i + 1 => tri m i + (m - i)
theorem tri_le {m : Nat} : ∀ {i k : Nat}, tri m i ≤ tri m (i + k)
  | i, 0 => Nat.le_refl _
  | i, k + 1 => Nat.le_trans tri_le (Nat.le_add_right _ _)
/-! ### the half, loop by loop -/
def hp (A : List (List Int)) : Nat → List (List Int)
  | 0 => A
  | k + 1 => put (hp A k) k k (el (row A k) k + (row A k).sum)
theorem hp_len {A : List (List Int)} : ∀ k, (hp A k).length = A.length
  | 0 => rfl
  | k + 1 => by
    show (put (hp A k) k k _).length = _
    rw [put_len, hp_len k]
theorem hp_row {A : List (List Int)} : ∀ k i, k ≤ A.length → i < A.length → row (hp A k) i = if i < k then (row A i).set i (el (row A i) i + (row A i).sum) else row A i
  | 0, i, _, hi => rfl
  | k + 1, i, hk, hi => by
    show row (put (hp A k) k k _) i = _
    rw [row_put (by rw [hp_len]; omega), hp_row k k (by omega) (by omega), if_neg (Nat.lt_irrefl k)]
    by_cases h : i = k
    · subst h
      rw [if_pos rfl, if_pos (Nat.lt_succ_self _)]
    · rw [if_neg h, hp_row k i (by omega) hi]
      by_cases h2 : i < k
      · rw [if_pos h2, if_pos (by omega)]
      · rw [if_neg h2, if_neg (by omega)]
theorem hp_end {A : List (List Int)} (hs : ∀ i, i < A.length → (row A i).length = A.length) : hp A A.length = hlf A := by
  refine row_ext (by rw [hp_len, hlf_len]) fun i hi => ?_
  rw [hp_len] at hi
  rw [hp_row _ _ (Nat.le_refl _) hi, if_pos hi, hlf_row hi]
  refine el_ext (by rw [List.length_set, List.length_map, List.length_range, hs i hi]) fun j hj => ?_
  rw [List.length_set, hs i hi] at hj
  rw [el_set (by rw [hs i hi]; exact hi), el_map hj]
  by_cases h : j = i
  · subst h
    rw [if_pos rfl, if_pos rfl]
  · rw [if_neg h, if_neg h, Int.add_zero]
end DL
set_option Elab.async false
set_option linter.all false
set_option maxRecDepth 100000
set_option maxHeartbeats 1000000
/-! DLE: == on lists and tuples of numbers, on tables. -/
namespace DL
open PySem PySem.Spec PyProof.Rows L2 MP
variable {S : Store}
theorem eqv_ints : ∀ a b : List Int, PyData.eqvAll (a.map PyData.int) (b.map PyData.int) = decide (a = b)
  | [], [] => by simp [PyData.eqvAll]
  | [], y :: b => by simp [PyData.eqvAll]
  | x :: a, [] => by simp [PyData.eqvAll]
  | x :: a, y :: b => by
    simp only [List.map_cons, PyData.eqvAll, PyData.eqv, eqv_ints a b]
    by_cases h : x = y
    · subst h; simp
    · simp [h]
theorem eq_py {a b : D} {x y : PyData} (ha : py a = some x) (hb : py b = some y) (sx : SeqAt.shaped x = true) (sy : SeqAt.shaped y = true) (h : eqD S (.dat a) (.dat b) = match toD 0 S 8 (.dat a), toD 0 S 8 (.dat b) with
    | some d, some e => (match py d, py e with
      | some x, some y => if SeqAt.shaped x = true ∧ SeqAt.shaped y = true then some (PyData.eqv x y) else none
      | _, _ => none)
    | _, _ => none) : eqD S (.dat a) (.dat b) = some (PyData.eqv x y) := by
  rw [h]
  show (match py a, py b with
      | some x, some y => if SeqAt.shaped x = true ∧ SeqAt.shaped y = true then some (PyData.eqv x y) else none
      | _, _ => none) = _
  rw [ha, hb]
  show (if SeqAt.shaped x = true ∧ SeqAt.shaped y = true then some (PyData.eqv x y) else none) = _
  rw [if_pos ⟨sx, sy⟩]
theorem sh_intsT (ns : List Int) : SeqAt.shaped (.tuple (ns.map PyData.int)) = true := by
  unfold SeqAt.shaped
  rw [Bool.and_eq_true, decide_eq_true_iff]
  refine ⟨by simp [PyData.canLay0, lay_ints ns], ?_⟩
  have := dep_ints ns
  simp only [PyData.depth]
  omega
theorem py_TL (a : List Int) : py (TL a) = some (.tuple (a.map PyData.int)) := by
  show (pys (a.map D.int)).map PyData.tuple = _
  rw [pys_map]
  rfl
theorem py_IL (a : List Int) : py (IL a) = some (.list (a.map PyData.int)) := by
  show (pys (a.map D.int)).map PyData.list = _
  rw [pys_map]
  rfl
theorem eqD_TL {a b : List Int} : eqD S (.dat (TL a)) (.dat (TL b)) = some (decide (a = b)) := by
  rw [eq_py (py_TL a) (py_TL b) (sh_intsT a) (sh_intsT b) rfl]
  show some (PyData.eqvAll _ _) = _
  rw [eqv_ints]
theorem eqD_IL {a b : List Int} : eqD S (RL a) (RL b) = some (decide (a = b)) := by
  rw [eq_py (py_IL a) (py_IL b) (sh_ints a) (sh_ints b) rfl]
  show some (PyData.eqvAll _ _) = _
  rw [eqv_ints]
theorem cmp_eq {a b : R} {t : Bool} (h : eqD S a b = some t) : cmpR .eq a b S = .ok (.dat (.bl t)) S := by
  show (match eqD S a b with
    | some c => Res.ok (R.dat (.bl c)) S
    | none => .stuck) = _
  rw [h]
theorem cmp_ne {a b : R} {t : Bool} (h : eqD S a b = some t) : cmpR .ne a b S = .ok (.dat (.bl (!t))) S := by
  show (match eqD S a b with
    | some c => Res.ok (R.dat (.bl (!c))) S
    | none => .stuck) = _
  rw [h]
theorem eq_TL {a b : List Int} : cmpR .eq (.dat (TL a)) (.dat (TL b)) S = .ok (.dat (.bl (decide (a = b)))) S := cmp_eq eqD_TL
theorem eq_IL {a b : List Int} : cmpR .eq (RL a) (RL b) S = .ok (.dat (.bl (decide (a = b)))) S := cmp_eq eqD_IL
theorem ne_IL {a b : List Int} : cmpR .ne (RL a) (RL b) S = .ok (.dat (.bl (!decide (a = b)))) S := cmp_ne eqD_IL
theorem c_or3 {C : Calls} {ρ : MP.Env} {p : Pos} {a b c : IE} {x y z : Bool} (ha : evE C a ρ S = .ok (.dat (.bl x)) S) (hb : evE C b ρ S = .ok (.dat (.bl y)) S) (hc : evE C c ρ S = .ok (.dat (.bl z)) S) : evE C (.or a (.cons b (.cons c .nil)) p) ρ S = .ok (.dat (.bl (x || (y || z)))) S := by
  show MP.M.bind (MP.M.bind (evE C a ρ) truB) (fun b' => if b' = true then MP.M.pure (R.dat (.bl true)) else MP.M.bind (MP.M.bind (evE C b ρ) truB) fun b' => if b' = true then MP.M.pure (R.dat (.bl true)) else evE C c ρ) S = _
  have e : MP.M.bind (evE C a ρ) truB S = .ok x S := by rw [bind_at ha]; rfl
  have e2 : MP.M.bind (evE C b ρ) truB S = .ok y S := by rw [bind_at hb]; rfl
  rw [bind_at e]
  cases x with
  | true => rfl
  | false =>
    show MP.M.bind (MP.M.bind (evE C b ρ) truB) _ S = _
    rw [bind_at e2]
    cases y with
    | true => rfl
    | false => exact hc
theorem c_and3 {C : Calls} {ρ : MP.Env} {p : Pos} {a b c : IE} {x y z : Bool} (ha : evE C a ρ S = .ok (.dat (.bl x)) S) (hb : evE C b ρ S = .ok (.dat (.bl y)) S) (hc : evE C c ρ S = .ok (.dat (.bl z)) S) : evE C (.and a (.cons b (.cons c .nil)) p) ρ S = .ok (.dat (.bl (x && (y && z)))) S := by
  show MP.M.bind (MP.M.bind (evE C a ρ) truB) (fun b' => if b' = true then MP.M.bind (MP.M.bind (evE C b ρ) truB) (fun b' => if b' = true then evE C c ρ else MP.M.pure (R.dat (.bl false))) else MP.M.pure (R.dat (.bl false))) S = _
  have e : MP.M.bind (evE C a ρ) truB S = .ok x S := by rw [bind_at ha]; rfl
  have e2 : MP.M.bind (evE C b ρ) truB S = .ok y S := by rw [bind_at hb]; rfl
  rw [bind_at e]
  cases x with
  | false => rfl
  | true =>
    show MP.M.bind (MP.M.bind (evE C b ρ) truB) _ S = _
    rw [bind_at e2]
    cases y with
    | false => rfl
    | true => exact hc
/-- one list behind the other -/
theorem c_cat {C : Calls} {ρ : MP.Env} {p : Pos} {x y : IE} {a b : List Int} {S1 S2 : Store} (ha : evE C x ρ S = .ok (RL a) S1) (hb : evE C y ρ S1 = .ok (RL b) S2) (hl : a.length + b.length ≤ 1000000) : evE C (.bin false .add x y p) ρ S = .ok (RL (a ++ b)) S2 := by
  refine c_bin ha hb ?_
  show catL false (RL a) (RL b) S2 = _
  unfold catL
  have e1 : itemsL S2 (RL a) = some ((a.map D.int).map R.dat) := rfl
  have e2 : itemsL S2 (RL b) = some ((b.map D.int).map R.dat) := rfl
  rw [e1, e2]
  show (if small (((a.map D.int).map R.dat).length + ((b.map D.int).map R.dat).length) = true then mkL false ((a.map D.int).map R.dat ++ (b.map D.int).map R.dat) S2 else .stuck) = _
  rw [if_pos (show small _ = true from decide_eq_true (by rw [List.length_map, List.length_map, List.length_map, List.length_map]; exact hl)), ← List.map_append, ← List.map_append]
  unfold mkL
  rw [datsR_map]
theorem ix_two0 {C : Calls} {ρ : MP.Env} {i : Nat} {x : Str} {p1 p2 p3 : Pos} {k : Nat} {a b : Int} (h : ρ[i]? = some (some (.dat (TL [a, b])))) : evE C (.ix (.var i x p1) (.int 0 k p2) p3) ρ S = .ok (RI a) S := c_ix (x := .dat (TL [a, b])) (y := RI 0) (get_d h) rfl rfl
theorem ix_two1 {C : Calls} {ρ : MP.Env} {i : Nat} {x : Str} {p1 p2 p3 : Pos} {k : Nat} {a b : Int} (h : ρ[i]? = some (some (.dat (TL [a, b])))) : evE C (.ix (.var i x p1) (.int 1 k p2) p3) ρ S = .ok (RI b) S := c_ix (x := .dat (TL [a, b])) (y := RI 1) (get_d h) rfl rfl
theorem c_callKK2 {C : Calls} {ρ : MP.Env} {p : Pos} {f : Nat} {x nm nm' : Str} {e e' : IE} {p0 q q' : Pos} {v w : R} {r : Res R} {S1 S2 : Store} {pm : List Nat} {zs : List R} (he : evE C e ρ S = .ok v S1) (he' : evE C e' ρ S1 = .ok w S2) (hp : pick pm [v, w] = some zs) (h : C.fn f zs S2 = r) : evE C (.callKK f x (.cons nm e q (.cons nm' e' q' .nil)) pm p0 p) ρ S = r := by
  show MP.M.bind (MP.M.bind (evE C e ρ) fun y => MP.M.bind (MP.M.bind (evE C e' ρ) fun z => MP.M.bind (MP.M.pure []) fun zs => MP.M.pure (z :: zs)) fun ys => MP.M.pure (y :: ys)) (fun ys => match pick pm ys with
    | some zs => C.fn f zs
    | none => MP.M.stuck) S = _
  rw [bind_assoc, bind_at he, bind_assoc, bind_assoc, bind_at he']
  show (match pick pm [v, w] with
    | some zs => C.fn f zs
    | none => MP.M.stuck) S2 = _
  rw [hp]
  exact h
theorem c_lstM {C : Calls} {ρ : MP.Env} {es : IEs} {p : Pos} {vs : List R} {S1 : Store} (h : evEs C es ρ S = .ok vs S1) : evE C (.lst true es p) ρ S = .ok (.own S1.length) (S1 ++ [Cell.lst vs]) := by
  show MP.M.bind (evEs C es ρ) (mkL true) S = _
  rw [bind_at h]
  rfl
theorem c_call5 {C : Calls} {ρ : MP.Env} {p : Pos} {f : Nat} {x : Str} {a b c d e : IE} {p0 : Pos} {v w u z y : R} {S1 S2 S3 S4 S5 : Store} {r : Res R} (ha : evE C a ρ S = .ok v S1) (hb : evE C b ρ S1 = .ok w S2) (hc : evE C c ρ S2 = .ok u S3) (hd : evE C d ρ S3 = .ok z S4) (he : evE C e ρ S4 = .ok y S5) (h : C.fn f [v, w, u, z, y] S5 = r) : evE C (.call f x a (.cons b (.cons c (.cons d (.cons e .nil)))) p0 p) ρ S = r := by
  show MP.M.bind (evE C a ρ) (fun x => MP.M.bind (evEs C (.cons b (.cons c (.cons d (.cons e .nil)))) ρ) fun xs => C.fn f (x :: xs)) S = _
  rw [bind_at ha, bind_at (es_cons hb (es_cons hc (es_cons hd (es_cons he es_nil))))]
  exact h
theorem c_callK3 {C : Calls} {ρ : MP.Env} {p : Pos} {f : Nat} {x nm : Str} {a b e : IE} {p0 q : Pos} {v w u : R} {r : Res R} {S1 S2 S3 : Store} {pm : List Nat} {zs : List R} (ha : evE C a ρ S = .ok v S1) (hb : evE C b ρ S1 = .ok w S2) (he : evE C e ρ S2 = .ok u S3) (hp : pick pm [v, w, u] = some zs) (h : C.fn f zs S3 = r) : evE C (.callK f x a (.cons b .nil) (.cons nm e q .nil) pm p0 p) ρ S = r := by
  show MP.M.bind (evE C a ρ) (fun x => MP.M.bind (evEs C (.cons b .nil) ρ) fun xs => MP.M.bind (MP.M.bind (evE C e ρ) fun y => MP.M.bind (MP.M.pure []) fun ys => MP.M.pure (y :: ys)) fun ys => match pick pm (x :: xs ++ ys) with
    | some zs => C.fn f zs
    | none => MP.M.stuck) S = _
  rw [bind_at ha, bind_at (es_cons hb es_nil), bind_assoc, bind_at he]
  show (match pick pm [v, w, u] with
    | some zs => C.fn f zs
    | none => MP.M.stuck) S3 = _
  rw [hp]
  exact h
/-! ### tables -/
theorem eqv_rows (f : List PyData → PyData) (hf : ∀ x y, PyData.eqv (f x) (f y) = PyData.eqvAll x y) : ∀ a b : List (List Int), PyData.eqvAll (a.map fun r => f (r.map PyData.int)) (b.map fun r => f (r.map PyData.int)) = decide (a = b)
  | [], [] => by simp [PyData.eqvAll]
  | [], y :: b => by simp [PyData.eqvAll]
  | x :: a, [] => by simp [PyData.eqvAll]
  | x :: a, y :: b => by
    simp only [List.map_cons, PyData.eqvAll, hf, eqv_rows f hf a b, eqv_ints]
    by_cases h : x = y
    · subst h; simp
    · simp [h]
theorem pys_rows (g : List D → D) (f : List PyData → PyData) (h : ∀ l x, pys l = some x → py (g l) = some (f x)) : ∀ rows : List (List Int), pys (rows.map fun r => g (r.map D.int)) = some (rows.map fun r => f (r.map PyData.int))
  | [] => rfl
  | r :: rows => by
    show (match py (g (r.map D.int)), pys (rows.map fun r => g (r.map D.int)) with
      | some x, some xs => some (x :: xs)
      | _, _ => none) = _
    rw [h _ _ (pys_map r), pys_rows g f h rows]
    rfl
theorem lay_rows (f : List PyData → PyData) (h : ∀ x, PyData.canLayAll0 x = true → PyData.canLay0 (f x) = true) : ∀ rows : List (List Int), PyData.canLayAll0 (rows.map fun r => f (r.map PyData.int)) = true
  | [] => by simp [PyData.canLayAll0]
  | r :: rows => by
    simp only [List.map_cons, PyData.canLayAll0]
    rw [h _ (lay_ints r), lay_rows f h rows]
    rfl
theorem dep_rows (f : List PyData → PyData) (h : ∀ x, (f x).depth = PyData.depthAll x + 1) : ∀ rows : List (List Int), PyData.depthAll (rows.map fun r => f (r.map PyData.int)) ≤ 4
  | [] => by simp [PyData.depthAll]
  | r :: rows => by
    have h1 := dep_rows f h rows
    have h2 := dep_ints r
    have h3 := h (r.map PyData.int)
    simp only [List.map_cons, PyData.depthAll]
    omega
end DL
set_option Elab.async false
set_option linter.all false
set_option maxRecDepth 1000000
set_option maxHeartbeats 0
/-! K58IR: the code of the law as data. -/
namespace K58
open PySem PySem.Spec PyProof.Rows L2 MP
def topS (i : Nat) : Stmt := PySem.Challenge.pw_spreadgap_k58_products_and_sums_by_pairs.main.body.getD i (.Pass ⟨0, 0, 0, 0⟩)
def methS (s : Stmt) (k : Nat) : Stmt := match s with
  | .ClassDef _ _ _ body _ _ _ _ _ _ _ => body.getD k (.Pass ⟨0, 0, 0, 0⟩)
  | _ => .Pass ⟨0, 0, 0, 0⟩
/-- law -/
def ir0 : ISs :=
    (.cons (.asg (.one 0 "script" ⟨528, 4, 528, 10⟩) (.sl false (.var 0 "script" ⟨528, 13, 528, 19⟩) .nil (.cons (.int (63) 0 ⟨528, 21, 528, 23⟩) .nil) ⟨528, 20, 528, 23⟩ ⟨528, 13, 528, 24⟩) ⟨528, 4, 528, 24⟩)
    (.cons (.asg (.one 1 "one" ⟨529, 4, 529, 7⟩) (.call 9 "_law_rows" (.var 0 "script" ⟨529, 20, 529, 26⟩) (.cons (.int (4) 0 ⟨529, 28, 529, 29⟩) (.cons (.ix (.lst false (.cons (.int (2) 0 ⟨529, 32, 529, 33⟩) (.cons (.int (3) 0 ⟨529, 35, 529, 36⟩) (.cons (.int (1) 0 ⟨529, 38, 529, 39⟩) (.cons (.int (4) 0 ⟨529, 41, 529, 42⟩) .nil)))) ⟨529, 31, 529, 43⟩) (.bin false .mod (.bi false .int (.call 2 "_law_cell" (.var 0 "script" ⟨529, 58, 529, 64⟩) (.cons (.int (0) 0 ⟨529, 66, 529, 67⟩) .nil) ⟨529, 48, 529, 57⟩ ⟨529, 48, 529, 68⟩) .nil ⟨529, 44, 529, 47⟩ ⟨529, 44, 529, 69⟩) (.int (4) 0 ⟨529, 72, 529, 73⟩) ⟨529, 44, 529, 73⟩) ⟨529, 31, 529, 74⟩) .nil)) ⟨529, 10, 529, 19⟩ ⟨529, 10, 529, 75⟩) ⟨529, 4, 529, 75⟩)
    (.cons (.asg (.one 2 "two" ⟨530, 4, 530, 7⟩) (.call 9 "_law_rows" (.var 0 "script" ⟨530, 20, 530, 26⟩) (.cons (.int (16) 0 ⟨530, 28, 530, 30⟩) (.cons (.ix (.lst false (.cons (.int (2) 0 ⟨530, 33, 530, 34⟩) (.cons (.int (1) 0 ⟨530, 36, 530, 37⟩) (.cons (.int (3) 0 ⟨530, 39, 530, 40⟩) (.cons (.int (2) 0 ⟨530, 42, 530, 43⟩) .nil)))) ⟨530, 32, 530, 44⟩) (.bin false .mod (.bi false .int (.call 2 "_law_cell" (.var 0 "script" ⟨530, 59, 530, 65⟩) (.cons (.int (1) 0 ⟨530, 67, 530, 68⟩) .nil) ⟨530, 49, 530, 58⟩ ⟨530, 49, 530, 69⟩) .nil ⟨530, 45, 530, 48⟩ ⟨530, 45, 530, 70⟩) (.int (4) 0 ⟨530, 73, 530, 74⟩) ⟨530, 45, 530, 74⟩) ⟨530, 32, 530, 75⟩) .nil)) ⟨530, 10, 530, 19⟩ ⟨530, 10, 530, 76⟩) ⟨530, 4, 530, 76⟩)
    (.cons (.asg (.one 3 "pair" ⟨531, 4, 531, 8⟩) (.call 8 "_law_pair" (.var 0 "script" ⟨531, 21, 531, 27⟩) (.cons (.int (28) 0 ⟨531, 29, 531, 31⟩) .nil) ⟨531, 11, 531, 20⟩ ⟨531, 11, 531, 32⟩) ⟨531, 4, 531, 32⟩)
    (.cons (.asg (.one 4 "webs" ⟨532, 4, 532, 8⟩) (.lst true (.cons (.call 7 "_law_made" (.var 1 "one" ⟨532, 22, 532, 25⟩) .nil ⟨532, 12, 532, 21⟩ ⟨532, 12, 532, 26⟩) (.cons (.call 7 "_law_made" (.var 2 "two" ⟨532, 38, 532, 41⟩) .nil ⟨532, 28, 532, 37⟩ ⟨532, 28, 532, 42⟩) .nil)) ⟨532, 11, 532, 43⟩) ⟨532, 4, 532, 43⟩)
    (.cons (.expr (.lmeth (.var 4 "webs" ⟨533, 4, 533, 8⟩) .append (.cons (.call 6 "product" (.ix (.var 4 "webs" ⟨533, 24, 533, 28⟩) (.int (0) 0 ⟨533, 29, 533, 30⟩) ⟨533, 24, 533, 31⟩) (.cons (.ix (.var 4 "webs" ⟨533, 33, 533, 37⟩) (.int (1) 0 ⟨533, 38, 533, 39⟩) ⟨533, 33, 533, 40⟩) .nil) ⟨533, 16, 533, 23⟩ ⟨533, 16, 533, 41⟩) .nil) ⟨533, 4, 533, 15⟩ ⟨533, 4, 533, 42⟩) ⟨533, 4, 533, 42⟩)
    (.cons (.ite (.cmp .eq (.var 3 "pair" ⟨534, 7, 534, 11⟩) (.tup (.cons (.int (1) 0 ⟨534, 16, 534, 17⟩) (.cons (.int (1) 0 ⟨534, 19, 534, 20⟩) .nil)) 0 ⟨534, 15, 534, 21⟩) ⟨534, 7, 534, 21⟩) (.cons (.expr (.lmeth (.var 4 "webs" ⟨535, 8, 535, 12⟩) .append (.cons (.opm 4 "Web" .add (.ix (.var 4 "webs" ⟨535, 20, 535, 24⟩) (.int (0) 0 ⟨535, 25, 535, 26⟩) ⟨535, 20, 535, 27⟩) (.ix (.var 4 "webs" ⟨535, 30, 535, 34⟩) (.int (1) 0 ⟨535, 35, 535, 36⟩) ⟨535, 30, 535, 37⟩) ⟨535, 20, 535, 37⟩) .nil) ⟨535, 8, 535, 19⟩ ⟨535, 8, 535, 38⟩) ⟨535, 8, 535, 38⟩)
    .nil) (.cons (.expr (.lmeth (.var 4 "webs" ⟨537, 8, 537, 12⟩) .append (.cons (.callK 5 "sum_of" (.ix (.var 4 "webs" ⟨537, 27, 537, 31⟩) (.int (0) 0 ⟨537, 32, 537, 33⟩) ⟨537, 27, 537, 34⟩) (.cons (.ix (.var 4 "webs" ⟨537, 36, 537, 40⟩) (.int (1) 0 ⟨537, 41, 537, 42⟩) ⟨537, 36, 537, 43⟩) .nil) (.cons "ways" (.var 3 "pair" ⟨537, 50, 537, 54⟩) ⟨537, 45, 537, 54⟩ .nil) [0, 1, 2] ⟨537, 20, 537, 26⟩ ⟨537, 20, 537, 55⟩) .nil) ⟨537, 8, 537, 19⟩ ⟨537, 8, 537, 56⟩) ⟨537, 8, 537, 56⟩)
    .nil) ⟨534, 4, 537, 56⟩)
    (.cons (.asg (.one 5 "steps" ⟨538, 4, 538, 9⟩) (.ix (.lst false (.cons (.int (3) 0 ⟨538, 13, 538, 14⟩) (.cons (.int (0) 0 ⟨538, 16, 538, 17⟩) (.cons (.int (1) 0 ⟨538, 19, 538, 20⟩) (.cons (.int (2) 0 ⟨538, 22, 538, 23⟩) (.cons (.int (4) 0 ⟨538, 25, 538, 26⟩) (.cons (.int (5) 0 ⟨538, 28, 538, 29⟩) .nil)))))) ⟨538, 12, 538, 30⟩) (.bin false .mod (.bi false .int (.call 2 "_law_cell" (.var 0 "script" ⟨538, 45, 538, 51⟩) (.cons (.int (2) 0 ⟨538, 53, 538, 54⟩) .nil) ⟨538, 35, 538, 44⟩ ⟨538, 35, 538, 55⟩) .nil ⟨538, 31, 538, 34⟩ ⟨538, 31, 538, 56⟩) (.int (6) 0 ⟨538, 59, 538, 60⟩) ⟨538, 31, 538, 60⟩) ⟨538, 12, 538, 61⟩) ⟨538, 4, 538, 61⟩)
    (.cons (.ite (.and (.cmp .lt (.bin false .mul (.bi false .len (.var 1 "one" ⟨539, 11, 539, 14⟩) .nil ⟨539, 7, 539, 10⟩ ⟨539, 7, 539, 15⟩) (.bi false .len (.var 2 "two" ⟨539, 22, 539, 25⟩) .nil ⟨539, 18, 539, 21⟩ ⟨539, 18, 539, 26⟩) ⟨539, 7, 539, 26⟩) (.int (3) 0 ⟨539, 29, 539, 30⟩) ⟨539, 7, 539, 30⟩) (.cons (.cmp .eq (.bin false .mod (.bi false .int (.call 2 "_law_cell" (.var 0 "script" ⟨539, 49, 539, 55⟩) (.cons (.int (31) 0 ⟨539, 57, 539, 59⟩) .nil) ⟨539, 39, 539, 48⟩ ⟨539, 39, 539, 60⟩) .nil ⟨539, 35, 539, 38⟩ ⟨539, 35, 539, 61⟩) (.int (2) 0 ⟨539, 64, 539, 65⟩) ⟨539, 35, 539, 65⟩) (.int (1) 0 ⟨539, 69, 539, 70⟩) ⟨539, 35, 539, 70⟩) .nil) ⟨539, 7, 539, 70⟩) (.cons (.asg (.one 5 "steps" ⟨540, 8, 540, 13⟩) (.bin false .mod (.bi false .int (.call 2 "_law_cell" (.var 0 "script" ⟨540, 30, 540, 36⟩) (.cons (.int (32) 0 ⟨540, 38, 540, 40⟩) .nil) ⟨540, 20, 540, 29⟩ ⟨540, 20, 540, 41⟩) .nil ⟨540, 16, 540, 19⟩ ⟨540, 16, 540, 42⟩) (.int (61) 0 ⟨540, 45, 540, 47⟩) ⟨540, 16, 540, 47⟩) ⟨540, 8, 540, 47⟩)
    .nil) .nil ⟨539, 4, 540, 47⟩)
    (.cons (.asg (.one 6 "far" ⟨541, 4, 541, 7⟩) (.bin false .add (.int (61) 0 ⟨541, 10, 541, 12⟩) (.bin false .mod (.bi false .int (.call 2 "_law_cell" (.var 0 "script" ⟨541, 29, 541, 35⟩) (.cons (.int (33) 0 ⟨541, 37, 541, 39⟩) .nil) ⟨541, 19, 541, 28⟩ ⟨541, 19, 541, 40⟩) .nil ⟨541, 15, 541, 18⟩ ⟨541, 15, 541, 41⟩) (.int (1000) 0 ⟨541, 44, 541, 48⟩) ⟨541, 15, 541, 48⟩) ⟨541, 10, 541, 48⟩) ⟨541, 4, 541, 48⟩)
    (.cons (.asg (.one 7 "odd" ⟨542, 4, 542, 7⟩) (.ix (.lst false (.cons (.int (61) 0 ⟨542, 11, 542, 13⟩) (.cons (.neg (.int (1) 0 ⟨542, 16, 542, 17⟩) ⟨542, 15, 542, 17⟩) (.cons (.var 6 "far" ⟨542, 19, 542, 22⟩) (.cons (.bin false .sub (.neg (.int (2) 0 ⟨542, 25, 542, 26⟩) ⟨542, 24, 542, 26⟩) (.var 5 "steps" ⟨542, 29, 542, 34⟩) ⟨542, 24, 542, 34⟩) .nil)))) ⟨542, 10, 542, 35⟩) (.bin false .mod (.bi false .int (.call 2 "_law_cell" (.var 0 "script" ⟨542, 50, 542, 56⟩) (.cons (.int (34) 0 ⟨542, 58, 542, 60⟩) .nil) ⟨542, 40, 542, 49⟩ ⟨542, 40, 542, 61⟩) .nil ⟨542, 36, 542, 39⟩ ⟨542, 36, 542, 62⟩) (.int (4) 0 ⟨542, 65, 542, 66⟩) ⟨542, 36, 542, 66⟩) ⟨542, 10, 542, 67⟩) ⟨542, 4, 542, 67⟩)
    (.cons (.ite (.or (.not (.call 3 "_law_refused" (.ix (.var 4 "webs" ⟨543, 24, 543, 28⟩) (.int (2) 0 ⟨543, 29, 543, 30⟩) ⟨543, 24, 543, 31⟩) (.cons (.var 7 "odd" ⟨543, 33, 543, 36⟩) .nil) ⟨543, 11, 543, 23⟩ ⟨543, 11, 543, 37⟩) ⟨543, 7, 543, 37⟩) (.cons (.not (.call 3 "_law_refused" (.ix (.var 4 "webs" ⟨543, 58, 543, 62⟩) (.int (0) 0 ⟨543, 63, 543, 64⟩) ⟨543, 58, 543, 65⟩) (.cons (.var 7 "odd" ⟨543, 67, 543, 70⟩) .nil) ⟨543, 45, 543, 57⟩ ⟨543, 45, 543, 71⟩) ⟨543, 41, 543, 71⟩) .nil) ⟨543, 7, 543, 71⟩) (.cons (.ret (.bl false 0 ⟨544, 15, 544, 20⟩) ⟨544, 8, 544, 20⟩)
    .nil) .nil ⟨543, 4, 544, 20⟩)
    (.cons (.ite (.not (.call 1 "_law_asked" (.var 4 "webs" ⟨545, 22, 545, 26⟩) (.cons (.var 1 "one" ⟨545, 28, 545, 31⟩) (.cons (.var 2 "two" ⟨545, 33, 545, 36⟩) (.cons (.var 3 "pair" ⟨545, 38, 545, 42⟩) (.cons (.var 5 "steps" ⟨545, 44, 545, 49⟩) .nil)))) ⟨545, 11, 545, 21⟩ ⟨545, 11, 545, 50⟩) ⟨545, 7, 545, 50⟩) (.cons (.ret (.bl false 0 ⟨546, 15, 546, 20⟩) ⟨546, 8, 546, 20⟩)
    .nil) .nil ⟨545, 4, 546, 20⟩)
    (.cons (.asg (.one 5 "steps" ⟨547, 4, 547, 9⟩) (.ix (.lst false (.cons (.int (2) 0 ⟨547, 13, 547, 14⟩) (.cons (.int (0) 0 ⟨547, 16, 547, 17⟩) (.cons (.int (1) 0 ⟨547, 19, 547, 20⟩) .nil))) ⟨547, 12, 547, 21⟩) (.bin false .mod (.bi false .int (.call 2 "_law_cell" (.var 0 "script" ⟨547, 36, 547, 42⟩) (.cons (.int (3) 0 ⟨547, 44, 547, 45⟩) .nil) ⟨547, 26, 547, 35⟩ ⟨547, 26, 547, 46⟩) .nil ⟨547, 22, 547, 25⟩ ⟨547, 22, 547, 47⟩) (.int (3) 0 ⟨547, 50, 547, 51⟩) ⟨547, 22, 547, 51⟩) ⟨547, 12, 547, 52⟩) ⟨547, 4, 547, 52⟩)
    (.cons (.ret (.call 1 "_law_asked" (.var 4 "webs" ⟨548, 22, 548, 26⟩) (.cons (.var 1 "one" ⟨548, 28, 548, 31⟩) (.cons (.var 2 "two" ⟨548, 33, 548, 36⟩) (.cons (.var 3 "pair" ⟨548, 38, 548, 42⟩) (.cons (.var 5 "steps" ⟨548, 44, 548, 49⟩) .nil)))) ⟨548, 11, 548, 21⟩ ⟨548, 11, 548, 50⟩) ⟨548, 4, 548, 50⟩)
    .nil)))))))))))))))
def f0 : Fn := ⟨"law", 1, ["script", "one", "two", "pair", "webs", "steps", "far", "odd"], defScope (topS 74), ir0, false⟩
theorem irOk0 : ir0.ss = defBody (topS 74) := by rfl
/-- _law_asked -/
def ir1 : ISs :=
    (.cons (.asg (.one 5 "left" ⟨507, 4, 507, 8⟩) (.call 16 "_law_traces" (.var 1 "one" ⟨507, 23, 507, 26⟩) (.cons (.var 4 "steps" ⟨507, 28, 507, 33⟩) .nil) ⟨507, 11, 507, 22⟩ ⟨507, 11, 507, 34⟩) ⟨507, 4, 507, 34⟩)
    (.cons (.asg (.one 6 "right" ⟨508, 4, 508, 9⟩) (.call 16 "_law_traces" (.var 2 "two" ⟨508, 24, 508, 27⟩) (.cons (.var 4 "steps" ⟨508, 29, 508, 34⟩) .nil) ⟨508, 12, 508, 23⟩ ⟨508, 12, 508, 35⟩) ⟨508, 4, 508, 35⟩)
    (.cons (.asg (.one 7 "top" ⟨509, 4, 509, 7⟩) (.ix (.ix (.var 5 "left" ⟨509, 10, 509, 14⟩) (.int (0) 0 ⟨509, 15, 509, 16⟩) ⟨509, 10, 509, 17⟩) (.var 4 "steps" ⟨509, 18, 509, 23⟩) ⟨509, 10, 509, 24⟩) ⟨509, 4, 509, 24⟩)
    (.cons (.asg (.one 8 "bottom" ⟨510, 4, 510, 10⟩) (.call 15 "_law_raised" (.ix (.var 5 "left" ⟨510, 25, 510, 29⟩) (.int (1) 0 ⟨510, 30, 510, 31⟩) ⟨510, 25, 510, 32⟩) (.cons (.var 4 "steps" ⟨510, 34, 510, 39⟩) .nil) ⟨510, 13, 510, 24⟩ ⟨510, 13, 510, 40⟩) ⟨510, 4, 510, 40⟩)
    (.cons (.asg (.one 9 "other" ⟨511, 4, 511, 9⟩) (.ix (.ix (.var 6 "right" ⟨511, 12, 511, 17⟩) (.int (0) 0 ⟨511, 18, 511, 19⟩) ⟨511, 12, 511, 20⟩) (.var 4 "steps" ⟨511, 21, 511, 26⟩) ⟨511, 12, 511, 27⟩) ⟨511, 4, 511, 27⟩)
    (.cons (.asg (.one 10 "lower" ⟨512, 4, 512, 9⟩) (.call 15 "_law_raised" (.ix (.var 6 "right" ⟨512, 24, 512, 29⟩) (.int (1) 0 ⟨512, 30, 512, 31⟩) ⟨512, 24, 512, 32⟩) (.cons (.var 4 "steps" ⟨512, 34, 512, 39⟩) .nil) ⟨512, 12, 512, 23⟩ ⟨512, 12, 512, 40⟩) ⟨512, 4, 512, 40⟩)
    (.cons (.ite (.not (.call 10 "_law_is_frac" (.call 11 "trace" (.ix (.var 0 "webs" ⟨513, 30, 513, 34⟩) (.int (0) 0 ⟨513, 35, 513, 36⟩) ⟨513, 30, 513, 37⟩) (.cons (.var 4 "steps" ⟨513, 39, 513, 44⟩) .nil) ⟨513, 24, 513, 29⟩ ⟨513, 24, 513, 45⟩) (.cons (.var 7 "top" ⟨513, 47, 513, 50⟩) (.cons (.var 8 "bottom" ⟨513, 52, 513, 58⟩) .nil)) ⟨513, 11, 513, 23⟩ ⟨513, 11, 513, 59⟩) ⟨513, 7, 513, 59⟩) (.cons (.ret (.bl false 0 ⟨514, 15, 514, 20⟩) ⟨514, 8, 514, 20⟩)
    .nil) .nil ⟨513, 4, 514, 20⟩)
    (.cons (.ite (.not (.call 10 "_law_is_frac" (.callKK 11 "trace" (.cons "steps" (.var 4 "steps" ⟨515, 36, 515, 41⟩) ⟨515, 30, 515, 41⟩ (.cons "web" (.ix (.var 0 "webs" ⟨515, 47, 515, 51⟩) (.int (1) 0 ⟨515, 52, 515, 53⟩) ⟨515, 47, 515, 54⟩) ⟨515, 43, 515, 54⟩ .nil)) [1, 0] ⟨515, 24, 515, 29⟩ ⟨515, 24, 515, 55⟩) (.cons (.var 9 "other" ⟨515, 57, 515, 62⟩) (.cons (.var 10 "lower" ⟨515, 64, 515, 69⟩) .nil)) ⟨515, 11, 515, 23⟩ ⟨515, 11, 515, 70⟩) ⟨515, 7, 515, 70⟩) (.cons (.ret (.bl false 0 ⟨516, 15, 516, 20⟩) ⟨516, 8, 516, 20⟩)
    .nil) .nil ⟨515, 4, 516, 20⟩)
    (.cons (.ite (.not (.call 10 "_law_is_frac" (.call 11 "trace" (.ix (.var 0 "webs" ⟨517, 30, 517, 34⟩) (.int (2) 0 ⟨517, 35, 517, 36⟩) ⟨517, 30, 517, 37⟩) (.cons (.var 4 "steps" ⟨517, 39, 517, 44⟩) .nil) ⟨517, 24, 517, 29⟩ ⟨517, 24, 517, 45⟩) (.cons (.bin false .mul (.var 7 "top" ⟨517, 47, 517, 50⟩) (.var 9 "other" ⟨517, 53, 517, 58⟩) ⟨517, 47, 517, 58⟩) (.cons (.bin false .mul (.var 8 "bottom" ⟨517, 60, 517, 66⟩) (.var 10 "lower" ⟨517, 69, 517, 74⟩) ⟨517, 60, 517, 74⟩) .nil)) ⟨517, 11, 517, 23⟩ ⟨517, 11, 517, 75⟩) ⟨517, 7, 517, 75⟩) (.cons (.ret (.bl false 0 ⟨518, 15, 518, 20⟩) ⟨518, 8, 518, 20⟩)
    .nil) .nil ⟨517, 4, 518, 20⟩)
    (.cons (.asg (.one 11 "due" ⟨519, 4, 519, 7⟩) (.call 14 "_law_sum_due" (.var 5 "left" ⟨519, 23, 519, 27⟩) (.cons (.var 6 "right" ⟨519, 29, 519, 34⟩) (.cons (.var 3 "pair" ⟨519, 36, 519, 40⟩) (.cons (.var 4 "steps" ⟨519, 42, 519, 47⟩) .nil))) ⟨519, 10, 519, 22⟩ ⟨519, 10, 519, 48⟩) ⟨519, 4, 519, 48⟩)
    (.cons (.ite (.not (.call 10 "_law_is_frac" (.call 11 "trace" (.ix (.var 0 "webs" ⟨520, 30, 520, 34⟩) (.int (3) 0 ⟨520, 35, 520, 36⟩) ⟨520, 30, 520, 37⟩) (.cons (.var 4 "steps" ⟨520, 39, 520, 44⟩) .nil) ⟨520, 24, 520, 29⟩ ⟨520, 24, 520, 45⟩) (.cons (.ix (.var 11 "due" ⟨520, 47, 520, 50⟩) (.int (0) 0 ⟨520, 51, 520, 52⟩) ⟨520, 47, 520, 53⟩) (.cons (.ix (.var 11 "due" ⟨520, 55, 520, 58⟩) (.int (1) 0 ⟨520, 59, 520, 60⟩) ⟨520, 55, 520, 61⟩) .nil)) ⟨520, 11, 520, 23⟩ ⟨520, 11, 520, 62⟩) ⟨520, 7, 520, 62⟩) (.cons (.ret (.bl false 0 ⟨521, 15, 521, 20⟩) ⟨521, 8, 521, 20⟩)
    .nil) .nil ⟨520, 4, 521, 20⟩)
    (.cons (.asg (.one 11 "due" ⟨522, 4, 522, 7⟩) (.call 13 "_law_half_due" (.var 5 "left" ⟨522, 24, 522, 28⟩) (.cons (.var 4 "steps" ⟨522, 30, 522, 35⟩) .nil) ⟨522, 10, 522, 23⟩ ⟨522, 10, 522, 36⟩) ⟨522, 4, 522, 36⟩)
    (.cons (.ite (.not (.call 10 "_law_is_frac" (.call 11 "trace" (.call 12 "half" (.ix (.var 0 "webs" ⟨523, 35, 523, 39⟩) (.int (0) 0 ⟨523, 40, 523, 41⟩) ⟨523, 35, 523, 42⟩) .nil ⟨523, 30, 523, 34⟩ ⟨523, 30, 523, 43⟩) (.cons (.var 4 "steps" ⟨523, 45, 523, 50⟩) .nil) ⟨523, 24, 523, 29⟩ ⟨523, 24, 523, 51⟩) (.cons (.ix (.var 11 "due" ⟨523, 53, 523, 56⟩) (.int (0) 0 ⟨523, 57, 523, 58⟩) ⟨523, 53, 523, 59⟩) (.cons (.ix (.var 11 "due" ⟨523, 61, 523, 64⟩) (.int (1) 0 ⟨523, 65, 523, 66⟩) ⟨523, 61, 523, 67⟩) .nil)) ⟨523, 11, 523, 23⟩ ⟨523, 11, 523, 68⟩) ⟨523, 7, 523, 68⟩) (.cons (.ret (.bl false 0 ⟨524, 15, 524, 20⟩) ⟨524, 8, 524, 20⟩)
    .nil) .nil ⟨523, 4, 524, 20⟩)
    (.cons (.asg (.one 11 "due" ⟨525, 4, 525, 7⟩) (.call 13 "_law_half_due" (.var 6 "right" ⟨525, 24, 525, 29⟩) (.cons (.var 4 "steps" ⟨525, 31, 525, 36⟩) .nil) ⟨525, 10, 525, 23⟩ ⟨525, 10, 525, 37⟩) ⟨525, 4, 525, 37⟩)
    (.cons (.ret (.call 10 "_law_is_frac" (.call 11 "trace" (.call 12 "half" (.ix (.var 0 "webs" ⟨526, 35, 526, 39⟩) (.int (1) 0 ⟨526, 40, 526, 41⟩) ⟨526, 35, 526, 42⟩) .nil ⟨526, 30, 526, 34⟩ ⟨526, 30, 526, 43⟩) (.cons (.var 4 "steps" ⟨526, 45, 526, 50⟩) .nil) ⟨526, 24, 526, 29⟩ ⟨526, 24, 526, 51⟩) (.cons (.ix (.var 11 "due" ⟨526, 53, 526, 56⟩) (.int (0) 0 ⟨526, 57, 526, 58⟩) ⟨526, 53, 526, 59⟩) (.cons (.ix (.var 11 "due" ⟨526, 61, 526, 64⟩) (.int (1) 0 ⟨526, 65, 526, 66⟩) ⟨526, 61, 526, 67⟩) .nil)) ⟨526, 11, 526, 23⟩ ⟨526, 11, 526, 68⟩) ⟨526, 4, 526, 68⟩)
    .nil)))))))))))))))
def f1 : Fn := ⟨"_law_asked", 5, ["webs", "one", "two", "pair", "steps", "left", "right", "top", "bottom", "other", "lower", "due"], defScope (topS 73), ir1, false⟩
theorem irOk1 : ir1.ss = defBody (topS 73) := by rfl
/-- _law_cell -/
def ir2 : ISs :=
    (.cons (.ite (.cmp .eq (.bi false .len (.var 0 "script" ⟨381, 11, 381, 17⟩) .nil ⟨381, 7, 381, 10⟩ ⟨381, 7, 381, 18⟩) (.int (0) 0 ⟨381, 22, 381, 23⟩) ⟨381, 7, 381, 23⟩) (.cons (.ret (.int (0) 0 ⟨382, 15, 382, 16⟩) ⟨382, 8, 382, 16⟩)
    .nil) .nil ⟨381, 4, 382, 16⟩)
    (.cons (.ret (.ix (.var 0 "script" ⟨383, 11, 383, 17⟩) (.bin false .mod (.bi false .int (.var 1 "k" ⟨383, 22, 383, 23⟩) .nil ⟨383, 18, 383, 21⟩ ⟨383, 18, 383, 24⟩) (.bi false .len (.var 0 "script" ⟨383, 31, 383, 37⟩) .nil ⟨383, 27, 383, 30⟩ ⟨383, 27, 383, 38⟩) ⟨383, 18, 383, 38⟩) ⟨383, 11, 383, 39⟩) ⟨383, 4, 383, 39⟩)
    .nil))
def f2 : Fn := ⟨"_law_cell", 2, ["script", "k"], defScope (topS 56), ir2, false⟩
theorem irOk2 : ir2.ss = defBody (topS 56) := by rfl
/-- _law_refused -/
def ir3 : ISs :=
    (.cons (.try1 (.cons (.expr (.call 11 "trace" (.var 0 "web" ⟨500, 14, 500, 17⟩) (.cons (.var 1 "steps" ⟨500, 19, 500, 24⟩) .nil) ⟨500, 8, 500, 13⟩ ⟨500, 8, 500, 25⟩) ⟨500, 8, 500, 25⟩)
    .nil) "GapError" 2 "e" (.cons (.ite (.or (.not (.xIs 2 "e" "OutOfRange" ⟨502, 26, 502, 27⟩ ⟨502, 29, 502, 39⟩ ⟨502, 15, 502, 25⟩ ⟨502, 15, 502, 40⟩) ⟨502, 11, 502, 40⟩) (.cons (.xIs 2 "e" "BadPlace" ⟨502, 55, 502, 56⟩ ⟨502, 58, 502, 66⟩ ⟨502, 44, 502, 54⟩ ⟨502, 44, 502, 67⟩) .nil) ⟨502, 11, 502, 67⟩) (.cons (.ret (.bl false 0 ⟨503, 19, 503, 24⟩) ⟨503, 12, 503, 24⟩)
    .nil) .nil ⟨502, 8, 503, 24⟩)
    (.cons (.ret (.and (.call 17 "_law_whole" (.xAt 2 "e" "value" ⟨504, 26, 504, 27⟩ ⟨504, 26, 504, 33⟩) .nil ⟨504, 15, 504, 25⟩ ⟨504, 15, 504, 34⟩) (.cons (.cmp .eq (.xAt 2 "e" "value" ⟨504, 39, 504, 40⟩ ⟨504, 39, 504, 46⟩) (.var 1 "steps" ⟨504, 50, 504, 55⟩) ⟨504, 39, 504, 55⟩) .nil) ⟨504, 15, 504, 55⟩) ⟨504, 8, 504, 55⟩)
    .nil)) ⟨501, 11, 501, 19⟩ ⟨501, 4, 504, 55⟩ .nil ⟨499, 4, 504, 55⟩)
    (.cons (.ret (.bl false 0 ⟨505, 11, 505, 16⟩) ⟨505, 4, 505, 16⟩)
    .nil))
def f3 : Fn := ⟨"_law_refused", 2, ["web", "steps", "e"], defScope (topS 72), ir3, false⟩
theorem irOk3 : ir3.ss = defBody (topS 72) := by rfl
/-- Web.__add__ -/
def ir4 : ISs :=
    (.cons (.ret (.call 18 "mixed_web" (.var 0 "self" ⟨278, 25, 278, 29⟩) (.cons (.var 1 "other" ⟨278, 31, 278, 36⟩) (.cons (.int (1) 0 ⟨278, 38, 278, 39⟩) (.cons (.int (1) 0 ⟨278, 41, 278, 42⟩) .nil))) ⟨278, 15, 278, 24⟩ ⟨278, 15, 278, 43⟩) ⟨278, 8, 278, 43⟩)
    .nil)
def f4 : Fn := ⟨"__add__", 2, ["self", "other"], defScope (methS (topS 36) 6), ir4, false⟩
theorem irOk4 : ir4.ss = defBody (methS (topS 36) 6) := by rfl
def b5_0 : ISs :=
    (.cons (.ite (.or (.cmp .lt (.var 3 "way" ⟨371, 11, 371, 14⟩) (.int (1) 0 ⟨371, 17, 371, 18⟩) ⟨371, 11, 371, 18⟩) (.cons (.cmp .gt (.var 3 "way" ⟨371, 22, 371, 25⟩) (.gint (1000) "MOST_WAYS" ⟨371, 28, 371, 37⟩) ⟨371, 22, 371, 37⟩) .nil) ⟨371, 11, 371, 37⟩) (.cons (.raise "OutOfRange" none (.cons (.var 3 "way" ⟨372, 29, 372, 32⟩) .nil) ⟨372, 18, 372, 28⟩ ⟨372, 18, 372, 33⟩ ⟨372, 12, 372, 33⟩)
    .nil) .nil ⟨371, 8, 372, 33⟩)
    .nil)
/-- sum_of -/
def ir5 : ISs :=
    (.cons (.ite (.cmp .ne (.bi false .len (.var 2 "ways" ⟨368, 11, 368, 15⟩) .nil ⟨368, 7, 368, 10⟩ ⟨368, 7, 368, 16⟩) (.int (2) 0 ⟨368, 20, 368, 21⟩) ⟨368, 7, 368, 21⟩) (.cons (.raise "BadShape" none .nil ⟨369, 14, 369, 22⟩ ⟨369, 14, 369, 24⟩ ⟨369, 8, 369, 24⟩)
    .nil) .nil ⟨368, 4, 369, 24⟩)
    (.cons (.for_ (.one 3 "way" ⟨370, 8, 370, 11⟩) (.of (.var 2 "ways" ⟨370, 15, 370, 19⟩)) b5_0 ⟨370, 4, 372, 33⟩)
    (.cons (.ret (.call 18 "mixed_web" (.var 0 "first" ⟨373, 21, 373, 26⟩) (.cons (.var 1 "second" ⟨373, 28, 373, 34⟩) (.cons (.ix (.var 2 "ways" ⟨373, 36, 373, 40⟩) (.int (0) 0 ⟨373, 41, 373, 42⟩) ⟨373, 36, 373, 43⟩) (.cons (.ix (.var 2 "ways" ⟨373, 45, 373, 49⟩) (.int (1) 0 ⟨373, 50, 373, 51⟩) ⟨373, 45, 373, 52⟩) .nil))) ⟨373, 11, 373, 20⟩ ⟨373, 11, 373, 53⟩) ⟨373, 4, 373, 53⟩)
    .nil)))
def f5 : Fn := ⟨"sum_of", 3, ["first", "second", "ways", "way"], defScope (topS 53), ir5, false⟩
theorem irOk5 : ir5.ss = defBody (topS 53) := by rfl
/-- product -/
def ir6 : ISs :=
    (.cons (.ret (.opm 19 "Web" .mul (.var 0 "first" ⟨366, 11, 366, 16⟩) (.var 1 "second" ⟨366, 19, 366, 25⟩) ⟨366, 11, 366, 25⟩) ⟨366, 4, 366, 25⟩)
    .nil)
def f6 : Fn := ⟨"product", 2, ["first", "second"], defScope (topS 52), ir6, false⟩
theorem irOk6 : ir6.ss = defBody (topS 52) := by rfl
def e7_0 : IE :=
    .lc true (.bi true .list (.var 3 "row" ⟨427, 19, 427, 22⟩) .nil ⟨427, 14, 427, 18⟩ ⟨427, 14, 427, 23⟩) (.one 3 "row" ⟨427, 28, 427, 31⟩) (.of (.var 0 "rows" ⟨427, 35, 427, 39⟩)) .nil [("row", 3)] { kind := .function, names := [(".0", .«local»), ("row", .«local»), ("list", .globalImplicit)], isGenerator := false, isCoroutine := false, more := [] } ⟨427, 13, 427, 40⟩
/-- _law_made -/
def ir7 : ISs :=
    (.cons (.asg (.one 1 "handed" ⟨427, 4, 427, 10⟩) e7_0 ⟨427, 4, 427, 40⟩)
    (.cons (.asg (.one 2 "web" ⟨428, 4, 428, 7⟩) (.make false 20 "Web" (.var 1 "handed" ⟨428, 14, 428, 20⟩) .nil ⟨428, 10, 428, 13⟩ ⟨428, 10, 428, 21⟩) ⟨428, 4, 428, 21⟩)
    (.cons (.setIx (.ix (.var 1 "handed" ⟨429, 4, 429, 10⟩) (.int (0) 0 ⟨429, 11, 429, 12⟩) ⟨429, 4, 429, 13⟩) (.int (0) 0 ⟨429, 14, 429, 15⟩) (.bin false .add (.ix (.ix (.var 1 "handed" ⟨429, 19, 429, 25⟩) (.int (0) 0 ⟨429, 26, 429, 27⟩) ⟨429, 19, 429, 28⟩) (.int (0) 0 ⟨429, 29, 429, 30⟩) ⟨429, 19, 429, 31⟩) (.int (7) 0 ⟨429, 34, 429, 35⟩) ⟨429, 19, 429, 35⟩) ⟨429, 4, 429, 16⟩ ⟨429, 4, 429, 35⟩)
    (.cons (.ret (.var 2 "web" ⟨430, 11, 430, 14⟩) ⟨430, 4, 430, 14⟩)
    .nil))))
def f7 : Fn := ⟨"_law_made", 1, ["rows", "handed", "web", "row"], defScope (topS 61), ir7, false⟩
theorem irOk7 : ir7.ss = defBody (topS 61) := by rfl
/-- _law_pair -/
def ir8 : ISs :=
    (.cons (.asg (.one 2 "kind" ⟨419, 4, 419, 8⟩) (.bin false .mod (.bi false .int (.call 2 "_law_cell" (.var 0 "script" ⟨419, 25, 419, 31⟩) (.cons (.var 1 "at" ⟨419, 33, 419, 35⟩) .nil) ⟨419, 15, 419, 24⟩ ⟨419, 15, 419, 36⟩) .nil ⟨419, 11, 419, 14⟩ ⟨419, 11, 419, 37⟩) (.int (4) 0 ⟨419, 40, 419, 41⟩) ⟨419, 11, 419, 41⟩) ⟨419, 4, 419, 41⟩)
    (.cons (.asg (.one 3 "row" ⟨420, 4, 420, 7⟩) (.call 21 "_law_row" (.var 0 "script" ⟨420, 19, 420, 25⟩) (.cons (.bin false .add (.var 1 "at" ⟨420, 27, 420, 29⟩) (.int (1) 0 ⟨420, 32, 420, 33⟩) ⟨420, 27, 420, 33⟩) (.cons (.ix (.lst false (.cons (.int (1) 0 ⟨420, 36, 420, 37⟩) (.cons (.int (9) 0 ⟨420, 39, 420, 40⟩) (.cons (.int (1000) 0 ⟨420, 42, 420, 46⟩) (.cons (.int (1000) 0 ⟨420, 48, 420, 52⟩) .nil)))) ⟨420, 35, 420, 53⟩) (.var 2 "kind" ⟨420, 54, 420, 58⟩) ⟨420, 35, 420, 59⟩) (.cons (.int (2) 0 ⟨420, 61, 420, 62⟩) .nil))) ⟨420, 10, 420, 18⟩ ⟨420, 10, 420, 63⟩) ⟨420, 4, 420, 63⟩)
    (.cons (.ite (.cmp .eq (.var 2 "kind" ⟨421, 7, 421, 11⟩) (.int (3) 0 ⟨421, 15, 421, 16⟩) ⟨421, 7, 421, 16⟩) (.cons (.setIx (.var 3 "row" ⟨422, 8, 422, 11⟩) (.bin false .mod (.bi false .int (.ix (.var 3 "row" ⟨422, 16, 422, 19⟩) (.int (0) 0 ⟨422, 20, 422, 21⟩) ⟨422, 16, 422, 22⟩) .nil ⟨422, 12, 422, 15⟩ ⟨422, 12, 422, 23⟩) (.int (2) 0 ⟨422, 26, 422, 27⟩) ⟨422, 12, 422, 27⟩) (.int (999) 0 ⟨422, 31, 422, 34⟩) ⟨422, 8, 422, 28⟩ ⟨422, 8, 422, 34⟩)
    .nil) .nil ⟨421, 4, 422, 34⟩)
    (.cons (.ret (.tup (.cons (.bin false .add (.ix (.var 3 "row" ⟨423, 12, 423, 15⟩) (.int (0) 0 ⟨423, 16, 423, 17⟩) ⟨423, 12, 423, 18⟩) (.int (1) 0 ⟨423, 21, 423, 22⟩) ⟨423, 12, 423, 22⟩) (.cons (.bin false .add (.ix (.var 3 "row" ⟨423, 24, 423, 27⟩) (.int (1) 0 ⟨423, 28, 423, 29⟩) ⟨423, 24, 423, 30⟩) (.int (1) 0 ⟨423, 33, 423, 34⟩) ⟨423, 24, 423, 34⟩) .nil)) 0 ⟨423, 11, 423, 35⟩) ⟨423, 4, 423, 35⟩)
    .nil))))
def f8 : Fn := ⟨"_law_pair", 2, ["script", "at", "kind", "row"], defScope (topS 59), ir8, false⟩
theorem irOk8 : ir8.ss = defBody (topS 59) := by rfl
def b9_0 : ISs :=
    (.cons (.ite (.cmp .eq (.bi false .sum (.ix (.var 6 "rows" ⟨411, 15, 411, 19⟩) (.var 8 "i" ⟨411, 20, 411, 21⟩) ⟨411, 15, 411, 22⟩) .nil ⟨411, 11, 411, 14⟩ ⟨411, 11, 411, 23⟩) (.int (0) 0 ⟨411, 27, 411, 28⟩) ⟨411, 11, 411, 28⟩) (.cons (.asg (.one 9 "j" ⟨412, 12, 412, 13⟩) (.bin false .add (.var 8 "i" ⟨412, 16, 412, 17⟩) (.int (1) 0 ⟨412, 20, 412, 21⟩) ⟨412, 16, 412, 21⟩) ⟨412, 12, 412, 21⟩)
    (.cons (.ite (.cmp .eq (.var 8 "i" ⟨413, 15, 413, 16⟩) (.bin false .sub (.var 2 "size" ⟨413, 20, 413, 24⟩) (.int (1) 0 ⟨413, 27, 413, 28⟩) ⟨413, 20, 413, 28⟩) ⟨413, 15, 413, 28⟩) (.cons (.asg (.one 9 "j" ⟨414, 16, 414, 17⟩) (.bi false .max (.int (0) 0 ⟨414, 24, 414, 25⟩) (.cons (.bin false .sub (.var 8 "i" ⟨414, 27, 414, 28⟩) (.int (1) 0 ⟨414, 31, 414, 32⟩) ⟨414, 27, 414, 32⟩) .nil) ⟨414, 20, 414, 23⟩ ⟨414, 20, 414, 33⟩) ⟨414, 16, 414, 33⟩)
    .nil) .nil ⟨413, 12, 414, 33⟩)
    (.cons (.setIx (.ix (.var 6 "rows" ⟨415, 12, 415, 16⟩) (.var 8 "i" ⟨415, 17, 415, 18⟩) ⟨415, 12, 415, 19⟩) (.var 9 "j" ⟨415, 20, 415, 21⟩) (.int (1) 0 ⟨415, 25, 415, 26⟩) ⟨415, 12, 415, 22⟩ ⟨415, 12, 415, 26⟩)
    (.cons (.setIx (.ix (.var 6 "rows" ⟨416, 12, 416, 16⟩) (.var 9 "j" ⟨416, 17, 416, 18⟩) ⟨416, 12, 416, 19⟩) (.var 8 "i" ⟨416, 20, 416, 21⟩) (.int (1) 0 ⟨416, 25, 416, 26⟩) ⟨416, 12, 416, 22⟩ ⟨416, 12, 416, 26⟩)
    .nil)))) .nil ⟨411, 8, 416, 26⟩)
    .nil)
def b9_1 : ISs :=
    (.cons (.asg (.one 10 "worth" ⟨402, 12, 402, 17⟩) (.ix (.var 5 "row" ⟨402, 20, 402, 23⟩) (.var 7 "k" ⟨402, 24, 402, 25⟩) ⟨402, 20, 402, 26⟩) ⟨402, 12, 402, 26⟩)
    (.cons (.ite (.and (.cmp .eq (.var 3 "kind" ⟨403, 15, 403, 19⟩) (.int (3) 0 ⟨403, 23, 403, 24⟩) ⟨403, 15, 403, 24⟩) (.cons (.cmp .eq (.var 8 "i" ⟨403, 29, 403, 30⟩) (.var 9 "j" ⟨403, 34, 403, 35⟩) ⟨403, 29, 403, 35⟩) .nil) ⟨403, 15, 403, 35⟩) (.cons (.asg (.one 10 "worth" ⟨404, 16, 404, 21⟩) (.ix (.var 5 "row" ⟨404, 24, 404, 27⟩) (.int (0) 0 ⟨404, 28, 404, 29⟩) ⟨404, 24, 404, 30⟩) ⟨404, 16, 404, 30⟩)
    .nil) .nil ⟨403, 12, 404, 30⟩)
    (.cons (.ite (.and (.cmp .eq (.var 3 "kind" ⟨405, 15, 405, 19⟩) (.int (3) 0 ⟨405, 23, 405, 24⟩) ⟨405, 15, 405, 24⟩) (.cons (.cmp .lt (.var 8 "i" ⟨405, 29, 405, 30⟩) (.var 9 "j" ⟨405, 33, 405, 34⟩) ⟨405, 29, 405, 34⟩) .nil) ⟨405, 15, 405, 34⟩) (.cons (.asg (.one 10 "worth" ⟨406, 16, 406, 21⟩) (.bin false .add (.ix (.var 5 "row" ⟨406, 24, 406, 27⟩) (.bin false .sub (.bi false .len (.var 5 "row" ⟨406, 32, 406, 35⟩) .nil ⟨406, 28, 406, 31⟩ ⟨406, 28, 406, 36⟩) (.int (1) 0 ⟨406, 39, 406, 40⟩) ⟨406, 28, 406, 40⟩) ⟨406, 24, 406, 41⟩) (.int (1) 0 ⟨406, 44, 406, 45⟩) ⟨406, 24, 406, 45⟩) ⟨406, 16, 406, 45⟩)
    .nil) .nil ⟨405, 12, 406, 45⟩)
    (.cons (.setIx (.ix (.var 6 "rows" ⟨407, 12, 407, 16⟩) (.var 8 "i" ⟨407, 17, 407, 18⟩) ⟨407, 12, 407, 19⟩) (.var 9 "j" ⟨407, 20, 407, 21⟩) (.var 10 "worth" ⟨407, 25, 407, 30⟩) ⟨407, 12, 407, 22⟩ ⟨407, 12, 407, 30⟩)
    (.cons (.setIx (.ix (.var 6 "rows" ⟨408, 12, 408, 16⟩) (.var 9 "j" ⟨408, 17, 408, 18⟩) ⟨408, 12, 408, 19⟩) (.var 8 "i" ⟨408, 20, 408, 21⟩) (.var 10 "worth" ⟨408, 25, 408, 30⟩) ⟨408, 12, 408, 22⟩ ⟨408, 12, 408, 30⟩)
    (.cons (.asg (.one 7 "k" ⟨409, 12, 409, 13⟩) (.bin false .add (.var 7 "k" ⟨409, 16, 409, 17⟩) (.int (1) 0 ⟨409, 20, 409, 21⟩) ⟨409, 16, 409, 21⟩) ⟨409, 12, 409, 21⟩)
    .nil))))))
def b9_2 : ISs :=
    (.cons (.for_ (.one 9 "j" ⟨401, 12, 401, 13⟩) (.rng2 (.var 8 "i" ⟨401, 23, 401, 24⟩) (.var 2 "size" ⟨401, 26, 401, 30⟩) ⟨401, 17, 401, 22⟩ ⟨401, 17, 401, 31⟩) b9_1 ⟨401, 8, 409, 21⟩)
    .nil)
def e9_3 : IE :=
    .lc true (.bin true .mul (.lst false (.cons (.int (0) 0 ⟨398, 13, 398, 14⟩) .nil) ⟨398, 12, 398, 15⟩) (.var 2 "size" ⟨398, 18, 398, 22⟩) ⟨398, 12, 398, 22⟩) (.one 11 "line" ⟨398, 27, 398, 31⟩) (.rng1 (.var 2 "size" ⟨398, 41, 398, 45⟩) ⟨398, 35, 398, 40⟩ ⟨398, 35, 398, 46⟩) .nil [("line", 11)] { kind := .function, names := [(".0", .«local»), ("line", .«local»), ("size", .free)], isGenerator := false, isCoroutine := false, more := [] } ⟨398, 11, 398, 47⟩
/-- _law_rows -/
def ir9 : ISs :=
    (.cons (.asg (.one 3 "kind" ⟨395, 4, 395, 8⟩) (.bin false .mod (.bi false .int (.call 2 "_law_cell" (.var 0 "script" ⟨395, 25, 395, 31⟩) (.cons (.var 1 "at" ⟨395, 33, 395, 35⟩) .nil) ⟨395, 15, 395, 24⟩ ⟨395, 15, 395, 36⟩) .nil ⟨395, 11, 395, 14⟩ ⟨395, 11, 395, 37⟩) (.int (5) 0 ⟨395, 40, 395, 41⟩) ⟨395, 11, 395, 41⟩) ⟨395, 4, 395, 41⟩)
    (.cons (.asg (.one 4 "wide" ⟨396, 4, 396, 8⟩) (.ix (.lst false (.cons (.int (10) 0 ⟨396, 12, 396, 14⟩) (.cons (.int (2) 0 ⟨396, 16, 396, 17⟩) (.cons (.int (4) 0 ⟨396, 19, 396, 20⟩) (.cons (.int (3) 0 ⟨396, 22, 396, 23⟩) (.cons (.bin false .pow (.int (10) 0 ⟨396, 25, 396, 27⟩) (.int (6) 0 ⟨396, 31, 396, 32⟩) ⟨396, 25, 396, 32⟩) .nil))))) ⟨396, 11, 396, 33⟩) (.var 3 "kind" ⟨396, 34, 396, 38⟩) ⟨396, 11, 396, 39⟩) ⟨396, 4, 396, 39⟩)
    (.cons (.asg (.one 5 "row" ⟨397, 4, 397, 7⟩) (.call 21 "_law_row" (.var 0 "script" ⟨397, 19, 397, 25⟩) (.cons (.bin false .add (.var 1 "at" ⟨397, 27, 397, 29⟩) (.int (1) 0 ⟨397, 32, 397, 33⟩) ⟨397, 27, 397, 33⟩) (.cons (.var 4 "wide" ⟨397, 35, 397, 39⟩) (.cons (.bin false .fdiv (.bin false .mul (.var 2 "size" ⟨397, 41, 397, 45⟩) (.bin false .add (.var 2 "size" ⟨397, 49, 397, 53⟩) (.int (1) 0 ⟨397, 56, 397, 57⟩) ⟨397, 49, 397, 57⟩) ⟨397, 41, 397, 58⟩) (.int (2) 0 ⟨397, 62, 397, 63⟩) ⟨397, 41, 397, 63⟩) .nil))) ⟨397, 10, 397, 18⟩ ⟨397, 10, 397, 64⟩) ⟨397, 4, 397, 64⟩)
    (.cons (.asg (.one 6 "rows" ⟨398, 4, 398, 8⟩) e9_3 ⟨398, 4, 398, 47⟩)
    (.cons (.asg (.one 7 "k" ⟨399, 4, 399, 5⟩) (.int (0) 0 ⟨399, 8, 399, 9⟩) ⟨399, 4, 399, 9⟩)
    (.cons (.for_ (.one 8 "i" ⟨400, 8, 400, 9⟩) (.rng1 (.var 2 "size" ⟨400, 19, 400, 23⟩) ⟨400, 13, 400, 18⟩ ⟨400, 13, 400, 24⟩) b9_2 ⟨400, 4, 409, 21⟩)
    (.cons (.for_ (.one 8 "i" ⟨410, 8, 410, 9⟩) (.rng1 (.var 2 "size" ⟨410, 19, 410, 23⟩) ⟨410, 13, 410, 18⟩ ⟨410, 13, 410, 24⟩) b9_0 ⟨410, 4, 416, 26⟩)
    (.cons (.ret (.var 6 "rows" ⟨417, 11, 417, 15⟩) ⟨417, 4, 417, 15⟩)
    .nil))))))))
def f9 : Fn := ⟨"_law_rows", 3, ["script", "at", "size", "kind", "wide", "row", "rows", "k", "i", "j", "worth", "line"], defScope (topS 58), ir9, false⟩
theorem irOk9 : ir9.ss = defBody (topS 58) := by rfl
/-- _law_is_frac -/
def ir10 : ISs :=
    (.cons (.ite (.or (.not (.isC (.var 0 "told" ⟨443, 22, 443, 26⟩) "Frac" ⟨443, 28, 443, 32⟩ ⟨443, 11, 443, 21⟩ ⟨443, 11, 443, 33⟩) ⟨443, 7, 443, 33⟩) (.cons (.not (.call 17 "_law_whole" (.attr (.var 0 "told" ⟨443, 52, 443, 56⟩) "Frac" "top" ⟨443, 52, 443, 60⟩) .nil ⟨443, 41, 443, 51⟩ ⟨443, 41, 443, 61⟩) ⟨443, 37, 443, 61⟩) (.cons (.not (.call 17 "_law_whole" (.attr (.var 0 "told" ⟨443, 81, 443, 85⟩) "Frac" "bottom" ⟨443, 81, 443, 92⟩) .nil ⟨443, 70, 443, 80⟩ ⟨443, 70, 443, 93⟩) ⟨443, 66, 443, 93⟩) .nil)) ⟨443, 7, 443, 94⟩) (.cons (.ret (.bl false 0 ⟨444, 15, 444, 20⟩) ⟨444, 8, 444, 20⟩)
    .nil) .nil ⟨443, 4, 444, 20⟩)
    (.cons (.ret (.cmp .eq (.tup (.cons (.attr (.var 0 "told" ⟨445, 12, 445, 16⟩) "Frac" "top" ⟨445, 12, 445, 20⟩) (.cons (.attr (.var 0 "told" ⟨445, 22, 445, 26⟩) "Frac" "bottom" ⟨445, 22, 445, 33⟩) .nil)) 0 ⟨445, 11, 445, 34⟩) (.call 22 "_law_low" (.var 1 "top" ⟨445, 47, 445, 50⟩) (.cons (.var 2 "bottom" ⟨445, 52, 445, 58⟩) .nil) ⟨445, 38, 445, 46⟩ ⟨445, 38, 445, 59⟩) ⟨445, 11, 445, 59⟩) ⟨445, 4, 445, 59⟩)
    .nil))
def f10 : Fn := ⟨"_law_is_frac", 3, ["told", "top", "bottom"], defScope (topS 64), ir10, false⟩
theorem irOk10 : ir10.ss = defBody (topS 64) := by rfl
def b11_0 : ISs :=
    (.cons (.asg (.many [(4, "numbers", ⟨360, 8, 360, 15⟩), (5, "scale", ⟨360, 17, 360, 22⟩)] 0 ⟨360, 8, 360, 22⟩) (.call 25 "walked" (.var 0 "web" ⟨360, 32, 360, 35⟩) (.cons (.var 3 "start" ⟨360, 37, 360, 42⟩) (.cons (.var 1 "steps" ⟨360, 44, 360, 49⟩) .nil)) ⟨360, 25, 360, 31⟩ ⟨360, 25, 360, 50⟩) ⟨360, 8, 360, 50⟩)
    (.cons (.asg (.one 2 "total" ⟨361, 8, 361, 13⟩) (.opm 23 "Frac" .add (.var 2 "total" ⟨361, 16, 361, 21⟩) (.make false 24 "Frac" (.ix (.var 4 "numbers" ⟨361, 29, 361, 36⟩) (.var 3 "start" ⟨361, 37, 361, 42⟩) ⟨361, 29, 361, 43⟩) (.cons (.var 5 "scale" ⟨361, 45, 361, 50⟩) .nil) ⟨361, 24, 361, 28⟩ ⟨361, 24, 361, 51⟩) ⟨361, 16, 361, 51⟩) ⟨361, 8, 361, 51⟩)
    .nil))
/-- trace -/
def ir11 : ISs :=
    (.cons (.expr (.call 26 "need_steps" (.var 1 "steps" ⟨357, 15, 357, 20⟩) .nil ⟨357, 4, 357, 14⟩ ⟨357, 4, 357, 21⟩) ⟨357, 4, 357, 21⟩)
    (.cons (.asg (.one 2 "total" ⟨358, 4, 358, 9⟩) (.makeD false 24 "Frac" (.int (0) 0 ⟨358, 17, 358, 18⟩) .nil [1] ⟨358, 12, 358, 16⟩ ⟨358, 12, 358, 19⟩) ⟨358, 4, 358, 19⟩)
    (.cons (.for_ (.one 3 "start" ⟨359, 8, 359, 13⟩) (.rng1 (.attr (.var 0 "web" ⟨359, 23, 359, 26⟩) "Web" "size" ⟨359, 23, 359, 31⟩) ⟨359, 17, 359, 22⟩ ⟨359, 17, 359, 32⟩) b11_0 ⟨359, 4, 361, 51⟩)
    (.cons (.ret (.var 2 "total" ⟨362, 11, 362, 16⟩) ⟨362, 4, 362, 16⟩)
    .nil))))
def f11 : Fn := ⟨"trace", 2, ["web", "steps", "total", "start", "numbers", "scale"], defScope (topS 49), ir11, false⟩
theorem irOk11 : ir11.ss = defBody (topS 49) := by rfl
def b12_0 : ISs :=
    (.cons (.setIx (.ix (.var 1 "rows" ⟨377, 8, 377, 12⟩) (.var 2 "place" ⟨377, 13, 377, 18⟩) ⟨377, 8, 377, 19⟩) (.var 2 "place" ⟨377, 20, 377, 25⟩) (.bin false .add (.ix (.ix (.var 1 "rows" ⟨377, 29, 377, 33⟩) (.var 2 "place" ⟨377, 34, 377, 39⟩) ⟨377, 29, 377, 40⟩) (.var 2 "place" ⟨377, 41, 377, 46⟩) ⟨377, 29, 377, 47⟩) (.ix (.attr (.var 0 "web" ⟨377, 50, 377, 53⟩) "Web" "degrees" ⟨377, 50, 377, 61⟩) (.var 2 "place" ⟨377, 62, 377, 67⟩) ⟨377, 50, 377, 68⟩) ⟨377, 29, 377, 68⟩) ⟨377, 8, 377, 26⟩ ⟨377, 8, 377, 68⟩)
    .nil)
def e12_1 : IE :=
    .lc true (.bi true .list (.var 3 "row" ⟨375, 17, 375, 20⟩) .nil ⟨375, 12, 375, 16⟩ ⟨375, 12, 375, 21⟩) (.one 3 "row" ⟨375, 26, 375, 29⟩) (.of (.attr (.var 0 "web" ⟨375, 33, 375, 36⟩) "Web" "rows" ⟨375, 33, 375, 41⟩)) .nil [("row", 3)] { kind := .function, names := [(".0", .«local»), ("row", .«local»), ("list", .globalImplicit)], isGenerator := false, isCoroutine := false, more := [] } ⟨375, 11, 375, 42⟩
/-- half -/
def ir12 : ISs :=
    (.cons (.asg (.one 1 "rows" ⟨375, 4, 375, 8⟩) e12_1 ⟨375, 4, 375, 42⟩)
    (.cons (.for_ (.one 2 "place" ⟨376, 8, 376, 13⟩) (.rng1 (.attr (.var 0 "web" ⟨376, 23, 376, 26⟩) "Web" "size" ⟨376, 23, 376, 31⟩) ⟨376, 17, 376, 22⟩ ⟨376, 17, 376, 32⟩) b12_0 ⟨376, 4, 377, 68⟩)
    (.cons (.ret (.call 27 "made_web" (.var 1 "rows" ⟨378, 20, 378, 24⟩) .nil ⟨378, 11, 378, 19⟩ ⟨378, 11, 378, 25⟩) ⟨378, 4, 378, 25⟩)
    .nil)))
def f12 : Fn := ⟨"half", 1, ["web", "rows", "place", "row"], defScope (topS 54), ir12, false⟩
theorem irOk12 : ir12.ss = defBody (topS 54) := by rfl
def b13_0 : ISs :=
    (.cons (.asg (.one 5 "ahead" ⟨495, 8, 495, 13⟩) (.call 15 "_law_raised" (.ix (.var 0 "left" ⟨495, 28, 495, 32⟩) (.int (1) 0 ⟨495, 33, 495, 34⟩) ⟨495, 28, 495, 35⟩) (.cons (.bin false .sub (.var 1 "steps" ⟨495, 37, 495, 42⟩) (.var 4 "m" ⟨495, 45, 495, 46⟩) ⟨495, 37, 495, 46⟩) .nil) ⟨495, 16, 495, 27⟩ ⟨495, 16, 495, 47⟩) ⟨495, 8, 495, 47⟩)
    (.cons (.asg (.one 3 "top" ⟨496, 8, 496, 11⟩) (.bin false .add (.var 3 "top" ⟨496, 14, 496, 17⟩) (.bin false .mul (.bin false .mul (.ix (.var 2 "row" ⟨496, 20, 496, 23⟩) (.var 4 "m" ⟨496, 24, 496, 25⟩) ⟨496, 20, 496, 26⟩) (.ix (.ix (.var 0 "left" ⟨496, 29, 496, 33⟩) (.int (0) 0 ⟨496, 34, 496, 35⟩) ⟨496, 29, 496, 36⟩) (.var 4 "m" ⟨496, 37, 496, 38⟩) ⟨496, 29, 496, 39⟩) ⟨496, 20, 496, 39⟩) (.var 5 "ahead" ⟨496, 42, 496, 47⟩) ⟨496, 20, 496, 47⟩) ⟨496, 14, 496, 47⟩) ⟨496, 8, 496, 47⟩)
    .nil))
/-- _law_half_due -/
def ir13 : ISs :=
    (.cons (.asg (.one 2 "row" ⟨492, 4, 492, 7⟩) (.call 28 "_law_choices" (.var 1 "steps" ⟨492, 23, 492, 28⟩) .nil ⟨492, 10, 492, 22⟩ ⟨492, 10, 492, 29⟩) ⟨492, 4, 492, 29⟩)
    (.cons (.asg (.one 3 "top" ⟨493, 4, 493, 7⟩) (.int (0) 0 ⟨493, 10, 493, 11⟩) ⟨493, 4, 493, 11⟩)
    (.cons (.for_ (.one 4 "m" ⟨494, 8, 494, 9⟩) (.rng1 (.bin false .add (.var 1 "steps" ⟨494, 19, 494, 24⟩) (.int (1) 0 ⟨494, 27, 494, 28⟩) ⟨494, 19, 494, 28⟩) ⟨494, 13, 494, 18⟩ ⟨494, 13, 494, 29⟩) b13_0 ⟨494, 4, 496, 47⟩)
    (.cons (.ret (.tup (.cons (.var 3 "top" ⟨497, 12, 497, 15⟩) (.cons (.call 15 "_law_raised" (.bin false .mul (.int (2) 0 ⟨497, 29, 497, 30⟩) (.ix (.var 0 "left" ⟨497, 33, 497, 37⟩) (.int (1) 0 ⟨497, 38, 497, 39⟩) ⟨497, 33, 497, 40⟩) ⟨497, 29, 497, 40⟩) (.cons (.var 1 "steps" ⟨497, 42, 497, 47⟩) .nil) ⟨497, 17, 497, 28⟩ ⟨497, 17, 497, 48⟩) .nil)) 0 ⟨497, 11, 497, 49⟩) ⟨497, 4, 497, 49⟩)
    .nil))))
def f13 : Fn := ⟨"_law_half_due", 2, ["left", "steps", "row", "top", "m", "ahead"], defScope (topS 71), ir13, false⟩
theorem irOk13 : ir13.ss = defBody (topS 71) := by rfl
def b14_0 : ISs :=
    (.cons (.asg (.one 7 "ahead" ⟨485, 8, 485, 13⟩) (.bin false .mul (.call 15 "_law_raised" (.ix (.var 2 "pair" ⟨485, 28, 485, 32⟩) (.int (0) 0 ⟨485, 33, 485, 34⟩) ⟨485, 28, 485, 35⟩) (.cons (.var 6 "m" ⟨485, 37, 485, 38⟩) .nil) ⟨485, 16, 485, 27⟩ ⟨485, 16, 485, 39⟩) (.call 15 "_law_raised" (.ix (.var 0 "left" ⟨485, 54, 485, 58⟩) (.int (1) 0 ⟨485, 59, 485, 60⟩) ⟨485, 54, 485, 61⟩) (.cons (.bin false .sub (.var 3 "steps" ⟨485, 63, 485, 68⟩) (.var 6 "m" ⟨485, 71, 485, 72⟩) ⟨485, 63, 485, 72⟩) .nil) ⟨485, 42, 485, 53⟩ ⟨485, 42, 485, 73⟩) ⟨485, 16, 485, 73⟩) ⟨485, 8, 485, 73⟩)
    (.cons (.asg (.one 8 "away" ⟨486, 8, 486, 12⟩) (.bin false .mul (.call 15 "_law_raised" (.ix (.var 2 "pair" ⟨486, 27, 486, 31⟩) (.int (1) 0 ⟨486, 32, 486, 33⟩) ⟨486, 27, 486, 34⟩) (.cons (.bin false .sub (.var 3 "steps" ⟨486, 36, 486, 41⟩) (.var 6 "m" ⟨486, 44, 486, 45⟩) ⟨486, 36, 486, 45⟩) .nil) ⟨486, 15, 486, 26⟩ ⟨486, 15, 486, 46⟩) (.call 15 "_law_raised" (.ix (.var 1 "right" ⟨486, 61, 486, 66⟩) (.int (1) 0 ⟨486, 67, 486, 68⟩) ⟨486, 61, 486, 69⟩) (.cons (.var 6 "m" ⟨486, 71, 486, 72⟩) .nil) ⟨486, 49, 486, 60⟩ ⟨486, 49, 486, 73⟩) ⟨486, 15, 486, 73⟩) ⟨486, 8, 486, 73⟩)
    (.cons (.asg (.one 9 "worth" ⟨487, 8, 487, 13⟩) (.bin false .mul (.ix (.ix (.var 0 "left" ⟨487, 16, 487, 20⟩) (.int (0) 0 ⟨487, 21, 487, 22⟩) ⟨487, 16, 487, 23⟩) (.var 6 "m" ⟨487, 24, 487, 25⟩) ⟨487, 16, 487, 26⟩) (.ix (.ix (.var 1 "right" ⟨487, 29, 487, 34⟩) (.int (0) 0 ⟨487, 35, 487, 36⟩) ⟨487, 29, 487, 37⟩) (.bin false .sub (.var 3 "steps" ⟨487, 38, 487, 43⟩) (.var 6 "m" ⟨487, 46, 487, 47⟩) ⟨487, 38, 487, 47⟩) ⟨487, 29, 487, 48⟩) ⟨487, 16, 487, 48⟩) ⟨487, 8, 487, 48⟩)
    (.cons (.asg (.one 5 "top" ⟨488, 8, 488, 11⟩) (.bin false .add (.var 5 "top" ⟨488, 14, 488, 17⟩) (.bin false .mul (.bin false .mul (.bin false .mul (.ix (.var 4 "row" ⟨488, 20, 488, 23⟩) (.var 6 "m" ⟨488, 24, 488, 25⟩) ⟨488, 20, 488, 26⟩) (.var 7 "ahead" ⟨488, 29, 488, 34⟩) ⟨488, 20, 488, 34⟩) (.var 8 "away" ⟨488, 37, 488, 41⟩) ⟨488, 20, 488, 41⟩) (.var 9 "worth" ⟨488, 44, 488, 49⟩) ⟨488, 20, 488, 49⟩) ⟨488, 14, 488, 49⟩) ⟨488, 8, 488, 49⟩)
    .nil))))
/-- _law_sum_due -/
def ir14 : ISs :=
    (.cons (.asg (.one 4 "row" ⟨482, 4, 482, 7⟩) (.call 28 "_law_choices" (.var 3 "steps" ⟨482, 23, 482, 28⟩) .nil ⟨482, 10, 482, 22⟩ ⟨482, 10, 482, 29⟩) ⟨482, 4, 482, 29⟩)
    (.cons (.asg (.one 5 "top" ⟨483, 4, 483, 7⟩) (.int (0) 0 ⟨483, 10, 483, 11⟩) ⟨483, 4, 483, 11⟩)
    (.cons (.for_ (.one 6 "m" ⟨484, 8, 484, 9⟩) (.rng1 (.bin false .add (.var 3 "steps" ⟨484, 19, 484, 24⟩) (.int (1) 0 ⟨484, 27, 484, 28⟩) ⟨484, 19, 484, 28⟩) ⟨484, 13, 484, 18⟩ ⟨484, 13, 484, 29⟩) b14_0 ⟨484, 4, 488, 49⟩)
    (.cons (.asg (.one 10 "both" ⟨489, 4, 489, 8⟩) (.bin false .mul (.bin false .mul (.bin false .add (.ix (.var 2 "pair" ⟨489, 12, 489, 16⟩) (.int (0) 0 ⟨489, 17, 489, 18⟩) ⟨489, 12, 489, 19⟩) (.ix (.var 2 "pair" ⟨489, 22, 489, 26⟩) (.int (1) 0 ⟨489, 27, 489, 28⟩) ⟨489, 22, 489, 29⟩) ⟨489, 12, 489, 29⟩) (.ix (.var 0 "left" ⟨489, 33, 489, 37⟩) (.int (1) 0 ⟨489, 38, 489, 39⟩) ⟨489, 33, 489, 40⟩) ⟨489, 11, 489, 40⟩) (.ix (.var 1 "right" ⟨489, 43, 489, 48⟩) (.int (1) 0 ⟨489, 49, 489, 50⟩) ⟨489, 43, 489, 51⟩) ⟨489, 11, 489, 51⟩) ⟨489, 4, 489, 51⟩)
    (.cons (.ret (.tup (.cons (.var 5 "top" ⟨490, 12, 490, 15⟩) (.cons (.call 15 "_law_raised" (.var 10 "both" ⟨490, 29, 490, 33⟩) (.cons (.var 3 "steps" ⟨490, 35, 490, 40⟩) .nil) ⟨490, 17, 490, 28⟩ ⟨490, 17, 490, 41⟩) .nil)) 0 ⟨490, 11, 490, 42⟩) ⟨490, 4, 490, 42⟩)
    .nil)))))
def f14 : Fn := ⟨"_law_sum_due", 4, ["left", "right", "pair", "steps", "row", "top", "m", "ahead", "away", "worth", "both"], defScope (topS 70), ir14, false⟩
theorem irOk14 : ir14.ss = defBody (topS 70) := by rfl
def b15_0 : ISs :=
    (.cons (.asg (.one 2 "made" ⟨474, 8, 474, 12⟩) (.bin false .mul (.var 2 "made" ⟨474, 15, 474, 19⟩) (.var 0 "worth" ⟨474, 22, 474, 27⟩) ⟨474, 15, 474, 27⟩) ⟨474, 8, 474, 27⟩)
    .nil)
/-- _law_raised -/
def ir15 : ISs :=
    (.cons (.asg (.one 2 "made" ⟨472, 4, 472, 8⟩) (.int (1) 0 ⟨472, 11, 472, 12⟩) ⟨472, 4, 472, 12⟩)
    (.cons (.for_ (.one 3 "step" ⟨473, 8, 473, 12⟩) (.rng1 (.var 1 "steps" ⟨473, 22, 473, 27⟩) ⟨473, 16, 473, 21⟩ ⟨473, 16, 473, 28⟩) b15_0 ⟨473, 4, 474, 27⟩)
    (.cons (.ret (.var 2 "made" ⟨475, 11, 475, 15⟩) ⟨475, 4, 475, 15⟩)
    .nil)))
def f15 : Fn := ⟨"_law_raised", 2, ["worth", "steps", "made", "step"], defScope (topS 68), ir15, false⟩
theorem irOk15 : ir15.ss = defBody (topS 68) := by rfl
def e16_0 : IE :=
    .lc false (.ix (.ix (.var 5 "table" ⟨468, 25, 468, 30⟩) (.var 8 "k" ⟨468, 31, 468, 32⟩) ⟨468, 25, 468, 33⟩) (.var 8 "k" ⟨468, 34, 468, 35⟩) ⟨468, 25, 468, 36⟩) (.one 8 "k" ⟨468, 41, 468, 42⟩) (.rng1 (.bi false .len (.var 0 "rows" ⟨468, 56, 468, 60⟩) .nil ⟨468, 52, 468, 55⟩ ⟨468, 52, 468, 61⟩) ⟨468, 46, 468, 51⟩ ⟨468, 46, 468, 62⟩) .nil [("k", 8)] { kind := .function, names := [(".0", .«local»), ("k", .«local»), ("table", .free)], isGenerator := false, isCoroutine := false, more := [] } ⟨468, 24, 468, 63⟩
def b16_1 : ISs :=
    (.cons (.expr (.lmeth (.var 6 "tops" ⟨468, 8, 468, 12⟩) .append (.cons (.bi false .sum e16_0 .nil ⟨468, 20, 468, 23⟩ ⟨468, 20, 468, 64⟩) .nil) ⟨468, 8, 468, 19⟩ ⟨468, 8, 468, 65⟩) ⟨468, 8, 468, 65⟩)
    (.cons (.asg (.one 5 "table" ⟨469, 8, 469, 13⟩) (.call 29 "_law_stepped" (.var 5 "table" ⟨469, 29, 469, 34⟩) (.cons (.var 0 "rows" ⟨469, 36, 469, 40⟩) (.cons (.var 4 "parts" ⟨469, 42, 469, 47⟩) .nil)) ⟨469, 16, 469, 28⟩ ⟨469, 16, 469, 48⟩) ⟨469, 8, 469, 48⟩)
    .nil))
def e16_2 : IE :=
    .lc false (.bi false .int (.cmp .eq (.var 9 "i" ⟨465, 18, 465, 19⟩) (.var 10 "j" ⟨465, 23, 465, 24⟩) ⟨465, 18, 465, 24⟩) .nil ⟨465, 14, 465, 17⟩ ⟨465, 14, 465, 25⟩) (.one 10 "j" ⟨465, 30, 465, 31⟩) (.rng1 (.bi false .len (.var 0 "rows" ⟨465, 45, 465, 49⟩) .nil ⟨465, 41, 465, 44⟩ ⟨465, 41, 465, 50⟩) ⟨465, 35, 465, 40⟩ ⟨465, 35, 465, 51⟩) .nil [("j", 10)] { kind := .function, names := [(".0", .«local»), ("j", .«local»), ("int", .globalImplicit), ("i", .free)], isGenerator := false, isCoroutine := false, more := [] } ⟨465, 13, 465, 52⟩
def e16_3 : IE :=
    .lc false e16_2 (.one 9 "i" ⟨465, 57, 465, 58⟩) (.rng1 (.bi false .len (.var 0 "rows" ⟨465, 72, 465, 76⟩) .nil ⟨465, 68, 465, 71⟩ ⟨465, 68, 465, 77⟩) ⟨465, 62, 465, 67⟩ ⟨465, 62, 465, 78⟩) .nil [("i", 9)] { kind := .function, names := [(".0", .«local»), ("i", .cell), ("range", .globalImplicit), ("len", .globalImplicit), ("rows", .free)], isGenerator := false, isCoroutine := false, more := [] } ⟨465, 12, 465, 79⟩
def e16_4 : IE :=
    .lc false (.bin false .fdiv (.var 3 "shared" ⟨464, 13, 464, 19⟩) (.var 11 "x" ⟨464, 23, 464, 24⟩) ⟨464, 13, 464, 24⟩) (.one 11 "x" ⟨464, 29, 464, 30⟩) (.of (.var 2 "sums" ⟨464, 34, 464, 38⟩)) .nil [("x", 11)] { kind := .function, names := [(".0", .«local»), ("x", .«local»), ("shared", .free)], isGenerator := false, isCoroutine := false, more := [] } ⟨464, 12, 464, 39⟩
def e16_5 : IE :=
    .lc false (.bi false .sum (.var 12 "row" ⟨462, 16, 462, 19⟩) .nil ⟨462, 12, 462, 15⟩ ⟨462, 12, 462, 20⟩) (.one 12 "row" ⟨462, 25, 462, 28⟩) (.of (.var 0 "rows" ⟨462, 32, 462, 36⟩)) .nil [("row", 12)] { kind := .function, names := [(".0", .«local»), ("row", .«local»), ("sum", .globalImplicit)], isGenerator := false, isCoroutine := false, more := [] } ⟨462, 11, 462, 37⟩
/-- _law_traces -/
def ir16 : ISs :=
    (.cons (.asg (.one 2 "sums" ⟨462, 4, 462, 8⟩) e16_5 ⟨462, 4, 462, 37⟩)
    (.cons (.asg (.one 3 "shared" ⟨463, 4, 463, 10⟩) (.call 30 "_law_shared" (.var 2 "sums" ⟨463, 25, 463, 29⟩) .nil ⟨463, 13, 463, 24⟩ ⟨463, 13, 463, 30⟩) ⟨463, 4, 463, 30⟩)
    (.cons (.asg (.one 4 "parts" ⟨464, 4, 464, 9⟩) e16_4 ⟨464, 4, 464, 39⟩)
    (.cons (.asg (.one 5 "table" ⟨465, 4, 465, 9⟩) e16_3 ⟨465, 4, 465, 79⟩)
    (.cons (.asg (.one 6 "tops" ⟨466, 4, 466, 8⟩) (.lst true .nil ⟨466, 11, 466, 13⟩) ⟨466, 4, 466, 13⟩)
    (.cons (.for_ (.one 7 "step" ⟨467, 8, 467, 12⟩) (.rng1 (.bin false .add (.var 1 "steps" ⟨467, 22, 467, 27⟩) (.int (1) 0 ⟨467, 30, 467, 31⟩) ⟨467, 22, 467, 31⟩) ⟨467, 16, 467, 21⟩ ⟨467, 16, 467, 32⟩) b16_1 ⟨467, 4, 469, 48⟩)
    (.cons (.ret (.tup (.cons (.var 6 "tops" ⟨470, 12, 470, 16⟩) (.cons (.var 3 "shared" ⟨470, 18, 470, 24⟩) .nil)) 0 ⟨470, 11, 470, 25⟩) ⟨470, 4, 470, 25⟩)
    .nil)))))))
def f16 : Fn := ⟨"_law_traces", 2, ["rows", "steps", "sums", "shared", "parts", "table", "tops", "step", "k", "i", "j", "x", "row"], defScope (topS 67), ir16, false⟩
theorem irOk16 : ir16.ss = defBody (topS 67) := by rfl
/-- _law_whole -/
def ir17 : ISs :=
    (.cons (.ret (.and (.isT (.var 0 "told" ⟨425, 22, 425, 26⟩) .int ⟨425, 28, 425, 31⟩ ⟨425, 11, 425, 21⟩ ⟨425, 11, 425, 32⟩) (.cons (.not (.isT (.var 0 "told" ⟨425, 53, 425, 57⟩) .bool ⟨425, 59, 425, 63⟩ ⟨425, 42, 425, 52⟩ ⟨425, 42, 425, 64⟩) ⟨425, 38, 425, 64⟩) .nil) ⟨425, 11, 425, 65⟩) ⟨425, 4, 425, 65⟩)
    .nil)
def f17 : Fn := ⟨"_law_whole", 1, ["told"], defScope (topS 60), ir17, false⟩
theorem irOk17 : ir17.ss = defBody (topS 60) := by rfl
def e18_0 : IE :=
    .lc2 false (.bin false .add (.ifx (.cmp .eq (.var 12 "m" ⟨311, 37, 311, 38⟩) (.var 7 "j" ⟨311, 42, 311, 43⟩) ⟨311, 37, 311, 43⟩) (.ix (.var 9 "left" ⟨311, 26, 311, 30⟩) (.var 11 "k" ⟨311, 31, 311, 32⟩) ⟨311, 26, 311, 33⟩) (.int (0) 0 ⟨311, 49, 311, 50⟩) ⟨311, 26, 311, 50⟩) (.ifx (.cmp .eq (.var 11 "k" ⟨311, 67, 311, 68⟩) (.var 5 "i" ⟨311, 72, 311, 73⟩) ⟨311, 67, 311, 73⟩) (.ix (.var 10 "right" ⟨311, 55, 311, 60⟩) (.var 12 "m" ⟨311, 61, 311, 62⟩) ⟨311, 55, 311, 63⟩) (.int (0) 0 ⟨311, 79, 311, 80⟩) ⟨311, 55, 311, 80⟩) ⟨311, 25, 311, 81⟩) (.one 11 "k" ⟨311, 86, 311, 87⟩) (.rng1 (.attr (.var 0 "first" ⟨311, 97, 311, 102⟩) "Web" "size" ⟨311, 97, 311, 107⟩) ⟨311, 91, 311, 96⟩ ⟨311, 91, 311, 108⟩) .nil (.one 12 "m" ⟨311, 113, 311, 114⟩) (.rng1 (.attr (.var 1 "second" ⟨311, 124, 311, 130⟩) "Web" "size" ⟨311, 124, 311, 135⟩) ⟨311, 118, 311, 123⟩ ⟨311, 118, 311, 136⟩) .nil [("k", 11), ("m", 12)] [12] { kind := .function, names := [(".0", .«local»), ("k", .«local»), ("m", .«local»), ("range", .globalImplicit), ("i", .free), ("j", .free), ("left", .free), ("right", .free), ("second", .free)], isGenerator := false, isCoroutine := false, more := [] } ⟨311, 24, 311, 137⟩
def e18_1 : IE :=
    .lc false (.bin false .mul (.bin false .mul (.var 3 "y" ⟨310, 21, 310, 22⟩) (.ix (.attr (.var 0 "first" ⟨310, 25, 310, 30⟩) "Web" "degrees" ⟨310, 25, 310, 38⟩) (.var 5 "i" ⟨310, 39, 310, 40⟩) ⟨310, 25, 310, 41⟩) ⟨310, 21, 310, 41⟩) (.var 13 "weight" ⟨310, 44, 310, 50⟩) ⟨310, 21, 310, 50⟩) (.one 13 "weight" ⟨310, 55, 310, 61⟩) (.of (.var 8 "line" ⟨310, 65, 310, 69⟩)) .nil [("weight", 13)] { kind := .function, names := [(".0", .«local»), ("weight", .«local»), ("first", .free), ("i", .free), ("y", .free)], isGenerator := false, isCoroutine := false, more := [] } ⟨310, 20, 310, 70⟩
def e18_2 : IE :=
    .lc false (.bin false .mul (.bin false .mul (.var 2 "x" ⟨309, 20, 309, 21⟩) (.var 13 "weight" ⟨309, 24, 309, 30⟩) ⟨309, 20, 309, 30⟩) (.ix (.attr (.var 1 "second" ⟨309, 33, 309, 39⟩) "Web" "degrees" ⟨309, 33, 309, 47⟩) (.var 7 "j" ⟨309, 48, 309, 49⟩) ⟨309, 33, 309, 50⟩) ⟨309, 20, 309, 50⟩) (.one 13 "weight" ⟨309, 55, 309, 61⟩) (.of (.var 6 "row" ⟨309, 65, 309, 68⟩)) .nil [("weight", 13)] { kind := .function, names := [(".0", .«local»), ("weight", .«local»), ("j", .free), ("second", .free), ("x", .free)], isGenerator := false, isCoroutine := false, more := [] } ⟨309, 19, 309, 69⟩
def b18_3 : ISs :=
    (.cons (.asg (.one 9 "left" ⟨309, 12, 309, 16⟩) e18_2 ⟨309, 12, 309, 69⟩)
    (.cons (.asg (.one 10 "right" ⟨310, 12, 310, 17⟩) e18_1 ⟨310, 12, 310, 70⟩)
    (.cons (.expr (.lmeth (.var 4 "rows" ⟨311, 12, 311, 16⟩) .append (.cons e18_0 .nil) ⟨311, 12, 311, 23⟩ ⟨311, 12, 311, 138⟩) ⟨311, 12, 311, 138⟩)
    .nil)))
def b18_4 : ISs :=
    (.cons (.for_ (.many [(7, "j", ⟨308, 12, 308, 13⟩), (8, "line", ⟨308, 15, 308, 19⟩)] 0 ⟨308, 12, 308, 19⟩) (.enum (.attr (.var 1 "second" ⟨308, 33, 308, 39⟩) "Web" "rows" ⟨308, 33, 308, 44⟩) ⟨308, 23, 308, 32⟩ ⟨308, 23, 308, 45⟩) b18_3 ⟨308, 8, 311, 138⟩)
    .nil)
/-- mixed_web -/
def ir18 : ISs :=
    (.cons (.expr (.call 31 "_need_room" (.bin false .mul (.attr (.var 0 "first" ⟨305, 15, 305, 20⟩) "Web" "size" ⟨305, 15, 305, 25⟩) (.attr (.var 1 "second" ⟨305, 28, 305, 34⟩) "Web" "size" ⟨305, 28, 305, 39⟩) ⟨305, 15, 305, 39⟩) .nil ⟨305, 4, 305, 14⟩ ⟨305, 4, 305, 40⟩) ⟨305, 4, 305, 40⟩)
    (.cons (.asg (.one 4 "rows" ⟨306, 4, 306, 8⟩) (.lst true .nil ⟨306, 11, 306, 13⟩) ⟨306, 4, 306, 13⟩)
    (.cons (.for_ (.many [(5, "i", ⟨307, 8, 307, 9⟩), (6, "row", ⟨307, 11, 307, 14⟩)] 0 ⟨307, 8, 307, 14⟩) (.enum (.attr (.var 0 "first" ⟨307, 28, 307, 33⟩) "Web" "rows" ⟨307, 28, 307, 38⟩) ⟨307, 18, 307, 27⟩ ⟨307, 18, 307, 39⟩) b18_4 ⟨307, 4, 311, 138⟩)
    (.cons (.ret (.call 27 "made_web" (.var 4 "rows" ⟨312, 20, 312, 24⟩) .nil ⟨312, 11, 312, 19⟩ ⟨312, 11, 312, 25⟩) ⟨312, 4, 312, 25⟩)
    .nil))))
def f18 : Fn := ⟨"mixed_web", 4, ["first", "second", "x", "y", "rows", "i", "row", "j", "line", "left", "right", "k", "m", "weight"], defScope (topS 38), ir18, false⟩
theorem irOk18 : ir18.ss = defBody (topS 38) := by rfl
def e19_0 : IE :=
    .lc2 false (.bin false .mul (.var 4 "weight" ⟨275, 26, 275, 32⟩) (.var 5 "number" ⟨275, 35, 275, 41⟩) ⟨275, 26, 275, 41⟩) (.one 4 "weight" ⟨275, 46, 275, 52⟩) (.of (.var 2 "row" ⟨275, 56, 275, 59⟩)) .nil (.one 5 "number" ⟨275, 64, 275, 70⟩) (.of (.var 3 "line" ⟨275, 74, 275, 78⟩)) .nil [("weight", 4), ("number", 5)] [5] { kind := .function, names := [(".0", .«local»), ("weight", .«local»), ("number", .«local»), ("line", .free)], isGenerator := false, isCoroutine := false, more := [] } ⟨275, 25, 275, 79⟩
def e19_1 : IE :=
    .lc2 false e19_0 (.one 2 "row" ⟨275, 84, 275, 87⟩) (.of (.attr (.var 0 "self" ⟨275, 91, 275, 95⟩) "Web" "rows" ⟨275, 91, 275, 100⟩)) .nil (.one 3 "line" ⟨275, 105, 275, 109⟩) (.of (.attr (.var 1 "other" ⟨275, 113, 275, 118⟩) "Web" "rows" ⟨275, 113, 275, 123⟩)) .nil [("row", 2), ("line", 3)] [3] { kind := .function, names := [(".0", .«local»), ("row", .«local»), ("line", .cell), ("other", .free)], isGenerator := false, isCoroutine := false, more := [] } ⟨275, 24, 275, 124⟩
/-- Web.__mul__ -/
def ir19 : ISs :=
    (.cons (.expr (.call 31 "_need_room" (.bin false .mul (.attr (.var 0 "self" ⟨274, 19, 274, 23⟩) "Web" "size" ⟨274, 19, 274, 28⟩) (.attr (.var 1 "other" ⟨274, 31, 274, 36⟩) "Web" "size" ⟨274, 31, 274, 41⟩) ⟨274, 19, 274, 41⟩) .nil ⟨274, 8, 274, 18⟩ ⟨274, 8, 274, 42⟩) ⟨274, 8, 274, 42⟩)
    (.cons (.ret (.call 27 "made_web" e19_1 .nil ⟨275, 15, 275, 23⟩ ⟨275, 15, 275, 125⟩) ⟨275, 8, 275, 125⟩)
    .nil))
def f19 : Fn := ⟨"__mul__", 2, ["self", "other", "row", "line", "weight", "number"], defScope (methS (topS 36) 5), ir19, false⟩
theorem irOk19 : ir19.ss = defBody (methS (topS 36) 5) := by rfl
def e20_0 : IE :=
    .lc2 false (.tup (.cons (.var 2 "i" ⟨255, 29, 255, 30⟩) (.cons (.var 4 "j" ⟨255, 32, 255, 33⟩) (.cons (.var 5 "weight" ⟨255, 35, 255, 41⟩) .nil))) 0 ⟨255, 28, 255, 42⟩) (.many [(2, "i", ⟨255, 47, 255, 48⟩), (3, "row", ⟨255, 50, 255, 53⟩)] 0 ⟨255, 47, 255, 53⟩) (.enum (.var 1 "rows" ⟨255, 67, 255, 71⟩) ⟨255, 57, 255, 66⟩ ⟨255, 57, 255, 72⟩) .nil (.many [(4, "j", ⟨255, 77, 255, 78⟩), (5, "weight", ⟨255, 80, 255, 86⟩)] 0 ⟨255, 77, 255, 86⟩) (.enum (.var 3 "row" ⟨255, 100, 255, 103⟩) ⟨255, 90, 255, 99⟩ ⟨255, 90, 255, 104⟩) (.cons (.and (.cmp .le (.var 2 "i" ⟨255, 108, 255, 109⟩) (.var 4 "j" ⟨255, 113, 255, 114⟩) ⟨255, 108, 255, 114⟩) (.cons (.cmp .gt (.var 5 "weight" ⟨255, 119, 255, 125⟩) (.int (0) 0 ⟨255, 128, 255, 129⟩) ⟨255, 119, 255, 129⟩) .nil) ⟨255, 108, 255, 129⟩) .nil) [("i", 2), ("row", 3), ("j", 4), ("weight", 5)] [4, 5] { kind := .function, names := [(".0", .«local»), ("i", .«local»), ("row", .«local»), ("j", .«local»), ("weight", .«local»), ("enumerate", .globalImplicit)], isGenerator := false, isCoroutine := false, more := [] } ⟨255, 27, 255, 130⟩
def e20_1 : IE :=
    .lc false (.bi false .sum (.var 3 "row" ⟨253, 34, 253, 37⟩) .nil ⟨253, 30, 253, 33⟩ ⟨253, 30, 253, 38⟩) (.one 3 "row" ⟨253, 43, 253, 46⟩) (.of (.var 1 "rows" ⟨253, 50, 253, 54⟩)) .nil [("row", 3)] { kind := .function, names := [(".0", .«local»), ("row", .«local»), ("sum", .globalImplicit)], isGenerator := false, isCoroutine := false, more := [] } ⟨253, 29, 253, 55⟩
def e20_2 : IE :=
    .lc false (.bi false .tuple (.var 3 "row" ⟨251, 33, 251, 36⟩) .nil ⟨251, 27, 251, 32⟩ ⟨251, 27, 251, 37⟩) (.one 3 "row" ⟨251, 42, 251, 45⟩) (.of (.var 1 "rows" ⟨251, 49, 251, 53⟩)) .nil [("row", 3)] { kind := .function, names := [(".0", .«local»), ("row", .«local»), ("tuple", .globalImplicit)], isGenerator := false, isCoroutine := false, more := [] } ⟨251, 26, 251, 54⟩
/-- Web.__init__ -/
def ir20 : ISs :=
    (.cons (.expr (.call 35 "_need_square" (.var 1 "rows" ⟨247, 21, 247, 25⟩) .nil ⟨247, 8, 247, 20⟩ ⟨247, 8, 247, 26⟩) ⟨247, 8, 247, 26⟩)
    (.cons (.expr (.call 34 "_need_weights" (.var 1 "rows" ⟨248, 22, 248, 26⟩) .nil ⟨248, 8, 248, 21⟩ ⟨248, 8, 248, 27⟩) ⟨248, 8, 248, 27⟩)
    (.cons (.expr (.call 33 "_need_symmetric" (.var 1 "rows" ⟨249, 24, 249, 28⟩) .nil ⟨249, 8, 249, 23⟩ ⟨249, 8, 249, 29⟩) ⟨249, 8, 249, 29⟩)
    (.cons (.expr (.call 32 "_need_tied" (.var 1 "rows" ⟨250, 19, 250, 23⟩) .nil ⟨250, 8, 250, 18⟩ ⟨250, 8, 250, 24⟩) ⟨250, 8, 250, 24⟩)
    (.cons (.setAt (.var 0 "self" ⟨251, 8, 251, 12⟩) "Web" "rows" (.bi false .tuple e20_2 .nil ⟨251, 20, 251, 25⟩ ⟨251, 20, 251, 55⟩) ⟨251, 8, 251, 17⟩ ⟨251, 8, 251, 55⟩)
    (.cons (.setAt (.var 0 "self" ⟨252, 8, 252, 12⟩) "Web" "size" (.bi false .len (.var 1 "rows" ⟨252, 24, 252, 28⟩) .nil ⟨252, 20, 252, 23⟩ ⟨252, 20, 252, 29⟩) ⟨252, 8, 252, 17⟩ ⟨252, 8, 252, 29⟩)
    (.cons (.setAt (.var 0 "self" ⟨253, 8, 253, 12⟩) "Web" "degrees" (.bi false .tuple e20_1 .nil ⟨253, 23, 253, 28⟩ ⟨253, 23, 253, 56⟩) ⟨253, 8, 253, 20⟩ ⟨253, 8, 253, 56⟩)
    (.cons (.setAt (.var 0 "self" ⟨254, 8, 254, 12⟩) "Web" "volume" (.bi false .sum (.attr (.var 0 "self" ⟨254, 26, 254, 30⟩) "Web" "degrees" ⟨254, 26, 254, 38⟩) .nil ⟨254, 22, 254, 25⟩ ⟨254, 22, 254, 39⟩) ⟨254, 8, 254, 19⟩ ⟨254, 8, 254, 39⟩)
    (.cons (.setAt (.var 0 "self" ⟨255, 8, 255, 12⟩) "Web" "_ties" (.bi false .tuple e20_0 .nil ⟨255, 21, 255, 26⟩ ⟨255, 21, 255, 131⟩) ⟨255, 8, 255, 18⟩ ⟨255, 8, 255, 131⟩)
    .nil)))))))))
def f20 : Fn := ⟨"__init__", 2, ["self", "rows", "i", "row", "j", "weight"], defScope (methS (topS 36) 0), ir20, false⟩
theorem irOk20 : ir20.ss = defBody (methS (topS 36) 0) := by rfl
def b21_0 : ISs :=
    (.cons (.expr (.lmeth (.var 4 "row" ⟨388, 8, 388, 11⟩) .append (.cons (.bin false .mod (.bi false .int (.var 5 "cell" ⟨388, 23, 388, 27⟩) .nil ⟨388, 19, 388, 22⟩ ⟨388, 19, 388, 28⟩) (.var 2 "base" ⟨388, 31, 388, 35⟩) ⟨388, 19, 388, 35⟩) .nil) ⟨388, 8, 388, 18⟩ ⟨388, 8, 388, 36⟩) ⟨388, 8, 388, 36⟩)
    (.cons (.asg (.one 5 "cell" ⟨389, 8, 389, 12⟩) (.bin false .fdiv (.var 5 "cell" ⟨389, 15, 389, 19⟩) (.var 2 "base" ⟨389, 23, 389, 27⟩) ⟨389, 15, 389, 27⟩) ⟨389, 8, 389, 27⟩)
    (.cons (.ite (.or (.cmp .eq (.var 5 "cell" ⟨390, 11, 390, 15⟩) (.int (0) 0 ⟨390, 19, 390, 20⟩) ⟨390, 11, 390, 20⟩) (.cons (.cmp .eq (.var 5 "cell" ⟨390, 24, 390, 28⟩) (.neg (.int (1) 0 ⟨390, 33, 390, 34⟩) ⟨390, 32, 390, 34⟩) ⟨390, 24, 390, 34⟩) .nil) ⟨390, 11, 390, 34⟩) (.cons (.asg (.one 1 "at" ⟨391, 12, 391, 14⟩) (.bin false .add (.var 1 "at" ⟨391, 17, 391, 19⟩) (.int (1) 0 ⟨391, 22, 391, 23⟩) ⟨391, 17, 391, 23⟩) ⟨391, 12, 391, 23⟩)
    (.cons (.asg (.one 5 "cell" ⟨392, 12, 392, 16⟩) (.call 2 "_law_cell" (.var 0 "script" ⟨392, 29, 392, 35⟩) (.cons (.var 1 "at" ⟨392, 37, 392, 39⟩) .nil) ⟨392, 19, 392, 28⟩ ⟨392, 19, 392, 40⟩) ⟨392, 12, 392, 40⟩)
    .nil)) .nil ⟨390, 8, 392, 40⟩)
    .nil)))
/-- _law_row -/
def ir21 : ISs :=
    (.cons (.asg (.one 4 "row" ⟨385, 4, 385, 7⟩) (.lst true .nil ⟨385, 10, 385, 12⟩) ⟨385, 4, 385, 12⟩)
    (.cons (.asg (.one 5 "cell" ⟨386, 4, 386, 8⟩) (.call 2 "_law_cell" (.var 0 "script" ⟨386, 21, 386, 27⟩) (.cons (.var 1 "at" ⟨386, 29, 386, 31⟩) .nil) ⟨386, 11, 386, 20⟩ ⟨386, 11, 386, 32⟩) ⟨386, 4, 386, 32⟩)
    (.cons (.for_ (.one 6 "turn" ⟨387, 8, 387, 12⟩) (.rng1 (.var 3 "many" ⟨387, 22, 387, 26⟩) ⟨387, 16, 387, 21⟩ ⟨387, 16, 387, 27⟩) b21_0 ⟨387, 4, 392, 40⟩)
    (.cons (.ret (.var 4 "row" ⟨393, 11, 393, 14⟩) ⟨393, 4, 393, 14⟩)
    .nil))))
def f21 : Fn := ⟨"_law_row", 4, ["script", "at", "base", "many", "row", "cell", "turn"], defScope (topS 57), ir21, true⟩
theorem irOk21 : ir21.ss = defBody (topS 57) := by rfl
/-- _law_low -/
def ir22 : ISs :=
    (.cons (.asg (.one 2 "both" ⟨440, 4, 440, 8⟩) (.call 36 "_law_gcd" (.var 0 "top" ⟨440, 20, 440, 23⟩) (.cons (.var 1 "bottom" ⟨440, 25, 440, 31⟩) .nil) ⟨440, 11, 440, 19⟩ ⟨440, 11, 440, 32⟩) ⟨440, 4, 440, 32⟩)
    (.cons (.ret (.tup (.cons (.bin false .fdiv (.var 0 "top" ⟨441, 12, 441, 15⟩) (.var 2 "both" ⟨441, 19, 441, 23⟩) ⟨441, 12, 441, 23⟩) (.cons (.bin false .fdiv (.var 1 "bottom" ⟨441, 25, 441, 31⟩) (.var 2 "both" ⟨441, 35, 441, 39⟩) ⟨441, 25, 441, 39⟩) .nil)) 0 ⟨441, 11, 441, 40⟩) ⟨441, 4, 441, 40⟩)
    .nil))
def f22 : Fn := ⟨"_law_low", 2, ["top", "bottom", "both"], defScope (topS 63), ir22, false⟩
theorem irOk22 : ir22.ss = defBody (topS 63) := by rfl
/-- Frac.__add__ -/
def ir23 : ISs :=
    (.cons (.asg (.one 2 "more" ⟨88, 8, 88, 12⟩) (.call 37 "as_frac" (.var 1 "other" ⟨88, 23, 88, 28⟩) .nil ⟨88, 15, 88, 22⟩ ⟨88, 15, 88, 29⟩) ⟨88, 8, 88, 29⟩)
    (.cons (.ret (.make false 24 "Frac" (.bin false .add (.bin false .mul (.attr (.var 0 "self" ⟨89, 20, 89, 24⟩) "Frac" "top" ⟨89, 20, 89, 28⟩) (.attr (.var 2 "more" ⟨89, 31, 89, 35⟩) "Frac" "bottom" ⟨89, 31, 89, 42⟩) ⟨89, 20, 89, 42⟩) (.bin false .mul (.attr (.var 2 "more" ⟨89, 45, 89, 49⟩) "Frac" "top" ⟨89, 45, 89, 53⟩) (.attr (.var 0 "self" ⟨89, 56, 89, 60⟩) "Frac" "bottom" ⟨89, 56, 89, 67⟩) ⟨89, 45, 89, 67⟩) ⟨89, 20, 89, 67⟩) (.cons (.bin false .mul (.attr (.var 0 "self" ⟨89, 69, 89, 73⟩) "Frac" "bottom" ⟨89, 69, 89, 80⟩) (.attr (.var 2 "more" ⟨89, 83, 89, 87⟩) "Frac" "bottom" ⟨89, 83, 89, 94⟩) ⟨89, 69, 89, 94⟩) .nil) ⟨89, 15, 89, 19⟩ ⟨89, 15, 89, 95⟩) ⟨89, 8, 89, 95⟩)
    .nil))
def f23 : Fn := ⟨"__add__", 2, ["self", "other", "more"], defScope (methS (topS 20) 2), ir23, false⟩
theorem irOk23 : ir23.ss = defBody (methS (topS 20) 2) := by rfl
/-- Frac.__init__ -/
def ir24 : ISs :=
    (.cons (.ite (.cmp .eq (.var 2 "bottom" ⟨61, 11, 61, 17⟩) (.int (0) 0 ⟨61, 21, 61, 22⟩) ⟨61, 11, 61, 22⟩) (.cons (.raise "ZeroBottom" none .nil ⟨62, 18, 62, 28⟩ ⟨62, 18, 62, 30⟩ ⟨62, 12, 62, 30⟩)
    .nil) .nil ⟨61, 8, 62, 30⟩)
    (.cons (.asg (.one 3 "common" ⟨63, 8, 63, 14⟩) (.gcd false (.var 1 "top" ⟨63, 21, 63, 24⟩) (.var 2 "bottom" ⟨63, 26, 63, 32⟩) ⟨63, 17, 63, 20⟩ ⟨63, 17, 63, 33⟩) ⟨63, 8, 63, 33⟩)
    (.cons (.ite (.cmp .lt (.var 2 "bottom" ⟨64, 11, 64, 17⟩) (.int (0) 0 ⟨64, 20, 64, 21⟩) ⟨64, 11, 64, 21⟩) (.cons (.asg (.one 3 "common" ⟨65, 12, 65, 18⟩) (.neg (.var 3 "common" ⟨65, 22, 65, 28⟩) ⟨65, 21, 65, 28⟩) ⟨65, 12, 65, 28⟩)
    .nil) .nil ⟨64, 8, 65, 28⟩)
    (.cons (.setAt (.var 0 "self" ⟨66, 8, 66, 12⟩) "Frac" "top" (.bin false .fdiv (.var 1 "top" ⟨66, 19, 66, 22⟩) (.var 3 "common" ⟨66, 26, 66, 32⟩) ⟨66, 19, 66, 32⟩) ⟨66, 8, 66, 16⟩ ⟨66, 8, 66, 32⟩)
    (.cons (.setAt (.var 0 "self" ⟨67, 8, 67, 12⟩) "Frac" "bottom" (.bin false .fdiv (.var 2 "bottom" ⟨67, 22, 67, 28⟩) (.var 3 "common" ⟨67, 32, 67, 38⟩) ⟨67, 22, 67, 38⟩) ⟨67, 8, 67, 19⟩ ⟨67, 8, 67, 38⟩)
    .nil)))))
def f24 : Fn := ⟨"__init__", 3, ["self", "top", "bottom", "common"], defScope (methS (topS 20) 0), ir24, false⟩
theorem irOk24 : ir24.ss = defBody (methS (topS 20) 0) := by rfl
def b25_0 : ISs :=
    (.cons (.asg (.one 5 "numbers" ⟨352, 8, 352, 15⟩) (.call 38 "dealt" (.var 4 "rows" ⟨352, 24, 352, 28⟩) (.cons (.var 5 "numbers" ⟨352, 30, 352, 37⟩) .nil) ⟨352, 18, 352, 23⟩ ⟨352, 18, 352, 38⟩) ⟨352, 8, 352, 38⟩)
    (.cons (.asg (.one 6 "scale" ⟨353, 8, 353, 13⟩) (.bin false .mul (.var 6 "scale" ⟨353, 16, 353, 21⟩) (.var 3 "whole" ⟨353, 24, 353, 29⟩) ⟨353, 16, 353, 29⟩) ⟨353, 8, 353, 29⟩)
    .nil))
/-- walked -/
def ir25 : ISs :=
    (.cons (.asg (.one 3 "whole" ⟨347, 4, 347, 9⟩) (.call 41 "common_degree" (.var 0 "web" ⟨347, 26, 347, 29⟩) .nil ⟨347, 12, 347, 25⟩ ⟨347, 12, 347, 30⟩) ⟨347, 4, 347, 30⟩)
    (.cons (.asg (.one 4 "rows" ⟨348, 4, 348, 8⟩) (.call 40 "step_numbers" (.var 0 "web" ⟨348, 24, 348, 27⟩) .nil ⟨348, 11, 348, 23⟩ ⟨348, 11, 348, 28⟩) ⟨348, 4, 348, 28⟩)
    (.cons (.asg (.one 5 "numbers" ⟨349, 4, 349, 11⟩) (.call 39 "begun" (.var 0 "web" ⟨349, 20, 349, 23⟩) (.cons (.var 1 "start" ⟨349, 25, 349, 30⟩) .nil) ⟨349, 14, 349, 19⟩ ⟨349, 14, 349, 31⟩) ⟨349, 4, 349, 31⟩)
    (.cons (.asg (.one 6 "scale" ⟨350, 4, 350, 9⟩) (.int (1) 0 ⟨350, 12, 350, 13⟩) ⟨350, 4, 350, 13⟩)
    (.cons (.for_ (.one 7 "_" ⟨351, 8, 351, 9⟩) (.rng1 (.var 2 "steps" ⟨351, 19, 351, 24⟩) ⟨351, 13, 351, 18⟩ ⟨351, 13, 351, 25⟩) b25_0 ⟨351, 4, 353, 29⟩)
    (.cons (.ret (.tup (.cons (.var 5 "numbers" ⟨354, 12, 354, 19⟩) (.cons (.var 6 "scale" ⟨354, 21, 354, 26⟩) .nil)) 0 ⟨354, 11, 354, 27⟩) ⟨354, 4, 354, 27⟩)
    .nil))))))
def f25 : Fn := ⟨"walked", 3, ["web", "start", "steps", "whole", "rows", "numbers", "scale", "_"], defScope (topS 47), ir25, false⟩
theorem irOk25 : ir25.ss = defBody (topS 47) := by rfl
/-- need_steps -/
def ir26 : ISs :=
    (.cons (.ite (.or (.cmp .lt (.var 0 "steps" ⟨332, 7, 332, 12⟩) (.int (0) 0 ⟨332, 15, 332, 16⟩) ⟨332, 7, 332, 16⟩) (.cons (.cmp .gt (.var 0 "steps" ⟨332, 20, 332, 25⟩) (.gint (60) "MOST_STEPS_shares" ⟨332, 28, 332, 45⟩) ⟨332, 20, 332, 45⟩) .nil) ⟨332, 7, 332, 45⟩) (.cons (.raise "OutOfRange" none (.cons (.var 0 "steps" ⟨333, 25, 333, 30⟩) .nil) ⟨333, 14, 333, 24⟩ ⟨333, 14, 333, 31⟩ ⟨333, 8, 333, 31⟩)
    .nil) .nil ⟨332, 4, 333, 31⟩)
    .nil)
def f26 : Fn := ⟨"need_steps", 1, ["steps"], defScope (topS 42), ir26, false⟩
theorem irOk26 : ir26.ss = defBody (topS 42) := by rfl
def b27_0 : ISs :=
    (.cons (.ite (.cmp .gt (.var 2 "weight" ⟨301, 15, 301, 21⟩) (.gint (1000000000000000000000000000000) "MOST_WEIGHT" ⟨301, 24, 301, 35⟩) ⟨301, 15, 301, 35⟩) (.cons (.raise "TooMuch" none (.cons (.gint (1000000000000000000000000000000) "MOST_WEIGHT" ⟨302, 30, 302, 41⟩) .nil) ⟨302, 22, 302, 29⟩ ⟨302, 22, 302, 42⟩ ⟨302, 16, 302, 42⟩)
    .nil) .nil ⟨301, 12, 302, 42⟩)
    .nil)
def b27_1 : ISs :=
    (.cons (.for_ (.one 2 "weight" ⟨300, 12, 300, 18⟩) (.of (.var 1 "row" ⟨300, 22, 300, 25⟩)) b27_0 ⟨300, 8, 302, 42⟩)
    .nil)
/-- made_web -/
def ir27 : ISs :=
    (.cons (.expr (.call 31 "_need_room" (.bi false .len (.var 0 "rows" ⟨298, 19, 298, 23⟩) .nil ⟨298, 15, 298, 18⟩ ⟨298, 15, 298, 24⟩) .nil ⟨298, 4, 298, 14⟩ ⟨298, 4, 298, 25⟩) ⟨298, 4, 298, 25⟩)
    (.cons (.for_ (.one 1 "row" ⟨299, 8, 299, 11⟩) (.of (.var 0 "rows" ⟨299, 15, 299, 19⟩)) b27_1 ⟨299, 4, 302, 42⟩)
    (.cons (.ret (.make false 20 "Web" (.var 0 "rows" ⟨303, 15, 303, 19⟩) .nil ⟨303, 11, 303, 14⟩ ⟨303, 11, 303, 20⟩) ⟨303, 4, 303, 20⟩)
    .nil)))
def f27 : Fn := ⟨"made_web", 1, ["rows", "row", "weight"], defScope (topS 37), ir27, false⟩
theorem irOk27 : ir27.ss = defBody (topS 37) := by rfl
def e28_0 : IE :=
    .lc false (.bin false .add (.ix (.var 1 "row" ⟨479, 21, 479, 24⟩) (.var 3 "j" ⟨479, 25, 479, 26⟩) ⟨479, 21, 479, 27⟩) (.ix (.var 1 "row" ⟨479, 30, 479, 33⟩) (.bin false .add (.var 3 "j" ⟨479, 34, 479, 35⟩) (.int (1) 0 ⟨479, 38, 479, 39⟩) ⟨479, 34, 479, 39⟩) ⟨479, 30, 479, 40⟩) ⟨479, 21, 479, 40⟩) (.one 3 "j" ⟨479, 45, 479, 46⟩) (.rng1 (.bin false .sub (.bi false .len (.var 1 "row" ⟨479, 60, 479, 63⟩) .nil ⟨479, 56, 479, 59⟩ ⟨479, 56, 479, 64⟩) (.int (1) 0 ⟨479, 67, 479, 68⟩) ⟨479, 56, 479, 68⟩) ⟨479, 50, 479, 55⟩ ⟨479, 50, 479, 69⟩) .nil [("j", 3)] { kind := .function, names := [(".0", .«local»), ("j", .«local»), ("row", .free)], isGenerator := false, isCoroutine := false, more := [] } ⟨479, 20, 479, 70⟩
def b28_1 : ISs :=
    (.cons (.asg (.one 1 "row" ⟨479, 8, 479, 11⟩) (.bin false .add (.bin false .add (.lst false (.cons (.int (1) 0 ⟨479, 15, 479, 16⟩) .nil) ⟨479, 14, 479, 17⟩) e28_0 ⟨479, 14, 479, 70⟩) (.lst false (.cons (.int (1) 0 ⟨479, 74, 479, 75⟩) .nil) ⟨479, 73, 479, 76⟩) ⟨479, 14, 479, 76⟩) ⟨479, 8, 479, 76⟩)
    .nil)
/-- _law_choices -/
def ir28 : ISs :=
    (.cons (.asg (.one 1 "row" ⟨477, 4, 477, 7⟩) (.lst false (.cons (.int (1) 0 ⟨477, 11, 477, 12⟩) .nil) ⟨477, 10, 477, 13⟩) ⟨477, 4, 477, 13⟩)
    (.cons (.for_ (.one 2 "turn" ⟨478, 8, 478, 12⟩) (.rng1 (.var 0 "many" ⟨478, 22, 478, 26⟩) ⟨478, 16, 478, 21⟩ ⟨478, 16, 478, 27⟩) b28_1 ⟨478, 4, 479, 76⟩)
    (.cons (.ret (.var 1 "row" ⟨480, 11, 480, 14⟩) ⟨480, 4, 480, 14⟩)
    .nil)))
def f28 : Fn := ⟨"_law_choices", 1, ["many", "row", "turn", "j"], defScope (topS 69), ir28, false⟩
theorem irOk28 : ir28.ss = defBody (topS 69) := by rfl
def e29_0 : IE :=
    .lc false (.bin false .add (.ix (.var 5 "row" ⟨458, 19, 458, 22⟩) (.var 9 "j" ⟨458, 23, 458, 24⟩) ⟨458, 19, 458, 25⟩) (.bin false .mul (.var 7 "part" ⟨458, 28, 458, 32⟩) (.ix (.var 8 "away" ⟨458, 35, 458, 39⟩) (.var 9 "j" ⟨458, 40, 458, 41⟩) ⟨458, 35, 458, 42⟩) ⟨458, 28, 458, 42⟩) ⟨458, 19, 458, 42⟩) (.one 9 "j" ⟨458, 47, 458, 48⟩) (.rng1 (.bi false .len (.var 1 "rows" ⟨458, 62, 458, 66⟩) .nil ⟨458, 58, 458, 61⟩ ⟨458, 58, 458, 67⟩) ⟨458, 52, 458, 57⟩ ⟨458, 52, 458, 68⟩) .nil [("j", 9)] { kind := .function, names := [(".0", .«local»), ("j", .«local»), ("away", .free), ("part", .free), ("row", .free)], isGenerator := false, isCoroutine := false, more := [] } ⟨458, 18, 458, 69⟩
def b29_1 : ISs :=
    (.cons (.asg (.one 7 "part" ⟨456, 12, 456, 16⟩) (.bin false .mul (.ix (.var 4 "line" ⟨456, 19, 456, 23⟩) (.var 6 "k" ⟨456, 24, 456, 25⟩) ⟨456, 19, 456, 26⟩) (.ix (.var 2 "parts" ⟨456, 29, 456, 34⟩) (.var 6 "k" ⟨456, 35, 456, 36⟩) ⟨456, 29, 456, 37⟩) ⟨456, 19, 456, 37⟩) ⟨456, 12, 456, 37⟩)
    (.cons (.asg (.one 8 "away" ⟨457, 12, 457, 16⟩) (.ix (.var 1 "rows" ⟨457, 19, 457, 23⟩) (.var 6 "k" ⟨457, 24, 457, 25⟩) ⟨457, 19, 457, 26⟩) ⟨457, 12, 457, 26⟩)
    (.cons (.asg (.one 5 "row" ⟨458, 12, 458, 15⟩) e29_0 ⟨458, 12, 458, 69⟩)
    .nil)))
def b29_2 : ISs :=
    (.cons (.asg (.one 5 "row" ⟨454, 8, 454, 11⟩) (.bin false .mul (.lst false (.cons (.int (0) 0 ⟨454, 15, 454, 16⟩) .nil) ⟨454, 14, 454, 17⟩) (.bi false .len (.var 1 "rows" ⟨454, 24, 454, 28⟩) .nil ⟨454, 20, 454, 23⟩ ⟨454, 20, 454, 29⟩) ⟨454, 14, 454, 29⟩) ⟨454, 8, 454, 29⟩)
    (.cons (.for_ (.one 6 "k" ⟨455, 12, 455, 13⟩) (.rng1 (.bi false .len (.var 1 "rows" ⟨455, 27, 455, 31⟩) .nil ⟨455, 23, 455, 26⟩ ⟨455, 23, 455, 32⟩) ⟨455, 17, 455, 22⟩ ⟨455, 17, 455, 33⟩) b29_1 ⟨455, 8, 458, 69⟩)
    (.cons (.expr (.lmeth (.var 3 "fresh" ⟨459, 8, 459, 13⟩) .append (.cons (.var 5 "row" ⟨459, 21, 459, 24⟩) .nil) ⟨459, 8, 459, 20⟩ ⟨459, 8, 459, 25⟩) ⟨459, 8, 459, 25⟩)
    .nil)))
/-- _law_stepped -/
def ir29 : ISs :=
    (.cons (.asg (.one 3 "fresh" ⟨452, 4, 452, 9⟩) (.lst true .nil ⟨452, 12, 452, 14⟩) ⟨452, 4, 452, 14⟩)
    (.cons (.for_ (.one 4 "line" ⟨453, 8, 453, 12⟩) (.of (.var 0 "table" ⟨453, 16, 453, 21⟩)) b29_2 ⟨453, 4, 459, 25⟩)
    (.cons (.ret (.var 3 "fresh" ⟨460, 11, 460, 16⟩) ⟨460, 4, 460, 16⟩)
    .nil)))
def f29 : Fn := ⟨"_law_stepped", 3, ["table", "rows", "parts", "fresh", "line", "row", "k", "part", "away", "j"], defScope (topS 66), ir29, false⟩
theorem irOk29 : ir29.ss = defBody (topS 66) := by rfl
def b30_0 : ISs :=
    (.cons (.asg (.one 1 "shared" ⟨449, 8, 449, 14⟩) (.bin false .mul (.var 1 "shared" ⟨449, 17, 449, 23⟩) (.bin false .fdiv (.var 2 "x" ⟨449, 27, 449, 28⟩) (.call 36 "_law_gcd" (.var 1 "shared" ⟨449, 41, 449, 47⟩) (.cons (.var 2 "x" ⟨449, 49, 449, 50⟩) .nil) ⟨449, 32, 449, 40⟩ ⟨449, 32, 449, 51⟩) ⟨449, 27, 449, 51⟩) ⟨449, 17, 449, 52⟩) ⟨449, 8, 449, 52⟩)
    .nil)
/-- _law_shared -/
def ir30 : ISs :=
    (.cons (.asg (.one 1 "shared" ⟨447, 4, 447, 10⟩) (.int (1) 0 ⟨447, 13, 447, 14⟩) ⟨447, 4, 447, 14⟩)
    (.cons (.for_ (.one 2 "x" ⟨448, 8, 448, 9⟩) (.of (.var 0 "sums" ⟨448, 13, 448, 17⟩)) b30_0 ⟨448, 4, 449, 52⟩)
    (.cons (.ret (.var 1 "shared" ⟨450, 11, 450, 17⟩) ⟨450, 4, 450, 17⟩)
    .nil)))
def f30 : Fn := ⟨"_law_shared", 1, ["sums", "shared", "x"], defScope (topS 65), ir30, false⟩
theorem irOk30 : ir30.ss = defBody (topS 65) := by rfl
/-- _need_room -/
def ir31 : ISs :=
    (.cons (.ite (.cmp .gt (.var 0 "size" ⟨242, 7, 242, 11⟩) (.gint (40) "MOST_PLACES" ⟨242, 14, 242, 25⟩) ⟨242, 7, 242, 25⟩) (.cons (.raise "TooMuch" none (.cons (.gint (40) "MOST_PLACES" ⟨243, 22, 243, 33⟩) .nil) ⟨243, 14, 243, 21⟩ ⟨243, 14, 243, 34⟩ ⟨243, 8, 243, 34⟩)
    .nil) .nil ⟨242, 4, 243, 34⟩)
    .nil)
def f31 : Fn := ⟨"_need_room", 1, ["size"], defScope (topS 35), ir31, false⟩
theorem irOk31 : ir31.ss = defBody (topS 35) := by rfl
def b32_0 : ISs :=
    (.cons (.ite (.cmp .eq (.bi false .sum (.var 2 "row" ⟨239, 15, 239, 18⟩) .nil ⟨239, 11, 239, 14⟩ ⟨239, 11, 239, 19⟩) (.int (0) 0 ⟨239, 23, 239, 24⟩) ⟨239, 11, 239, 24⟩) (.cons (.raise "Bare" none (.cons (.var 1 "place" ⟨240, 23, 240, 28⟩) .nil) ⟨240, 18, 240, 22⟩ ⟨240, 18, 240, 29⟩ ⟨240, 12, 240, 29⟩)
    .nil) .nil ⟨239, 8, 240, 29⟩)
    .nil)
/-- _need_tied -/
def ir32 : ISs :=
    (.cons (.for_ (.many [(1, "place", ⟨238, 8, 238, 13⟩), (2, "row", ⟨238, 15, 238, 18⟩)] 0 ⟨238, 8, 238, 18⟩) (.enum (.var 0 "rows" ⟨238, 32, 238, 36⟩) ⟨238, 22, 238, 31⟩ ⟨238, 22, 238, 37⟩) b32_0 ⟨238, 4, 240, 29⟩)
    .nil)
def f32 : Fn := ⟨"_need_tied", 1, ["rows", "place", "row"], defScope (topS 34), ir32, false⟩
theorem irOk32 : ir32.ss = defBody (topS 34) := by rfl
def b33_0 : ISs :=
    (.cons (.ite (.cmp .ne (.var 4 "weight" ⟨235, 15, 235, 21⟩) (.ix (.ix (.var 0 "rows" ⟨235, 25, 235, 29⟩) (.var 3 "j" ⟨235, 30, 235, 31⟩) ⟨235, 25, 235, 32⟩) (.var 1 "i" ⟨235, 33, 235, 34⟩) ⟨235, 25, 235, 35⟩) ⟨235, 15, 235, 35⟩) (.cons (.raise "NotSymmetric" none (.cons (.var 1 "i" ⟨236, 35, 236, 36⟩) (.cons (.var 3 "j" ⟨236, 38, 236, 39⟩) .nil)) ⟨236, 22, 236, 34⟩ ⟨236, 22, 236, 40⟩ ⟨236, 16, 236, 40⟩)
    .nil) .nil ⟨235, 12, 236, 40⟩)
    .nil)
def b33_1 : ISs :=
    (.cons (.for_ (.many [(3, "j", ⟨234, 12, 234, 13⟩), (4, "weight", ⟨234, 15, 234, 21⟩)] 0 ⟨234, 12, 234, 21⟩) (.enum (.var 2 "row" ⟨234, 35, 234, 38⟩) ⟨234, 25, 234, 34⟩ ⟨234, 25, 234, 39⟩) b33_0 ⟨234, 8, 236, 40⟩)
    .nil)
/-- _need_symmetric -/
def ir33 : ISs :=
    (.cons (.for_ (.many [(1, "i", ⟨233, 8, 233, 9⟩), (2, "row", ⟨233, 11, 233, 14⟩)] 0 ⟨233, 8, 233, 14⟩) (.enum (.var 0 "rows" ⟨233, 28, 233, 32⟩) ⟨233, 18, 233, 27⟩ ⟨233, 18, 233, 33⟩) b33_1 ⟨233, 4, 236, 40⟩)
    .nil)
def f33 : Fn := ⟨"_need_symmetric", 1, ["rows", "i", "row", "j", "weight"], defScope (topS 33), ir33, false⟩
theorem irOk33 : ir33.ss = defBody (topS 33) := by rfl
def b34_0 : ISs :=
    (.cons (.ite (.or (.cmp .lt (.var 2 "weight" ⟨230, 15, 230, 21⟩) (.int (0) 0 ⟨230, 24, 230, 25⟩) ⟨230, 15, 230, 25⟩) (.cons (.cmp .gt (.var 2 "weight" ⟨230, 29, 230, 35⟩) (.gint (1000000000000000000000000000000) "MOST_WEIGHT" ⟨230, 38, 230, 49⟩) ⟨230, 29, 230, 49⟩) .nil) ⟨230, 15, 230, 49⟩) (.cons (.raise "BadWeight" none (.cons (.var 2 "weight" ⟨231, 32, 231, 38⟩) .nil) ⟨231, 22, 231, 31⟩ ⟨231, 22, 231, 39⟩ ⟨231, 16, 231, 39⟩)
    .nil) .nil ⟨230, 12, 231, 39⟩)
    .nil)
def b34_1 : ISs :=
    (.cons (.for_ (.one 2 "weight" ⟨229, 12, 229, 18⟩) (.of (.var 1 "row" ⟨229, 22, 229, 25⟩)) b34_0 ⟨229, 8, 231, 39⟩)
    .nil)
/-- _need_weights -/
def ir34 : ISs :=
    (.cons (.for_ (.one 1 "row" ⟨228, 8, 228, 11⟩) (.of (.var 0 "rows" ⟨228, 15, 228, 19⟩)) b34_1 ⟨228, 4, 231, 39⟩)
    .nil)
def f34 : Fn := ⟨"_need_weights", 1, ["rows", "row", "weight"], defScope (topS 32), ir34, false⟩
theorem irOk34 : ir34.ss = defBody (topS 32) := by rfl
def b35_0 : ISs :=
    (.cons (.ite (.cmp .ne (.bi false .len (.var 2 "row" ⟨225, 15, 225, 18⟩) .nil ⟨225, 11, 225, 14⟩ ⟨225, 11, 225, 19⟩) (.var 1 "size" ⟨225, 23, 225, 27⟩) ⟨225, 11, 225, 27⟩) (.cons (.raise "BadShape" none .nil ⟨226, 18, 226, 26⟩ ⟨226, 18, 226, 28⟩ ⟨226, 12, 226, 28⟩)
    .nil) .nil ⟨225, 8, 226, 28⟩)
    .nil)
/-- _need_square -/
def ir35 : ISs :=
    (.cons (.asg (.one 1 "size" ⟨221, 4, 221, 8⟩) (.bi false .len (.var 0 "rows" ⟨221, 15, 221, 19⟩) .nil ⟨221, 11, 221, 14⟩ ⟨221, 11, 221, 20⟩) ⟨221, 4, 221, 20⟩)
    (.cons (.ite (.or (.cmp .lt (.var 1 "size" ⟨222, 7, 222, 11⟩) (.int (1) 0 ⟨222, 14, 222, 15⟩) ⟨222, 7, 222, 15⟩) (.cons (.cmp .gt (.var 1 "size" ⟨222, 19, 222, 23⟩) (.gint (40) "MOST_PLACES" ⟨222, 26, 222, 37⟩) ⟨222, 19, 222, 37⟩) .nil) ⟨222, 7, 222, 37⟩) (.cons (.raise "BadShape" none .nil ⟨223, 14, 223, 22⟩ ⟨223, 14, 223, 24⟩ ⟨223, 8, 223, 24⟩)
    .nil) .nil ⟨222, 4, 223, 24⟩)
    (.cons (.for_ (.one 2 "row" ⟨224, 8, 224, 11⟩) (.of (.var 0 "rows" ⟨224, 15, 224, 19⟩)) b35_0 ⟨224, 4, 226, 28⟩)
    .nil)))
def f35 : Fn := ⟨"_need_square", 1, ["rows", "size", "row"], defScope (topS 31), ir35, false⟩
theorem irOk35 : ir35.ss = defBody (topS 31) := by rfl
/-- _law_gcd -/
def ir36 : ISs :=
    (.cons (.asg (.one 0 "one" ⟨432, 4, 432, 7⟩) (.bi false .abs (.var 0 "one" ⟨432, 14, 432, 17⟩) .nil ⟨432, 10, 432, 13⟩ ⟨432, 10, 432, 18⟩) ⟨432, 4, 432, 18⟩)
    (.cons (.asg (.one 1 "two" ⟨433, 4, 433, 7⟩) (.bi false .abs (.var 1 "two" ⟨433, 14, 433, 17⟩) .nil ⟨433, 10, 433, 13⟩ ⟨433, 10, 433, 18⟩) ⟨433, 4, 433, 18⟩)
    (.cons (.while_ (.cmp .ne (.var 1 "two" ⟨434, 10, 434, 13⟩) (.int (0) 0 ⟨434, 17, 434, 18⟩) ⟨434, 10, 434, 18⟩) (.cons (.asg (.one 2 "rest" ⟨435, 8, 435, 12⟩) (.bin false .mod (.bi false .int (.var 0 "one" ⟨435, 19, 435, 22⟩) .nil ⟨435, 15, 435, 18⟩ ⟨435, 15, 435, 23⟩) (.var 1 "two" ⟨435, 26, 435, 29⟩) ⟨435, 15, 435, 29⟩) ⟨435, 8, 435, 29⟩)
    (.cons (.asg (.one 0 "one" ⟨436, 8, 436, 11⟩) (.var 1 "two" ⟨436, 14, 436, 17⟩) ⟨436, 8, 436, 17⟩)
    (.cons (.asg (.one 1 "two" ⟨437, 8, 437, 11⟩) (.var 2 "rest" ⟨437, 14, 437, 18⟩) ⟨437, 8, 437, 18⟩)
    .nil))) ⟨434, 4, 437, 18⟩)
    (.cons (.ret (.var 0 "one" ⟨438, 11, 438, 14⟩) ⟨438, 4, 438, 14⟩)
    .nil))))
def f36 : Fn := ⟨"_law_gcd", 2, ["one", "two", "rest"], defScope (topS 62), ir36, false⟩
theorem irOk36 : ir36.ss = defBody (topS 62) := by rfl
/-- as_frac -/
def ir37 : ISs :=
    (.cons (.ite (.isC (.var 0 "value" ⟨50, 18, 50, 23⟩) "Frac" ⟨50, 25, 50, 29⟩ ⟨50, 7, 50, 17⟩ ⟨50, 7, 50, 30⟩) (.cons (.ret (.var 0 "value" ⟨51, 15, 51, 20⟩) ⟨51, 8, 51, 20⟩)
    .nil) .nil ⟨50, 4, 51, 20⟩)
    (.cons (.ret (.makeD false 24 "Frac" (.var 0 "value" ⟨52, 16, 52, 21⟩) .nil [1] ⟨52, 11, 52, 15⟩ ⟨52, 11, 52, 22⟩) ⟨52, 4, 52, 22⟩)
    .nil))
def f37 : Fn := ⟨"as_frac", 1, ["value"], defScope (topS 18), ir37, false⟩
theorem irOk37 : ir37.ss = defBody (topS 18) := by rfl
def e38_0 : IE :=
    .lc false (.bin false .mul (.var 3 "number" ⟨345, 17, 345, 23⟩) (.ix (.var 4 "row" ⟨345, 26, 345, 29⟩) (.var 2 "place" ⟨345, 30, 345, 35⟩) ⟨345, 26, 345, 36⟩) ⟨345, 17, 345, 36⟩) (.many [(3, "number", ⟨345, 41, 345, 47⟩), (4, "row", ⟨345, 49, 345, 52⟩)] 0 ⟨345, 41, 345, 52⟩) (.zip (.var 1 "numbers" ⟨345, 60, 345, 67⟩) (.var 0 "rows" ⟨345, 69, 345, 73⟩) ⟨345, 56, 345, 59⟩ ⟨345, 56, 345, 74⟩) .nil [("number", 3), ("row", 4)] { kind := .function, names := [(".0", .«local»), ("number", .«local»), ("row", .«local»), ("place", .free)], isGenerator := false, isCoroutine := false, more := [] } ⟨345, 16, 345, 75⟩
def e38_1 : IE :=
    .lc false (.bi false .sum e38_0 .nil ⟨345, 12, 345, 15⟩ ⟨345, 12, 345, 76⟩) (.one 2 "place" ⟨345, 81, 345, 86⟩) (.rng1 (.bi false .len (.var 0 "rows" ⟨345, 100, 345, 104⟩) .nil ⟨345, 96, 345, 99⟩ ⟨345, 96, 345, 105⟩) ⟨345, 90, 345, 95⟩ ⟨345, 90, 345, 106⟩) .nil [("place", 2)] { kind := .function, names := [(".0", .«local»), ("place", .cell), ("sum", .globalImplicit), ("zip", .globalImplicit), ("numbers", .free), ("rows", .free)], isGenerator := false, isCoroutine := false, more := [] } ⟨345, 11, 345, 107⟩
/-- dealt -/
def ir38 : ISs :=
    (.cons (.ret e38_1 ⟨345, 4, 345, 107⟩)
    .nil)
def f38 : Fn := ⟨"dealt", 2, ["rows", "numbers", "place", "number", "row"], defScope (topS 46), ir38, false⟩
theorem irOk38 : ir38.ss = defBody (topS 46) := by rfl
def e39_0 : IE :=
    .lc false (.bi false .int (.cmp .eq (.var 2 "place" ⟨343, 16, 343, 21⟩) (.var 1 "start" ⟨343, 25, 343, 30⟩) ⟨343, 16, 343, 30⟩) .nil ⟨343, 12, 343, 15⟩ ⟨343, 12, 343, 31⟩) (.one 2 "place" ⟨343, 36, 343, 41⟩) (.rng1 (.attr (.var 0 "web" ⟨343, 51, 343, 54⟩) "Web" "size" ⟨343, 51, 343, 59⟩) ⟨343, 45, 343, 50⟩ ⟨343, 45, 343, 60⟩) .nil [("place", 2)] { kind := .function, names := [(".0", .«local»), ("place", .«local»), ("int", .globalImplicit), ("start", .free)], isGenerator := false, isCoroutine := false, more := [] } ⟨343, 11, 343, 61⟩
/-- begun -/
def ir39 : ISs :=
    (.cons (.ret e39_0 ⟨343, 4, 343, 61⟩)
    .nil)
def f39 : Fn := ⟨"begun", 2, ["web", "start", "place"], defScope (topS 45), ir39, false⟩
theorem irOk39 : ir39.ss = defBody (topS 45) := by rfl
def e40_0 : IE :=
    .lc false (.bin false .mul (.var 4 "weight" ⟨341, 13, 341, 19⟩) (.bin false .fdiv (.var 1 "whole" ⟨341, 23, 341, 28⟩) (.var 3 "degree" ⟨341, 32, 341, 38⟩) ⟨341, 23, 341, 38⟩) ⟨341, 13, 341, 39⟩) (.one 4 "weight" ⟨341, 44, 341, 50⟩) (.of (.var 2 "row" ⟨341, 54, 341, 57⟩)) .nil [("weight", 4)] { kind := .function, names := [(".0", .«local»), ("weight", .«local»), ("degree", .free), ("whole", .free)], isGenerator := false, isCoroutine := false, more := [] } ⟨341, 12, 341, 58⟩
def e40_1 : IE :=
    .lc false e40_0 (.many [(2, "row", ⟨341, 63, 341, 66⟩), (3, "degree", ⟨341, 68, 341, 74⟩)] 0 ⟨341, 63, 341, 74⟩) (.zip (.attr (.var 0 "web" ⟨341, 82, 341, 85⟩) "Web" "rows" ⟨341, 82, 341, 90⟩) (.attr (.var 0 "web" ⟨341, 92, 341, 95⟩) "Web" "degrees" ⟨341, 92, 341, 103⟩) ⟨341, 78, 341, 81⟩ ⟨341, 78, 341, 104⟩) .nil [("row", 2), ("degree", 3)] { kind := .function, names := [(".0", .«local»), ("row", .«local»), ("degree", .cell), ("whole", .free)], isGenerator := false, isCoroutine := false, more := [] } ⟨341, 11, 341, 105⟩
/-- step_numbers -/
def ir40 : ISs :=
    (.cons (.asg (.one 1 "whole" ⟨340, 4, 340, 9⟩) (.call 41 "common_degree" (.var 0 "web" ⟨340, 26, 340, 29⟩) .nil ⟨340, 12, 340, 25⟩ ⟨340, 12, 340, 30⟩) ⟨340, 4, 340, 30⟩)
    (.cons (.ret e40_1 ⟨341, 4, 341, 105⟩)
    .nil))
def f40 : Fn := ⟨"step_numbers", 1, ["web", "whole", "row", "degree", "weight"], defScope (topS 44), ir40, false⟩
theorem irOk40 : ir40.ss = defBody (topS 44) := by rfl
def b41_0 : ISs :=
    (.cons (.asg (.one 1 "whole" ⟨337, 8, 337, 13⟩) (.gcd true (.var 1 "whole" ⟨337, 20, 337, 25⟩) (.var 2 "degree" ⟨337, 27, 337, 33⟩) ⟨337, 16, 337, 19⟩ ⟨337, 16, 337, 34⟩) ⟨337, 8, 337, 34⟩)
    .nil)
/-- common_degree -/
def ir41 : ISs :=
    (.cons (.asg (.one 1 "whole" ⟨335, 4, 335, 9⟩) (.int (1) 0 ⟨335, 12, 335, 13⟩) ⟨335, 4, 335, 13⟩)
    (.cons (.for_ (.one 2 "degree" ⟨336, 8, 336, 14⟩) (.of (.attr (.var 0 "web" ⟨336, 18, 336, 21⟩) "Web" "degrees" ⟨336, 18, 336, 29⟩)) b41_0 ⟨336, 4, 337, 34⟩)
    (.cons (.ret (.var 1 "whole" ⟨338, 11, 338, 16⟩) ⟨338, 4, 338, 16⟩)
    .nil)))
def f41 : Fn := ⟨"common_degree", 1, ["web", "whole", "degree"], defScope (topS 43), ir41, false⟩
theorem irOk41 : ir41.ss = defBody (topS 43) := by rfl
end K58
set_option Elab.async false
set_option linter.all false
set_option maxRecDepth 1000000
set_option maxHeartbeats 0
/-! K58Tab: the tables. -/
namespace K58
open PySem PySem.Spec PyProof.Rows L2 MP He
def subs : List ((Str × Str) × Bool) := [(("OutOfRange", "BadPlace"), false), (("OutOfRange", "GapError"), true), (("OutOfRange", "OutOfRange"), true)]
def inss : List ((Str × Str) × Bool) := [(("int", "Frac"), false), (("NoneType", "Frac"), false), (("Frac", "Frac"), true), (("Web", "Frac"), false)]
def xfs : List (Str × Str) := [("OutOfRange", "value")]
def xcs : List (Str × List (Str × Bool)) := [("OutOfRange", [("value", false)])]
def fns : List Fn := [f0, f1, f2, f3, f4, f5, f6, f7, f8, f9, f10, f11, f12, f13, f14, f15, f16, f17, f18, f19, f20, f21, f22, f23, f24, f25, f26, f27, f28, f29, f30, f31, f32, f33, f34, f35, f36, f37, f38, f39, f40, f41]
def st : ST where
  T := mkTab fns subs xfs xcs inss
  tops := [(0, ("law" : Str)), (1, ("_law_asked" : Str)), (2, ("_law_cell" : Str)), (3, ("_law_refused" : Str)), (5, ("sum_of" : Str)), (6, ("product" : Str)), (7, ("_law_made" : Str)), (8, ("_law_pair" : Str)), (9, ("_law_rows" : Str)), (10, ("_law_is_frac" : Str)), (11, ("trace" : Str)), (12, ("half" : Str)), (13, ("_law_half_due" : Str)), (14, ("_law_sum_due" : Str)), (15, ("_law_raised" : Str)), (16, ("_law_traces" : Str)), (17, ("_law_whole" : Str)), (18, ("mixed_web" : Str)), (21, ("_law_row" : Str)), (22, ("_law_low" : Str)), (25, ("walked" : Str)), (26, ("need_steps" : Str)), (27, ("made_web" : Str)), (28, ("_law_choices" : Str)), (29, ("_law_stepped" : Str)), (30, ("_law_shared" : Str)), (31, ("_need_room" : Str)), (32, ("_need_tied" : Str)), (33, ("_need_symmetric" : Str)), (34, ("_need_weights" : Str)), (35, ("_need_square" : Str)), (36, ("_law_gcd" : Str)), (37, ("as_frac" : Str)), (38, ("dealt" : Str)), (39, ("begun" : Str)), (40, ("step_numbers" : Str)), (41, ("common_degree" : Str))]
  hots := [(17, "_law_whole")]
  cls := [("Frac", 24), ("Web", 20)]
  attrs := [(("Frac" : Str), ("bottom" : Str)), (("Frac" : Str), ("top" : Str)), (("Web" : Str), ("_ties" : Str)), (("Web" : Str), ("degrees" : Str)), (("Web" : Str), ("rows" : Str)), (("Web" : Str), ("size" : Str)), (("Web" : Str), ("volume" : Str))]
  xcs := xcs
  blt := ["abs", "bool", "enumerate", "int", "isinstance", "len", "list", "max", "range", "sum", "tuple", "zip"]
  gis := [("MOST_PLACES", 40), ("MOST_STEPS_shares", 60), ("MOST_WAYS", 1000), ("MOST_WEIGHT", 1000000000000000000000000000000)]
  exn := ["BadPlace", "Frac", "GapError", "OutOfRange"]
  kws := [(5, 2, ["ways"], [0, 1, 2]), (11, 0, ["steps", "web"], [1, 0])]
  math := [("gcd", "math.gcd"), ("lcm", "math.lcm")]
  mets := [("Frac", "__add__", 23), ("Web", "__add__", 4), ("Web", "__mul__", 19)]
  ops := ["Frac", "Web"]
  props := []
  dfs := [(24, [1])]
  kwo := [5]
def d0 : DefD := ⟨("law", none), "law", "law", defArgs (topS 74), defBody (topS 74), defScope (topS 74), [], []⟩
def d1 : DefD := ⟨("_law_asked", none), "_law_asked", "_law_asked", defArgs (topS 73), defBody (topS 73), defScope (topS 73), [], []⟩
def d2 : DefD := ⟨("_law_cell", none), "_law_cell", "_law_cell", defArgs (topS 56), defBody (topS 56), defScope (topS 56), [], []⟩
def d3 : DefD := ⟨("_law_refused", none), "_law_refused", "_law_refused", defArgs (topS 72), defBody (topS 72), defScope (topS 72), [], []⟩
def d4 : DefD := ⟨("Web", some "__add__"), "__add__", "Web.__add__", defArgs (methS (topS 36) 6), defBody (methS (topS 36) 6), defScope (methS (topS 36) 6), [], []⟩
def d5 : DefD := ⟨("sum_of", none), "sum_of", "sum_of", defArgs (topS 53), defBody (topS 53), defScope (topS 53), [], [("ways", .adr fun K => kwA K (fAd K ("sum_of", none)) "ways")]⟩
def d6 : DefD := ⟨("product", none), "product", "product", defArgs (topS 52), defBody (topS 52), defScope (topS 52), [], []⟩
def d7 : DefD := ⟨("_law_made", none), "_law_made", "_law_made", defArgs (topS 61), defBody (topS 61), defScope (topS 61), [], []⟩
def d8 : DefD := ⟨("_law_pair", none), "_law_pair", "_law_pair", defArgs (topS 59), defBody (topS 59), defScope (topS 59), [], []⟩
def d9 : DefD := ⟨("_law_rows", none), "_law_rows", "_law_rows", defArgs (topS 58), defBody (topS 58), defScope (topS 58), [], []⟩
def d10 : DefD := ⟨("_law_is_frac", none), "_law_is_frac", "_law_is_frac", defArgs (topS 64), defBody (topS 64), defScope (topS 64), [], []⟩
def d11 : DefD := ⟨("trace", none), "trace", "trace", defArgs (topS 49), defBody (topS 49), defScope (topS 49), [], []⟩
def d12 : DefD := ⟨("half", none), "half", "half", defArgs (topS 54), defBody (topS 54), defScope (topS 54), [], []⟩
def d13 : DefD := ⟨("_law_half_due", none), "_law_half_due", "_law_half_due", defArgs (topS 71), defBody (topS 71), defScope (topS 71), [], []⟩
def d14 : DefD := ⟨("_law_sum_due", none), "_law_sum_due", "_law_sum_due", defArgs (topS 70), defBody (topS 70), defScope (topS 70), [], []⟩
def d15 : DefD := ⟨("_law_raised", none), "_law_raised", "_law_raised", defArgs (topS 68), defBody (topS 68), defScope (topS 68), [], []⟩
def d16 : DefD := ⟨("_law_traces", none), "_law_traces", "_law_traces", defArgs (topS 67), defBody (topS 67), defScope (topS 67), [], []⟩
def d17 : DefD := ⟨("_law_whole", none), "_law_whole", "_law_whole", defArgs (topS 60), defBody (topS 60), defScope (topS 60), [], []⟩
def d18 : DefD := ⟨("mixed_web", none), "mixed_web", "mixed_web", defArgs (topS 38), defBody (topS 38), defScope (topS 38), [], []⟩
def d19 : DefD := ⟨("Web", some "__mul__"), "__mul__", "Web.__mul__", defArgs (methS (topS 36) 5), defBody (methS (topS 36) 5), defScope (methS (topS 36) 5), [], []⟩
def d20 : DefD := ⟨("Web", some "__init__"), "__init__", "Web.__init__", defArgs (methS (topS 36) 0), defBody (methS (topS 36) 0), defScope (methS (topS 36) 0), [], []⟩
def d21 : DefD := ⟨("_law_row", none), "_law_row", "_law_row", defArgs (topS 57), defBody (topS 57), defScope (topS 57), [], []⟩
def d22 : DefD := ⟨("_law_low", none), "_law_low", "_law_low", defArgs (topS 63), defBody (topS 63), defScope (topS 63), [], []⟩
def d23 : DefD := ⟨("Frac", some "__add__"), "__add__", "Frac.__add__", defArgs (methS (topS 20) 2), defBody (methS (topS 20) 2), defScope (methS (topS 20) 2), [], []⟩
def d24 : DefD := ⟨("Frac", some "__init__"), "__init__", "Frac.__init__", defArgs (methS (topS 20) 0), defBody (methS (topS 20) 0), defScope (methS (topS 20) 0), [.int (1)], []⟩
def d25 : DefD := ⟨("walked", none), "walked", "walked", defArgs (topS 47), defBody (topS 47), defScope (topS 47), [], []⟩
def d26 : DefD := ⟨("need_steps", none), "need_steps", "need_steps", defArgs (topS 42), defBody (topS 42), defScope (topS 42), [], []⟩
def d27 : DefD := ⟨("made_web", none), "made_web", "made_web", defArgs (topS 37), defBody (topS 37), defScope (topS 37), [], []⟩
def d28 : DefD := ⟨("_law_choices", none), "_law_choices", "_law_choices", defArgs (topS 69), defBody (topS 69), defScope (topS 69), [], []⟩
def d29 : DefD := ⟨("_law_stepped", none), "_law_stepped", "_law_stepped", defArgs (topS 66), defBody (topS 66), defScope (topS 66), [], []⟩
def d30 : DefD := ⟨("_law_shared", none), "_law_shared", "_law_shared", defArgs (topS 65), defBody (topS 65), defScope (topS 65), [], []⟩
def d31 : DefD := ⟨("_need_room", none), "_need_room", "_need_room", defArgs (topS 35), defBody (topS 35), defScope (topS 35), [], []⟩
def d32 : DefD := ⟨("_need_tied", none), "_need_tied", "_need_tied", defArgs (topS 34), defBody (topS 34), defScope (topS 34), [], []⟩
def d33 : DefD := ⟨("_need_symmetric", none), "_need_symmetric", "_need_symmetric", defArgs (topS 33), defBody (topS 33), defScope (topS 33), [], []⟩
def d34 : DefD := ⟨("_need_weights", none), "_need_weights", "_need_weights", defArgs (topS 32), defBody (topS 32), defScope (topS 32), [], []⟩
def d35 : DefD := ⟨("_need_square", none), "_need_square", "_need_square", defArgs (topS 31), defBody (topS 31), defScope (topS 31), [], []⟩
def d36 : DefD := ⟨("_law_gcd", none), "_law_gcd", "_law_gcd", defArgs (topS 62), defBody (topS 62), defScope (topS 62), [], []⟩
def d37 : DefD := ⟨("as_frac", none), "as_frac", "as_frac", defArgs (topS 18), defBody (topS 18), defScope (topS 18), [], []⟩
def d38 : DefD := ⟨("dealt", none), "dealt", "dealt", defArgs (topS 46), defBody (topS 46), defScope (topS 46), [], []⟩
def d39 : DefD := ⟨("begun", none), "begun", "begun", defArgs (topS 45), defBody (topS 45), defScope (topS 45), [], []⟩
def d40 : DefD := ⟨("step_numbers", none), "step_numbers", "step_numbers", defArgs (topS 44), defBody (topS 44), defScope (topS 44), [], []⟩
def d41 : DefD := ⟨("common_degree", none), "common_degree", "common_degree", defArgs (topS 43), defBody (topS 43), defScope (topS 43), [], []⟩
def fn : List DefD := [d0, d1, d2, d3, d4, d5, d6, d7, d8, d9, d10, d11, d12, d13, d14, d15, d16, d17, d18, d19, d20, d21, d22, d23, d24, d25, d26, d27, d28, d29, d30, d31, d32, d33, d34, d35, d36, d37, d38, d39, d40, d41]
def x0 : DefD := ⟨("OutOfRange", some "__init__"), "__init__", "OutOfRange.__init__", defArgs (methS (topS 7) 0), defBody (methS (topS 7) 0), defScope (methS (topS 7) 0), [], []⟩
def xfn : List DefD := [x0]
theorem row0 : RowOk f0 d0 := ⟨irOk0.symm, rfl, ⟨rfl, rfl, rfl, by decide +kernel, by decide +kernel, by decide +kernel, by decide +kernel⟩, by decide +kernel, .inl ⟨rfl, .plain rfl fun _ _ _ _ _ _ us hl => match us, hl with | [_], _ => rfl⟩⟩
theorem row1 : RowOk f1 d1 := ⟨irOk1.symm, rfl, ⟨rfl, rfl, rfl, by decide +kernel, by decide +kernel, by decide +kernel, by decide +kernel⟩, by decide +kernel, .inl ⟨rfl, .plain rfl fun _ _ _ _ _ _ us hl => match us, hl with | [_, _, _, _, _], _ => rfl⟩⟩
theorem row2 : RowOk f2 d2 := ⟨irOk2.symm, rfl, ⟨rfl, rfl, rfl, by decide +kernel, by decide +kernel, by decide +kernel, by decide +kernel⟩, by decide +kernel, .inl ⟨rfl, .plain rfl fun _ _ _ _ _ _ us hl => match us, hl with | [_, _], _ => rfl⟩⟩
theorem row3 : RowOk f3 d3 := ⟨irOk3.symm, rfl, ⟨rfl, rfl, rfl, by decide +kernel, by decide +kernel, by decide +kernel, by decide +kernel⟩, by decide +kernel, .inl ⟨rfl, .plain rfl fun _ _ _ _ _ _ us hl => match us, hl with | [_, _], _ => rfl⟩⟩
theorem row4 : RowOk f4 d4 := ⟨irOk4.symm, rfl, ⟨rfl, rfl, rfl, by decide +kernel, by decide +kernel, by decide +kernel, by decide +kernel⟩, by decide +kernel, .inl ⟨rfl, .plain rfl fun _ _ _ _ _ _ us hl => match us, hl with | [_, _], _ => rfl⟩⟩
theorem row5 : RowOk f5 d5 := ⟨irOk5.symm, rfl, ⟨rfl, rfl, rfl, by decide +kernel, by decide +kernel, by decide +kernel, by decide +kernel⟩, by decide +kernel, .inr ⟨by decide, rfl⟩⟩
theorem row6 : RowOk f6 d6 := ⟨irOk6.symm, rfl, ⟨rfl, rfl, rfl, by decide +kernel, by decide +kernel, by decide +kernel, by decide +kernel⟩, by decide +kernel, .inl ⟨rfl, .plain rfl fun _ _ _ _ _ _ us hl => match us, hl with | [_, _], _ => rfl⟩⟩
theorem row7 : RowOk f7 d7 := ⟨irOk7.symm, rfl, ⟨rfl, rfl, rfl, by decide +kernel, by decide +kernel, by decide +kernel, by decide +kernel⟩, by decide +kernel, .inl ⟨rfl, .plain rfl fun _ _ _ _ _ _ us hl => match us, hl with | [_], _ => rfl⟩⟩
theorem row8 : RowOk f8 d8 := ⟨irOk8.symm, rfl, ⟨rfl, rfl, rfl, by decide +kernel, by decide +kernel, by decide +kernel, by decide +kernel⟩, by decide +kernel, .inl ⟨rfl, .plain rfl fun _ _ _ _ _ _ us hl => match us, hl with | [_, _], _ => rfl⟩⟩
theorem row9 : RowOk f9 d9 := ⟨irOk9.symm, rfl, ⟨rfl, rfl, rfl, by decide +kernel, by decide +kernel, by decide +kernel, by decide +kernel⟩, by decide +kernel, .inl ⟨rfl, .plain rfl fun _ _ _ _ _ _ us hl => match us, hl with | [_, _, _], _ => rfl⟩⟩
theorem row10 : RowOk f10 d10 := ⟨irOk10.symm, rfl, ⟨rfl, rfl, rfl, by decide +kernel, by decide +kernel, by decide +kernel, by decide +kernel⟩, by decide +kernel, .inl ⟨rfl, .plain rfl fun _ _ _ _ _ _ us hl => match us, hl with | [_, _, _], _ => rfl⟩⟩
theorem row11 : RowOk f11 d11 := ⟨irOk11.symm, rfl, ⟨rfl, rfl, rfl, by decide +kernel, by decide +kernel, by decide +kernel, by decide +kernel⟩, by decide +kernel, .inl ⟨rfl, .plain rfl fun _ _ _ _ _ _ us hl => match us, hl with | [_, _], _ => rfl⟩⟩
theorem row12 : RowOk f12 d12 := ⟨irOk12.symm, rfl, ⟨rfl, rfl, rfl, by decide +kernel, by decide +kernel, by decide +kernel, by decide +kernel⟩, by decide +kernel, .inl ⟨rfl, .plain rfl fun _ _ _ _ _ _ us hl => match us, hl with | [_], _ => rfl⟩⟩
theorem row13 : RowOk f13 d13 := ⟨irOk13.symm, rfl, ⟨rfl, rfl, rfl, by decide +kernel, by decide +kernel, by decide +kernel, by decide +kernel⟩, by decide +kernel, .inl ⟨rfl, .plain rfl fun _ _ _ _ _ _ us hl => match us, hl with | [_, _], _ => rfl⟩⟩
theorem row14 : RowOk f14 d14 := ⟨irOk14.symm, rfl, ⟨rfl, rfl, rfl, by decide +kernel, by decide +kernel, by decide +kernel, by decide +kernel⟩, by decide +kernel, .inl ⟨rfl, .plain rfl fun _ _ _ _ _ _ us hl => match us, hl with | [_, _, _, _], _ => rfl⟩⟩
theorem row15 : RowOk f15 d15 := ⟨irOk15.symm, rfl, ⟨rfl, rfl, rfl, by decide +kernel, by decide +kernel, by decide +kernel, by decide +kernel⟩, by decide +kernel, .inl ⟨rfl, .plain rfl fun _ _ _ _ _ _ us hl => match us, hl with | [_, _], _ => rfl⟩⟩
theorem row16 : RowOk f16 d16 := ⟨irOk16.symm, rfl, ⟨rfl, rfl, rfl, by decide +kernel, by decide +kernel, by decide +kernel, by decide +kernel⟩, by decide +kernel, .inl ⟨rfl, .plain rfl fun _ _ _ _ _ _ us hl => match us, hl with | [_, _], _ => rfl⟩⟩
theorem row17 : RowOk f17 d17 := ⟨irOk17.symm, rfl, ⟨rfl, rfl, rfl, by decide +kernel, by decide +kernel, by decide +kernel, by decide +kernel⟩, by decide +kernel, .inl ⟨rfl, .plain rfl fun _ _ _ _ _ _ us hl => match us, hl with | [_], _ => rfl⟩⟩
theorem row18 : RowOk f18 d18 := ⟨irOk18.symm, rfl, ⟨rfl, rfl, rfl, by decide +kernel, by decide +kernel, by decide +kernel, by decide +kernel⟩, by decide +kernel, .inl ⟨rfl, .plain rfl fun _ _ _ _ _ _ us hl => match us, hl with | [_, _, _, _], _ => rfl⟩⟩
theorem row19 : RowOk f19 d19 := ⟨irOk19.symm, rfl, ⟨rfl, rfl, rfl, by decide +kernel, by decide +kernel, by decide +kernel, by decide +kernel⟩, by decide +kernel, .inl ⟨rfl, .plain rfl fun _ _ _ _ _ _ us hl => match us, hl with | [_, _], _ => rfl⟩⟩
theorem row20 : RowOk f20 d20 := ⟨irOk20.symm, rfl, ⟨rfl, rfl, rfl, by decide +kernel, by decide +kernel, by decide +kernel, by decide +kernel⟩, by decide +kernel, .inl ⟨rfl, .plain rfl fun _ _ _ _ _ _ us hl => match us, hl with | [_, _], _ => rfl⟩⟩
theorem row21 : RowOk f21 d21 := ⟨irOk21.symm, rfl, ⟨rfl, rfl, rfl, by decide +kernel, by decide +kernel, by decide +kernel, by decide +kernel⟩, by decide +kernel, .inl ⟨rfl, .plain rfl fun _ _ _ _ _ _ us hl => match us, hl with | [_, _, _, _], _ => rfl⟩⟩
theorem row22 : RowOk f22 d22 := ⟨irOk22.symm, rfl, ⟨rfl, rfl, rfl, by decide +kernel, by decide +kernel, by decide +kernel, by decide +kernel⟩, by decide +kernel, .inl ⟨rfl, .plain rfl fun _ _ _ _ _ _ us hl => match us, hl with | [_, _], _ => rfl⟩⟩
theorem row23 : RowOk f23 d23 := ⟨irOk23.symm, rfl, ⟨rfl, rfl, rfl, by decide +kernel, by decide +kernel, by decide +kernel, by decide +kernel⟩, by decide +kernel, .inl ⟨rfl, .plain rfl fun _ _ _ _ _ _ us hl => match us, hl with | [_, _], _ => rfl⟩⟩
theorem row24 : RowOk f24 d24 := ⟨irOk24.symm, rfl, ⟨rfl, rfl, rfl, by decide +kernel, by decide +kernel, by decide +kernel, by decide +kernel⟩, by decide +kernel, .inl ⟨rfl, .dfl (by decide) fun _ _ _ _ _ _ _ us its hl hi => match us, its, hl, hi with | [_, _, _], [_], _, _ => ⟨_, rfl, rfl⟩⟩⟩
theorem row25 : RowOk f25 d25 := ⟨irOk25.symm, rfl, ⟨rfl, rfl, rfl, by decide +kernel, by decide +kernel, by decide +kernel, by decide +kernel⟩, by decide +kernel, .inl ⟨rfl, .plain rfl fun _ _ _ _ _ _ us hl => match us, hl with | [_, _, _], _ => rfl⟩⟩
theorem row26 : RowOk f26 d26 := ⟨irOk26.symm, rfl, ⟨rfl, rfl, rfl, by decide +kernel, by decide +kernel, by decide +kernel, by decide +kernel⟩, by decide +kernel, .inl ⟨rfl, .plain rfl fun _ _ _ _ _ _ us hl => match us, hl with | [_], _ => rfl⟩⟩
theorem row27 : RowOk f27 d27 := ⟨irOk27.symm, rfl, ⟨rfl, rfl, rfl, by decide +kernel, by decide +kernel, by decide +kernel, by decide +kernel⟩, by decide +kernel, .inl ⟨rfl, .plain rfl fun _ _ _ _ _ _ us hl => match us, hl with | [_], _ => rfl⟩⟩
theorem row28 : RowOk f28 d28 := ⟨irOk28.symm, rfl, ⟨rfl, rfl, rfl, by decide +kernel, by decide +kernel, by decide +kernel, by decide +kernel⟩, by decide +kernel, .inl ⟨rfl, .plain rfl fun _ _ _ _ _ _ us hl => match us, hl with | [_], _ => rfl⟩⟩
theorem row29 : RowOk f29 d29 := ⟨irOk29.symm, rfl, ⟨rfl, rfl, rfl, by decide +kernel, by decide +kernel, by decide +kernel, by decide +kernel⟩, by decide +kernel, .inl ⟨rfl, .plain rfl fun _ _ _ _ _ _ us hl => match us, hl with | [_, _, _], _ => rfl⟩⟩
theorem row30 : RowOk f30 d30 := ⟨irOk30.symm, rfl, ⟨rfl, rfl, rfl, by decide +kernel, by decide +kernel, by decide +kernel, by decide +kernel⟩, by decide +kernel, .inl ⟨rfl, .plain rfl fun _ _ _ _ _ _ us hl => match us, hl with | [_], _ => rfl⟩⟩
theorem row31 : RowOk f31 d31 := ⟨irOk31.symm, rfl, ⟨rfl, rfl, rfl, by decide +kernel, by decide +kernel, by decide +kernel, by decide +kernel⟩, by decide +kernel, .inl ⟨rfl, .plain rfl fun _ _ _ _ _ _ us hl => match us, hl with | [_], _ => rfl⟩⟩
theorem row32 : RowOk f32 d32 := ⟨irOk32.symm, rfl, ⟨rfl, rfl, rfl, by decide +kernel, by decide +kernel, by decide +kernel, by decide +kernel⟩, by decide +kernel, .inl ⟨rfl, .plain rfl fun _ _ _ _ _ _ us hl => match us, hl with | [_], _ => rfl⟩⟩
theorem row33 : RowOk f33 d33 := ⟨irOk33.symm, rfl, ⟨rfl, rfl, rfl, by decide +kernel, by decide +kernel, by decide +kernel, by decide +kernel⟩, by decide +kernel, .inl ⟨rfl, .plain rfl fun _ _ _ _ _ _ us hl => match us, hl with | [_], _ => rfl⟩⟩
theorem row34 : RowOk f34 d34 := ⟨irOk34.symm, rfl, ⟨rfl, rfl, rfl, by decide +kernel, by decide +kernel, by decide +kernel, by decide +kernel⟩, by decide +kernel, .inl ⟨rfl, .plain rfl fun _ _ _ _ _ _ us hl => match us, hl with | [_], _ => rfl⟩⟩
theorem row35 : RowOk f35 d35 := ⟨irOk35.symm, rfl, ⟨rfl, rfl, rfl, by decide +kernel, by decide +kernel, by decide +kernel, by decide +kernel⟩, by decide +kernel, .inl ⟨rfl, .plain rfl fun _ _ _ _ _ _ us hl => match us, hl with | [_], _ => rfl⟩⟩
theorem row36 : RowOk f36 d36 := ⟨irOk36.symm, rfl, ⟨rfl, rfl, rfl, by decide +kernel, by decide +kernel, by decide +kernel, by decide +kernel⟩, by decide +kernel, .inl ⟨rfl, .plain rfl fun _ _ _ _ _ _ us hl => match us, hl with | [_, _], _ => rfl⟩⟩
theorem row37 : RowOk f37 d37 := ⟨irOk37.symm, rfl, ⟨rfl, rfl, rfl, by decide +kernel, by decide +kernel, by decide +kernel, by decide +kernel⟩, by decide +kernel, .inl ⟨rfl, .plain rfl fun _ _ _ _ _ _ us hl => match us, hl with | [_], _ => rfl⟩⟩
theorem row38 : RowOk f38 d38 := ⟨irOk38.symm, rfl, ⟨rfl, rfl, rfl, by decide +kernel, by decide +kernel, by decide +kernel, by decide +kernel⟩, by decide +kernel, .inl ⟨rfl, .plain rfl fun _ _ _ _ _ _ us hl => match us, hl with | [_, _], _ => rfl⟩⟩
theorem row39 : RowOk f39 d39 := ⟨irOk39.symm, rfl, ⟨rfl, rfl, rfl, by decide +kernel, by decide +kernel, by decide +kernel, by decide +kernel⟩, by decide +kernel, .inl ⟨rfl, .plain rfl fun _ _ _ _ _ _ us hl => match us, hl with | [_, _], _ => rfl⟩⟩
theorem row40 : RowOk f40 d40 := ⟨irOk40.symm, rfl, ⟨rfl, rfl, rfl, by decide +kernel, by decide +kernel, by decide +kernel, by decide +kernel⟩, by decide +kernel, .inl ⟨rfl, .plain rfl fun _ _ _ _ _ _ us hl => match us, hl with | [_], _ => rfl⟩⟩
theorem row41 : RowOk f41 d41 := ⟨irOk41.symm, rfl, ⟨rfl, rfl, rfl, by decide +kernel, by decide +kernel, by decide +kernel, by decide +kernel⟩, by decide +kernel, .inl ⟨rfl, .plain rfl fun _ _ _ _ _ _ us hl => match us, hl with | [_], _ => rfl⟩⟩
theorem rows : RowsOk fns fn := .cons row0 (.cons row1 (.cons row2 (.cons row3 (.cons row4 (.cons row5 (.cons row6 (.cons row7 (.cons row8 (.cons row9 (.cons row10 (.cons row11 (.cons row12 (.cons row13 (.cons row14 (.cons row15 (.cons row16 (.cons row17 (.cons row18 (.cons row19 (.cons row20 (.cons row21 (.cons row22 (.cons row23 (.cons row24 (.cons row25 (.cons row26 (.cons row27 (.cons row28 (.cons row29 (.cons row30 (.cons row31 (.cons row32 (.cons row33 (.cons row34 (.cons row35 (.cons row36 (.cons row37 (.cons row38 (.cons row39 (.cons row40 (.cons row41 (.nil))))))))))))))))))))))))))))))))))))))))))
theorem xrow0 : XRow ("OutOfRange", [("value", false)]) x0 := ⟨rfl, rfl, rfl, by decide, by decide +kernel, by decide, .cons rfl (by first | exact .name | exact .kept) (.nil rfl), ⟨rfl, rfl, rfl, by decide +kernel, by decide +kernel, by decide +kernel, by decide +kernel⟩, by decide +kernel, by decide +kernel, by decide +kernel, fun _ _ _ _ _ _ us hl => match us, hl with | [_, _], _ => rfl⟩
theorem xrows : ∀ (i : Nat) q, st.xcs[i]? = some q → ∃ d, xfn[i]? = some d ∧ XRow q d := fun i q h => by
  match i, h with
  | 0, h => cases h; exact ⟨x0, rfl, xrow0⟩
  | i + 1, h => cases h
theorem ok0 : (fns.all fun F => okSs st ⟨F.N, F.sc, true⟩ F.body) = true := by decide +kernel
theorem kw0 : ∃ d F, fn[5]? = some d ∧ fns[5]? = some F ∧ d.dfl = [] ∧ ∀ (kV doc pm : Value) (an : Option Addr) (cdv ct : Value) (us ws zs : List Value), us.length = 2 → ws.length = 1 → (([0, 1, 2] : List Nat).mapM fun i => (us ++ ws)[i]?) = some zs →
    bindArgs (PySem.W.fnOf d.name d.qual d.params d.body d.scope .none kV doc pm an cdv ct) ⟨us, (["ways"] : List Str).zip ws⟩ = pure ((F.N.take F.np).zip zs) :=
  ⟨d5, f5, rfl, rfl, rfl, fun _ _ _ _ _ _ us ws zs l1 l2 e => match us, ws, l1, l2, e with | [u0, u1], [w0], _, _, e => by cases e; rfl⟩
theorem kw1 : ∃ d F, fn[11]? = some d ∧ fns[11]? = some F ∧ d.dfl = [] ∧ ∀ (kV doc pm : Value) (an : Option Addr) (cdv ct : Value) (us ws zs : List Value), us.length = 0 → ws.length = 2 → (([1, 0] : List Nat).mapM fun i => (us ++ ws)[i]?) = some zs →
    bindArgs (PySem.W.fnOf d.name d.qual d.params d.body d.scope .none kV doc pm an cdv ct) ⟨us, (["steps", "web"] : List Str).zip ws⟩ = pure ((F.N.take F.np).zip zs) :=
  ⟨d11, f11, rfl, rfl, rfl, fun _ _ _ _ _ _ us ws zs l1 l2 e => match us, ws, l1, l2, e with | [], [w0, w1], _, _, e => by cases e; rfl⟩
theorem df0 : ∃ (d : DefD) (F : Fn) (j : Nat), fn[24]? = some d ∧ fns[24]? = some F ∧ d.dfl.drop j = ([1] : List Int).map Dv.int ∧ d.dfl ≠ [] ∧ ∃ n : Nat, n + (d.dfl.length - j) = (F.N.take F.np).length ∧
    ∀ (T : Addr) (kV doc pm : Value) (an : Option Addr) (cdv ct : Value) (us its : List Value), us.length = n → its.length = d.dfl.length →
      ∃ k, bindArgs (PySem.W.fnOf d.name d.qual d.params d.body d.scope (.ref T) kV doc pm an cdv ct) ⟨us, []⟩ = seqItems? (.ref T) >>= k ∧ k (some its.toArray) = pure ((F.N.take F.np).zip (us ++ its.drop j)) :=
  ⟨d24, f24, 0, rfl, rfl, rfl, by decide, 2, rfl, fun _ _ _ _ _ _ _ us its hl hi => match us, its, hl, hi with | [_, _], [_], _, _ => ⟨_, rfl, rfl⟩⟩
theorem mets0 : ∀ q ∈ st.mets, ∃ d F, fn[q.2.2]? = some d ∧ d.at_ = (q.1, some q.2.1) ∧ fns[q.2.2]? = some F := by
  intro q hq
  rcases List.mem_cons.mp hq with rfl | hq
  · exact ⟨d23, f23, rfl, rfl, rfl⟩
  rcases List.mem_cons.mp hq with rfl | hq
  · exact ⟨d4, f4, rfl, rfl, rfl⟩
  rcases List.mem_cons.mp hq with rfl | hq
  · exact ⟨d19, f19, rfl, rfl, rfl⟩
  cases hq
theorem stat : Stat st fns subs xfs inss fn xfn where
  T := rfl
  rows := rows
  xrows := xrows
  krow := fun h => absurd h (by decide +kernel)
  mets := mets0
  props := rfl
  dfs := fun q hq => by
    rcases List.mem_cons.mp hq with rfl | hq
    · exact df0
    cases hq
  tops := tops_by (by decide +kernel)
  hots := by decide +kernel
  kwo := kwo_by (by decide +kernel)
  kwoN := by decide +kernel
  cls := cls_by (by decide +kernel)
  exn := exn_by (by decide +kernel)
  kws := fun q hq => by
    rcases List.mem_cons.mp hq with rfl | hq
    · exact kw0
    rcases List.mem_cons.mp hq with rfl | hq
    · exact kw1
    cases hq
  ok := ok0
  hot := hot_by (by decide +kernel)
end K58
set_option Elab.async false
set_option linter.all false
set_option maxRecDepth 100000
set_option maxHeartbeats 2000000
/-! K58Web -/
namespace K58
open PySem PySem.Spec PyProof.Rows L2 MP DL
variable {n : Nat} {S : Store} {rows : List (List Int)} {r : R} {qs : List R}
theorem e_square (g : Tied rows) (hr : Rep S r rows qs) (h : WF S) : callN st.T (n + 1) 35 [r] S = .ok (.dat .non) S := by
  have hz := g.le
  have hy := g.ge
  refine run_q (F := f35) (fun x => x = .ok (.dat .non) S) rfl rfl ?_
  let P : SRes → Prop := fun x => sealS S.length x = .ok (.dat .non) S
  show P _
  refine p_asg (RI rows.length) (c_bi1 (hr.var _ _ rfl) hr.len) ?_
  refine w_if0 (c_or (x := decide ((rows.length : Int) < 1)) (y := decide ((40 : Int) < rows.length)) rfl rfl) (by rw [decide_eq_false (by omega), decide_eq_false (by omega)]; rfl) ?_
  refine w_wk (fun _ ρ => ∃ y, ρ = [some r, some (RI rows.length), y]) (hr.var _ _ rfl) hr.toWk ⟨none, rfl⟩ (fun k z ρ hz ⟨y, e⟩ => ?_) (fun ρ ⟨y, e⟩ => seal_next h)
  subst e
  have hk := hr.lt hz
  have h1 := hr.at_ k z hz
  exact w_if0 (t := !decide (((row rows k).length : Int) = rows.length)) (c_cmp (x := RI (row rows k).length) (y := RI rows.length) (c_bi1 (h1.var _ _ rfl) h1.len) rfl rfl) (by rw [g.sq _ (row_mem hk), decide_eq_true rfl]; rfl) ⟨rfl, _, rfl⟩
theorem e_weights (g : Tied rows) (hr : Rep S r rows qs) (h : WF S) : callN st.T (n + 1) 34 [r] S = .ok (.dat .non) S := by
  refine run_q (F := f34) (fun x => x = .ok (.dat .non) S) rfl rfl ?_
  let P : SRes → Prop := fun x => sealS S.length x = .ok (.dat .non) S
  show P _
  refine w_wk (fun _ ρ => ∃ y z, ρ = [some r, y, z]) (hr.var _ _ rfl) hr.toWk ⟨none, none, rfl⟩ (fun k q ρ hq ⟨y, z, e⟩ => ?_) (fun ρ ⟨y, z, e⟩ => seal_next h)
  subst e
  have hk := hr.lt hq
  have h1 := hr.at_ k q hq
  refine w_wk (fun _ ρ => ∃ z, ρ = [some r, some q, z]) (h1.var _ _ rfl) h1.toWk ⟨z, rfl⟩ (fun j w ρ hw ⟨z, e⟩ => ?_) (fun ρ ⟨z, e⟩ => ⟨rfl, _, _, e⟩)
  subst e
  obtain ⟨hj, rfl⟩ := row_rin hw
  have h4 := g.w _ (row_mem hk) _ (el_mem hj)
  exact w_if0 (c_or (x := decide (el (row rows k) j < 0)) (y := decide (1000000000000000000000000000000 < el (row rows k) j)) rfl rfl) (by rw [decide_eq_false (by omega), decide_eq_false (by omega)]; rfl) ⟨rfl, _, rfl⟩
theorem e_symm (g : Tied rows) (hr : Rep S r rows qs) (h : WF S) : callN st.T (n + 1) 33 [r] S = .ok (.dat .non) S := by
  refine run_q (F := f33) (fun x => x = .ok (.dat .non) S) rfl rfl ?_
  let P : SRes → Prop := fun x => sealS S.length x = .ok (.dat .non) S
  show P _
  refine w_en (fun _ ρ => ∃ y z u v, ρ = [some r, y, z, u, v]) (hr.var _ _ rfl) hr.toLst ⟨none, none, none, none, rfl⟩ (fun k q ρ hq ⟨y, z, u, v, e⟩ => ?_) (fun ρ ⟨y, z, u, v, e⟩ => seal_next h)
  subst e
  have hk := hr.lt hq
  have h1 := hr.at_ k q hq
  refine w_en (fun _ ρ => ∃ y z, ρ = [some r, some (RI (k : Int)), some q, y, z]) (h1.var _ _ rfl) h1 ⟨u, v, rfl⟩ (fun j w ρ hw ⟨y, z, e⟩ => ?_) (fun ρ ⟨y, z, e⟩ => ⟨rfl, _, _, _, _, e⟩)
  subst e
  obtain ⟨hj, rfl⟩ := row_rin hw
  have h5 : j < rows.length := by rw [← g.sq _ (row_mem hk)]; exact hj
  have h4 := g.sym k j hk h5
  obtain ⟨q2, i1, h2⟩ := hr.ix h5
  exact w_if0 (t := !decide (el (row rows k) j = el (row rows j) k)) (c_cmp (x := RI (el (row rows k) j)) (y := RI (el (row rows j) k)) rfl (c_ix (c_ix (hr.var _ _ rfl) rfl i1) rfl (h2.ix (by rw [g.sq _ (row_mem h5)]; exact hk))) rfl) (by rw [decide_eq_true h4]; rfl) ⟨rfl, _, _, rfl⟩
theorem e_tied (g : Tied rows) (hr : Rep S r rows qs) (h : WF S) : callN st.T (n + 1) 32 [r] S = .ok (.dat .non) S := by
  refine run_q (F := f32) (fun x => x = .ok (.dat .non) S) rfl rfl ?_
  let P : SRes → Prop := fun x => sealS S.length x = .ok (.dat .non) S
  show P _
  refine w_en (fun _ ρ => ∃ y z, ρ = [some r, y, z]) (hr.var _ _ rfl) hr.toLst ⟨none, none, rfl⟩ (fun k q ρ hq ⟨y, z, e⟩ => ?_) (fun ρ ⟨y, z, e⟩ => seal_next h)
  subst e
  have hk := hr.lt hq
  have h1 := hr.at_ k q hq
  have h4 := g.pos _ (row_mem hk)
  exact w_if0 (t := decide ((row rows k).sum = 0)) (c_cmp (x := RI (row rows k).sum) (y := RI 0) (c_bi1 (h1.var _ _ rfl) h1.sum) rfl rfl) (decide_eq_false (by omega)) ⟨rfl, _, _, rfl⟩
theorem e_ties (g : Tied rows) (hr : Rep S r rows qs) {C : Calls} {s : Option R} : evE C e20_0 [s, some r, none, none, none, none] S = .ok (.dat (.lst (tiesOf rows))) S := by
  have hz := g.le
  unfold e20_0 tiesOf
  refine Eq.trans (lc2_fl (B := 40) (N := fun _ => rows.length) (G := fun i j => if i ≤ j ∧ 0 < el (row rows i) j then [D.tup [.int i, .int j, .int (el (row rows i) j)]] else []) (ii_en (hr.var _ 1 rfl) hr.toLst) hr.gd (fun i x hx => ?_) (by rw [DL.enum_len, hr.len']; omega)) (by rw [DL.enum_len, hr.len'])
  obtain ⟨q, h1, rfl⟩ := enum_at hx
  have hi := hr.lt h1
  have h2 := hr.at_ i q h1
  rw [Nat.zero_add]
  refine ⟨[s, some r, some (RI (i : Int)), some q, none, none], rfl, _, _, ii_en (h2.var _ 3 rfl) h2, h2.gd, by rw [DL.enum_len, List.length_map, List.length_map, g.sq _ (row_mem hi)], hz, fun j y hy => ?_⟩
  obtain ⟨w, k1, rfl⟩ := enum_at hy
  obtain ⟨hj, rfl⟩ := row_rin k1
  rw [Nat.zero_add]
  refine ⟨[s, some r, some (RI (i : Int)), some q, some (RI (j : Int)), some (RI (el (row rows i) j))], rfl, decide ((i : Int) ≤ j) && decide (0 < el (row rows i) j), ?_, fun t => ⟨.tup [.int i, .int j, .int (el (row rows i) j)], rfl, ?_⟩, fun t => ?_⟩
  · show MP.M.bind (evE C _ _) truB S = _
    rw [bind_at (c_and (x := decide ((i : Int) ≤ j)) (y := decide (0 < el (row rows i) j)) rfl rfl)]
    rfl
  · rw [Bool.and_eq_true, decide_eq_true_iff, decide_eq_true_iff] at t
    rw [if_pos ⟨by omega, t.2⟩]
  · rw [if_neg]
    intro z
    rw [decide_eq_true (by omega), decide_eq_true z.2] at t
    cases t
theorem e_tups (hr : Rep S r rows qs) {C : Calls} {s : Option R} (hz : rows.length ≤ 1000000) : evE C e20_2 [s, some r, none, none, none, none] S = .ok (.dat (.lst (rows.map TL))) S := by
  rw [map_row]
  exact lc_wk (hr.var _ 1 rfl) hr.toWk hr.len' (fun k z hz => c_bi1 ((hr.at_ k z hz).var _ 3 rfl) (hr.at_ k z hz).tuple) hz
theorem e_degs (hr : Rep S r rows qs) {C : Calls} {s : Option R} (hz : rows.length ≤ 1000000) : evE C e20_1 [s, some r, none, none, none, none] S = .ok (.dat (.lst ((degs rows).map D.int))) S := by
  unfold degs
  rw [List.map_map, map_row]
  exact lc_wk (hr.var _ 1 rfl) hr.toWk hr.len' (fun k z hz => c_bi1 ((hr.at_ k z hz).var _ 3 rfl) (hr.at_ k z hz).sum) hz
theorem e_init (g : Tied rows) (hr : Rep S r rows qs) (h : WF S) : callN st.T (n + 2) 20 [.own S.length, r] (S ++ [.obj "Web" [] []]) = .ok (.dat .non) (S ++ [Cell.obj "Web" ["rows", "size", "degrees", "volume", "_ties"] ([.tup (rows.map TL), .int rows.length, TL (degs rows), .int (degs rows).sum, .tup (tiesOf rows)].map R.dat)]) := by
  have hz := g.le
  have w0 : WF (S ++ [.obj "Web" [] []]) := wf_push h (below_dats [])
  have up : ∀ c, Rep (S ++ [c]) r rows qs := fun c => hr.mono Kp.app
  refine run_q (F := f20) (fun x => x = .ok (.dat .non) (S ++ [Cell.obj "Web" ["rows", "size", "degrees", "volume", "_ties"] ([.tup (rows.map TL), .int rows.length, TL (degs rows), .int (degs rows).sum, .tup (tiesOf rows)].map R.dat)])) rfl rfl ?_
  let P : SRes → Prop := fun x => sealS (S ++ [Cell.obj "Web" [] []]).length x = .ok (.dat .non) (S ++ [Cell.obj "Web" ["rows", "size", "degrees", "volume", "_ties"] ([.tup (rows.map TL), .int rows.length, TL (degs rows), .int (degs rows).sum, .tup (tiesOf rows)].map R.dat)])
  show P _
  refine w_expr (c_call1 ((up _).var _ 1 rfl) (e_square (n := n) g (up _) w0)) ?_
  refine w_expr (c_call1 ((up _).var _ 1 rfl) (e_weights (n := n) g (up _) w0)) ?_
  refine w_expr (c_call1 ((up _).var _ 1 rfl) (e_symm (n := n) g (up _) w0)) ?_
  refine w_expr (c_call1 ((up _).var _ 1 rfl) (e_tied (n := n) g (up _) w0)) ?_
  refine w_fld rfl (c_bi1 (e_tups (up _) (by omega)) tup_dat) (by decide) ?_
  refine w_fld rfl (c_bi1 ((up _).var _ 1 rfl) (up _).len) (by show 1 < 900; decide) ?_
  refine w_fld rfl (c_bi1 (e_degs (up _) (by omega)) tup_dat) (by show 2 < 900; decide) ?_
  refine w_fld rfl (v := RI (degs rows).sum) (c_bi1 (v := .dat (TL (degs rows))) (S1 := S ++ [_]) ?_ sum_tup) (by show 3 < 900; decide) ?_
  · refine c_attr (x := .own S.length) rfl ?_
    unfold attrR
    simp only [get_last]
    rfl
  refine w_fld rfl (c_bi1 (e_ties g (up _)) tup_dat) (by show 4 < 900; decide) ?_
  exact seal_obj (c := "Web") (ns := ["rows", "size", "degrees", "volume", "_ties"]) (ds := [.tup (rows.map TL), .int rows.length, TL (degs rows), .int (degs rows).sum, .tup (tiesOf rows)]) h
theorem e_make (g : Tied rows) (hr : Rep S r rows qs) (h : WF S) : makeR (st.T.C (n + 2)).toCalls false 20 "Web" [r] S = .ok (.dat (webOf rows)) S := make_dat h (e_init (n := n) g hr h)

end K58
set_option Elab.async false
set_option linter.all false
set_option maxRecDepth 100000
set_option maxHeartbeats 2000000
/-! K58Frac -/
namespace K58
open PySem PySem.Spec PyProof.Rows L2 MP DL
variable {n : Nat} {S : Store} {x y t b u v : Int}
theorem e_fracI (hy : 0 < y) {k : Nat} (hk : Sm k y) (hk2 : k < 9000) (h : WF S) : callN st.T (n + 1) 24 [.own S.length, RI x, RI y] (S ++ [.obj "Frac" [] []]) = .ok (.dat .non) (S ++ [Cell.obj "Frac" ["top", "bottom"] ([D.int (x / gc x y), .int (y / gc x y)].map R.dat)]) := by
  refine run_q (F := f24) (fun z => z = .ok (.dat .non) (S ++ [Cell.obj "Frac" ["top", "bottom"] ([D.int (x / gc x y), .int (y / gc x y)].map R.dat)])) rfl rfl ?_
  let P : SRes → Prop := fun z => sealS (S ++ [Cell.obj "Frac" [] []]).length z = .ok (.dat .non) (S ++ [Cell.obj "Frac" ["top", "bottom"] ([D.int (x / gc x y), .int (y / gc x y)].map R.dat)])
  show P _
  refine w_if0 (t := decide (y = 0)) rfl (decide_eq_false (by omega)) ?_
  refine p_asg (RI (gc x y)) (c_gcd (x := RI x) (y := RI y) rfl rfl rfl) ?_
  refine w_if0 (t := decide (y < 0)) rfl (decide_eq_false (by omega)) ?_
  have d := gc_div (x := x) hy hk hk2
  refine w_fld rfl (c_div (i := x) (j := gc x y) rfl rfl d) (by decide) ?_
  refine w_fld rfl (c_div (i := y) (j := gc x y) rfl rfl d) (by show 1 < 900; decide) ?_
  exact seal_obj (c := "Frac") (ns := ["top", "bottom"]) (ds := [D.int (x / gc x y), .int (y / gc x y)]) h
theorem e_frac (hy : 0 < y) {k : Nat} (hk : Sm k y) (hk2 : k < 9000) (h : WF S) : makeR (st.T.C (n + 1)).toCalls false 24 "Frac" [RI x, RI y] S = .ok (.dat (F x y)) S := make_dat h (e_fracI (n := n) hy hk hk2 h)
theorem e_asf (h : WF S) : callN st.T (n + 1) 37 [.dat (frD t b)] S = .ok (.dat (frD t b)) S :=
  run_ret (F := f37) rfl rfl h (w_if1 (t := true) rfl rfl (p_ret rfl))
theorem e_fadd (hb : 0 < b) (hv : 0 < v) {kt kb ku kv : Nat} (h1 : Sm kt t) (h2 : Sm kb b) (h3 : Sm ku u) (h4 : Sm kv v) (hk1 : kt + kv ≤ 999999) (hk2 : ku + kb ≤ 999999) (hk : kb + kv < 9000) (h : WF S) :
    callN st.T (n + 2) 23 [.dat (frD t b), .dat (frD u v)] S = .ok (.dat (F (t * v + u * b) (b * v))) S := by
  refine run_ret (F := f23) rfl rfl h ?_
  refine p_asg (.dat (frD u v)) (c_call1 rfl (e_asf (n := n) h)) ?_
  refine p_ret (c_make2 (v := RI (t * v + u * b)) (w := RI (b * v)) (c_add (c_mul rfl rfl (mulOk_of h1 h4 hk1)) (c_mul rfl rfl (mulOk_of h3 h2 hk2))) (c_mul rfl rfl (mulOk_of h2 h4 (by omega))) ?_)
  exact e_frac (n := n) (Int.mul_pos hb hv) (h2.mul h4) hk h

end K58
set_option Elab.async false
set_option linter.all false
set_option maxRecDepth 100000
set_option maxHeartbeats 2000000
/-! K58Walk -/
namespace K58
open PySem PySem.Spec PyProof.Rows L2 MP DL
variable {n : Nat} {S : Store} {rows : List (List Int)} {kd : Nat}
theorem a_rows : attrR (.dat (webOf rows)) "Web" "rows" S = .ok (.dat (.tup (rows.map TL))) S := rfl
theorem a_size : attrR (.dat (webOf rows)) "Web" "size" S = .ok (RI rows.length) S := rfl
theorem a_degs : attrR (.dat (webOf rows)) "Web" "degrees" S = .ok (.dat (TL (degs rows))) S := rfl
theorem a_vol : attrR (.dat (webOf rows)) "Web" "volume" S = .ok (RI (degs rows).sum) S := rfl
theorem e_nsteps {k : Nat} (hk : k ≤ 60) (h : WF S) : callN st.T (n + 1) 26 [RI (k : Int)] S = .ok (.dat .non) S := by
  refine run_q (F := f26) (fun x => x = .ok (.dat .non) S) rfl rfl ?_
  let P : SRes → Prop := fun x => sealS S.length x = .ok (.dat .non) S
  show P _
  exact w_if0 (c_or (x := decide ((k : Int) < 0)) (y := decide ((60 : Int) < k)) rfl rfl) (by rw [decide_eq_false (by omega), decide_eq_false (by omega)]; rfl) (seal_next h)
theorem e_nstepsX {k : Int} (hk : k < 0 ∨ 60 < k) (h : WF S) : callN st.T (n + 1) 26 [RI k] S = .exc "OutOfRange" ["value"] [.int k] S := by
  refine run_q (F := f26) (fun x => x = .exc "OutOfRange" ["value"] [.int k] S) rfl rfl ?_
  let P : SRes → Prop := fun x => sealS S.length x = .exc "OutOfRange" ["value"] [.int k] S
  show P _
  refine w_if1 (c_or (x := decide (k < 0)) (y := decide (60 < k)) rfl rfl) (by rcases hk with h | h <;> simp [h]) ?_
  exact w_raise1 (S1 := S) (X := ⟨[("value", false)]⟩) rfl rfl rfl (seal_exc h)
theorem e_common (g : Net rows kd) (h : WF S) : callN st.T (n + 1) 41 [.dat (webOf rows)] S = .ok (RI (whole rows)) S := by
  refine run_ret (F := f41) rfl rfl h ?_
  refine p_asg (RI 1) rfl ?_
  have hb := g.b1
  have hk := g.kd_le
  refine w_wk (xs := ((degs rows).map D.int).map R.dat) (fun i ρ => i ≤ rows.length ∧ ∃ y, ρ = [some (.dat (webOf rows)), some (RI (cdeg ((degs rows).take i))), y]) (c_attr (x := .dat (webOf rows)) rfl a_degs) Wk.tup ⟨Nat.zero_le _, none, rfl⟩ (fun i z ρ hz ⟨hi, y, e⟩ => ?_) (fun ρ ⟨hi, y, e⟩ => ?_)
  · subst e
    obtain ⟨hj, rfl⟩ := row_rin hz
    rw [List.length_map] at hj
    have hd : (degs rows)[i]? = some (el (degs rows) i) := by
      unfold el
      rw [List.getElem?_eq_getElem (by rw [List.length_map]; exact hj)]
      rfl
    have s1 := cdeg_sm g.ds i (by rw [List.length_map]; exact hi)
    have s2 := g.ds _ (el_mem (by rw [List.length_map]; exact hj))
    have b3 : kd * i ≤ kd * rows.length := Nat.mul_le_mul_left kd hi
    refine p_asg (RI (cdeg ((degs rows).take (i + 1)))) ?_ ⟨rfl, hj, _, rfl⟩
    rw [cdeg_take hd]
    exact c_gcd (x := RI (cdeg ((degs rows).take i))) (y := RI (el (degs rows) i)) rfl rfl (lcm_run (by have := s1.log; omega) (by have := s2.log; omega))
  · subst e
    have e2 : (degs rows).take (((degs rows).map D.int).map R.dat).length = degs rows := by
      rw [List.length_map, List.length_map, List.take_length]
    rw [e2]
    exact p_ret rfl
theorem e_steps (g : Net rows kd) (h : WF S) : callN st.T (n + 2) 40 [.dat (webOf rows)] S = .ok (RM (stepRows rows)) S := by
  refine run_ret (F := f40) rfl rfl h ?_
  refine p_asg (RI (whole rows)) (c_call1 rfl (e_common (n := n) g h)) ?_
  refine p_ret ?_
  have hz := g.le
  unfold stepRows
  rw [show IL = fun x => IL x from rfl, List.map_map]
  refine lc_zp (xs := (rows.map TL).map R.dat) (ys := ((degs rows).map D.int).map R.dat) (G := fun k => IL ((List.range rows.length).map fun j => el (row rows k) j * (whole rows / (row rows k).sum))) (c_attr (x := .dat (webOf rows)) rfl a_rows) (c_attr (x := .dat (webOf rows)) rfl a_degs) Wk.tup Wk.tup (by rw [List.length_map, List.length_map]) (by rw [List.length_map, List.length_map, List.length_map]) (fun k z z' hz1 hz2 => ?_) (by omega)
  rw [List.getElem?_map] at hz1 hz2
  cases h1 : (rows.map TL)[k]? with
  | none => rw [h1] at hz1; cases hz1
  | some d =>
    rw [h1] at hz1
    cases hz1
    obtain ⟨hk, rfl⟩ := tl_at h1
    cases h2 : ((degs rows).map D.int)[k]? with
    | none => rw [h2] at hz2; cases hz2
    | some d =>
      rw [h2] at hz2
      cases hz2
      obtain ⟨_, rfl⟩ := dg_at h2
      rw [show IL ((List.range rows.length).map fun j => el (row rows k) j * (whole rows / (row rows k).sum)) = .lst ((List.range rows.length).map fun j => D.int (el (row rows k) j * (whole rows / (row rows k).sum))) by show D.lst _ = _; rw [List.map_map]; rfl]
      have hl := g.sq _ (row_mem hk)
      refine lc_wk (xs := ((row rows k).map D.int).map R.dat) (q := .dat (TL (row rows k))) rfl Wk.tup (by rw [List.length_map, List.length_map]; exact hl) (fun j z hz => ?_) (by omega)
      obtain ⟨hj, rfl⟩ := row_rin hz
      have m1 : mulOk (el (row rows k) j) (whole rows / (row rows k).sum) = true := mulOk_of (g.elw (row_mem hk) (el_mem hj)) (div_sm g.ws (g.pos _ (row_mem hk))) (by have := g.b1; have := g.kd_le; have hc : cb rows kd = 1 + kd * rows.length := rfl; omega)
      exact c_mul rfl (c_div rfl rfl (g.div (row_mem hk))) m1
theorem e_begun {b : Nat} (hz : rows.length ≤ 1000000) (h : WF S) : callN st.T (n + 1) 39 [.dat (webOf rows), RI (b : Int)] S = .ok (RL (unit rows.length b)) S := by
  refine run_ret (F := f39) rfl rfl h (p_ret ?_)
  unfold unit
  rw [RL_map]
  refine lc_rng (lo := 0) (ii_rng1 (c_attr (x := .dat (webOf rows)) rfl a_size) hz) (fun k hk => ?_) hz
  refine (c_bi1 (v := .dat (.bl (decide ((0 + (k : Int)) = (b : Int))))) rfl rfl).trans ?_
  by_cases hb : k = b
  · subst hb
    rw [decide_eq_true (by omega), if_pos rfl]
    rfl
  · rw [decide_eq_false (by omega), if_neg hb]
    rfl
theorem e_deal {rs : List (List Int)} {ns : List Int} {k1 k2 : Nat} (hn : ns.length = rs.length) (hq : ∀ r ∈ rs, r.length = rs.length) (hz : rs.length ≤ 1000000) (ha : ∀ x ∈ ns, Sm k1 x) (hb : ∀ r ∈ rs, ∀ x ∈ r, Sm k2 x) (hk : k1 + k2 ≤ 999999) (h : WF S) :
    callN st.T (n + 1) 38 [RM rs, RL ns] S = .ok (RL (deal rs ns)) S := by
  refine run_ret (F := f38) rfl rfl h (p_ret ?_)
  unfold deal
  rw [RL_map]
  refine lc_rng (lo := 0) (ii_rng1 (c_bi1 (v := RM rs) rfl Rep.dat.len) hz) (fun p hp => ?_) hz
  refine c_bi1 (v := .dat (.lst ((List.range rs.length).map fun k => D.int (el ns k * el (row rs k) p)))) ?_ sum_rng
  refine lc_zp (xs := (ns.map D.int).map R.dat) (ys := (rs.map IL).map R.dat) (q := RL ns) (q' := RM rs) rfl rfl Lst.dat.toWk Lst.dat.toWk (by rw [List.length_map, List.length_map]; exact hn) (by rw [List.length_map, List.length_map]) (fun k z z' h1 h2 => ?_) hz
  obtain ⟨hk1, rfl⟩ := row_rin h1
  obtain ⟨hk2, rfl⟩ := il_at h2
  have hp2 : p < (row rs k).length := by rw [hq _ (row_mem hk2)]; exact hp
  refine c_mul rfl (c_ix (x := RL (row rs k)) (y := RI (0 + (p : Int))) rfl rfl ?_) (mulOk_of (ha _ (el_mem hk1)) (hb _ (row_mem hk2) _ (el_mem hp2)) hk)
  rw [Int.zero_add]
  exact RowR.dat.ix hp2
theorem e_walked (g : Net rows kd) {b t : Nat} (ht : t ≤ 60) (hk : 1 + sb rows kd * (t + 1) ≤ 999990) (h : WF S) : callN st.T (n + 3) 25 [.dat (webOf rows), RI (b : Int), RI (t : Int)] S = .ok (.dat (.tup [IL (pw rows b t), .int (sc rows t)])) S := by
  have hz := g.le
  have hs : sb rows kd = kd + cb rows kd + 6 := rfl
  rw [Nat.mul_succ] at hk
  refine run_ret (F := f25) rfl rfl h ?_
  refine p_asg (RI (whole rows)) (c_call1 rfl (e_common (n := n + 1) g h)) ?_
  refine p_asg (RM (stepRows rows)) (c_call1 rfl (e_steps (n := n) g h)) ?_
  refine p_asg (RL (unit rows.length b)) (c_call2 rfl rfl (e_begun (n := n + 1) (by omega) h)) ?_
  refine p_asg (RI 1) rfl ?_
  refine w_rg (n := t) (lo := 0) (fun k ρ => ∃ y, ρ = [some (.dat (webOf rows)), some (RI (b : Int)), some (RI (t : Int)), some (RI (whole rows)), some (RM (stepRows rows)), some (RL (pw rows b k)), some (RI (sc rows k)), y]) (ii_rng1 (n := t) rfl (by omega)) ⟨none, rfl⟩ (fun k ρ hk1 ⟨y, e⟩ => ?_) (fun ρ ⟨y, e⟩ => ?_)
  · subst e
    have z1 : sb rows kd * k ≤ sb rows kd * t := Nat.mul_le_mul_left _ (by omega)
    have z2 : cb rows kd * k ≤ sb rows kd * k := Nat.mul_le_mul_right _ (by omega)
    refine p_asg (RL (pw rows b (k + 1))) (c_call2 rfl rfl (e_deal (n := n + 1) (k1 := 1 + sb rows kd * k) (k2 := kd + cb rows kd) (by rw [pw_len, sr_len]) (fun r hr => sr_sq hr) (by rw [sr_len]; omega) (pw_sm g b k) (fun r hr => sr_sm g hr) (by omega) h)) ?_
    exact p_asg (RI (sc rows (k + 1))) (c_mul rfl rfl (mulOk_of (sc_sm g k) g.ws (by omega))) ⟨rfl, _, rfl⟩
  · subst e
    exact p_ret (c_tup2 rfl rfl)

end K58
set_option Elab.async false
set_option linter.all false
set_option maxRecDepth 100000
set_option maxHeartbeats 2000000
/-! K58Trace -/
namespace K58
open PySem PySem.Spec PyProof.Rows L2 MP DL
variable {n : Nat} {S : Store} {rows : List (List Int)} {kd : Nat}
/-- what is asked of the bits for t steps: whole has c bits -/
structure Fits (rows : List (List Int)) (kd c t : Nat) : Prop where
  t60 : t ≤ 60
  ws : Sm c (whole rows)
  mul : 2 * (1 + sb rows kd * (t + 1)) + sb rows kd + 20 ≤ 999990
  bot : 2 * (1 + c * t) < 9000
theorem e_trace (g : Net rows kd) {t : Nat} {c : Nat} (f : Fits rows kd c t) (h : WF S) : callN st.T (n + 4) 11 [.dat (webOf rows), RI (t : Int)] S = .ok (.dat (F (trc rows t) (sc rows t))) S := by
  have hs : sb rows kd = kd + cb rows kd + 6 := rfl
  have f1 := f.mul
  have f2 := f.bot
  have hz := g.le
  have f3 : sb rows kd * (t + 1) = sb rows kd * t + sb rows kd := Nat.mul_succ _ _
  have sp := sc_pos g.pos t
  have ss := gp_sm f.ws t
  refine run_ret (F := f11) rfl rfl h ?_
  refine w_expr (c_call1 rfl (e_nsteps (n := n + 2) f.t60 h)) ?_
  refine p_asg (.dat (F 0 1)) (c_makeD1 (v := RI 0) rfl (e_frac (n := n + 2) (x := 0) (y := 1) (k := 1) (by decide) (by show (1 : Int).natAbs < 2 ^ 1; decide) (by decide) h)) ?_
  rw [F_eq (v := sc rows t) (u := 0) (by decide : (0 : Int) < 1) sp (by rw [Int.zero_mul, Int.zero_mul])]
  refine w_rg (n := rows.length) (lo := 0) (fun k ρ => ∃ y z w, ρ = [some (.dat (webOf rows)), some (RI (t : Int)), some (.dat (F (sm k fun s => el (pw rows s t) s) (sc rows t))), y, z, w]) (ii_rng1 (n := rows.length) (c_attr (x := .dat (webOf rows)) rfl a_size) (by omega)) ⟨none, none, none, rfl⟩ (fun k ρ hk ⟨y, z, w, e⟩ => ?_) (fun ρ ⟨y, z, w, e⟩ => ?_)
  · subst e
    rw [Int.zero_add]
    refine w_two (c_call3 rfl rfl rfl (e_walked (n := n) (b := k) g f.t60 (by omega) h)) ?_
    have xs : Sm (1 + sb rows kd * t + 6) (sm k fun s => el (pw rows s t) s) := sm_sm (fun i hi => pw_sm g i t _ (el_mem (by rw [pw_len]; omega))) (by omega)
    have us : Sm (1 + sb rows kd * t) (el (pw rows k t) k) := pw_sm g k t _ (el_mem (by rw [pw_len]; exact hk))
    refine p_asg (.dat (F (sm (k + 1) fun s => el (pw rows s t) s) (sc rows t))) ?_ ⟨rfl, _, _, _, rfl⟩
    have q := e_fadd (n := n + 1) (S := S) (t := (sm k fun s => el (pw rows s t) s) / gc (sm k fun s => el (pw rows s t) s) (sc rows t)) (b := sc rows t / gc (sm k fun s => el (pw rows s t) s) (sc rows t)) (u := el (pw rows k t) k / gc (el (pw rows k t) k) (sc rows t)) (v := sc rows t / gc (el (pw rows k t) k) (sc rows t)) (bt_pos sp) (bt_pos sp) (div_sm xs (gc_pos sp)) (div_sm ss (gc_pos sp)) (div_sm us (gc_pos sp)) (div_sm ss (gc_pos sp)) (by omega) (by omega) (by omega) h
    rw [F_add sp sp (w := sm (k + 1) fun s => el (pw rows s t) s) sp (by rw [sm_succ]; grind)] at q
    exact c_opm rfl (c_make2 (c_ix (x := RL (pw rows k t)) (y := RI (k : Int)) rfl rfl (RowR.dat.ix (by rw [pw_len]; exact hk))) rfl (e_frac (n := n + 2) sp ss (by omega) h)) q
  · subst e
    exact p_ret rfl
theorem e_traceX {t : Int} (ht : t < 0 ∨ 60 < t) (h : WF S) : callN st.T (n + 2) 11 [.dat (webOf rows), RI t] S = .exc "OutOfRange" ["value"] [.int t] S := by
  refine run_q (F := f11) (fun x => x = .exc "OutOfRange" ["value"] [.int t] S) rfl rfl ?_
  let P : SRes → Prop := fun x => sealS S.length x = .exc "OutOfRange" ["value"] [.int t] S
  show P _
  exact w_exprX (c_call1 rfl (e_nstepsX (n := n) ht h)) (seal_exc h)

end K58
set_option Elab.async false
set_option linter.all false
set_option maxRecDepth 100000
set_option maxHeartbeats 2000000
/-! K58Built -/
namespace K58
open PySem PySem.Spec PyProof.Rows L2 MP DL
variable {n : Nat} {S : Store} {rows A B : List (List Int)} {r : R} {qs : List R}
theorem e_room {k : Nat} (hk : k ≤ 40) (h : WF S) : callN st.T (n + 1) 31 [RI (k : Int)] S = .ok (.dat .non) S := by
  refine run_q (F := f31) (fun x => x = .ok (.dat .non) S) rfl rfl ?_
  let P : SRes → Prop := fun x => sealS S.length x = .ok (.dat .non) S
  show P _
  exact w_if0 (t := decide ((40 : Int) < k)) rfl (decide_eq_false (by omega)) (seal_next h)
theorem e_made (g : Tied rows) (hr : Rep S r rows qs) (h : WF S) : callN st.T (n + 3) 27 [r] S = .ok (.dat (webOf rows)) S := by
  have hz := g.le
  refine run_ret (F := f27) rfl rfl h ?_
  refine w_expr (c_call1 (c_bi1 (hr.var _ 0 rfl) hr.len) (e_room (n := n + 1) hz h)) ?_
  refine w_wk (fun _ ρ => ∃ y z, ρ = [some r, y, z]) (hr.var _ 0 rfl) hr.toWk ⟨none, none, rfl⟩ (fun k q ρ hq ⟨y, z, e⟩ => ?_) (fun ρ ⟨y, z, e⟩ => ?_)
  · subst e
    have hk := hr.lt hq
    have h1 := hr.at_ k q hq
    refine w_wk (fun _ ρ => ∃ z, ρ = [some r, some q, z]) (h1.var _ 1 rfl) h1.toWk ⟨z, rfl⟩ (fun j w ρ hw ⟨z, e⟩ => ?_) (fun ρ ⟨z, e⟩ => ⟨rfl, _, _, e⟩)
    subst e
    obtain ⟨hj, rfl⟩ := row_rin hw
    have h4 := g.w _ (row_mem hk) _ (el_mem hj)
    exact w_if0 (t := decide (1000000000000000000000000000000 < el (row rows k) j)) rfl (decide_eq_false (by omega)) ⟨rfl, _, rfl⟩
  · subst e
    exact p_ret (c_make1 (hr.var _ 0 rfl) (e_make (n := n) g hr h))
theorem w100 {x : Int} (h : 0 ≤ x ∧ x ≤ 1000000000000000000000000000000) : Sm 100 x := sm_of h.1 h.2 (by decide +kernel)
theorem e_kron (gA : Tied A) (gB : Tied B) (g : Tied (kron A B)) (h : WF S) : callN st.T (n + 4) 19 [.dat (webOf A), .dat (webOf B)] S = .ok (.dat (webOf (kron A B))) S := by
  have hz := g.le
  have zA := gA.le
  have zB := gB.le
  rw [prs_len] at hz
  refine run_ret (F := f19) rfl rfl h ?_
  have m1 : mulOk (A.length : Int) (B.length : Int) = true := mulOk_of (a := 6) (b := 6) (by show (A.length : Int).natAbs < 2 ^ 6; omega) (by show (B.length : Int).natAbs < 2 ^ 6; omega) (by decide)
  refine w_expr (c_call1 (v := RI ((A.length * B.length : Nat) : Int)) (c_mul (i := (A.length : Int)) (j := (B.length : Int)) rfl rfl m1) (e_room (n := n + 2) hz h)) ?_
  have hr : Rep S (RM (kron A B)) (kron A B) (((kron A B).map IL).map R.dat) := Rep.dat
  refine p_ret (c_call1 (v := RM (kron A B)) ?_ (e_made (n := n) g hr h))
  rw [RM_prs]
  refine lc2_pr (n := A.length) (m := B.length) (G := fun i k => IL ((List.range (A.length * B.length)).map fun q => kronF A B i k (q / B.length) (q % B.length))) (ii_wk (q := .dat (.tup (A.map TL))) rfl Wk.tup) gd_nil (by rw [List.length_map, List.length_map, List.length_map]) (fun i x hx => ?_) (by omega)
  obtain ⟨z, h1, rfl⟩ := one_at hx
  rw [List.getElem?_map] at h1
  cases h2 : (A.map TL)[i]? with
  | none => rw [h2] at h1; cases h1
  | some d =>
    rw [h2] at h1
    cases h1
    obtain ⟨hi, rfl⟩ := tl_at h2
    refine ⟨_, rfl, _, _, ii_wk (q := .dat (.tup (B.map TL))) rfl Wk.tup, gd_nil, by rw [List.length_map, List.length_map, List.length_map], fun k y hy => ?_⟩
    obtain ⟨z, k1, rfl⟩ := one_at hy
    rw [List.getElem?_map] at k1
    cases k2 : (B.map TL)[k]? with
    | none => rw [k2] at k1; cases k1
    | some d =>
      rw [k2] at k1
      cases k1
      obtain ⟨hk, rfl⟩ := tl_at k2
      refine ⟨_, rfl, ?_⟩
      rw [RL_map]
      refine lc2_pr (n := A.length) (m := B.length) (G := fun j l => D.int (kronF A B i k j l)) (ii_wk (q := .dat (TL (row A i))) rfl Wk.tup) gd_nil (by rw [List.length_map, List.length_map, List.length_map]; exact gA.sq _ (row_mem hi)) (fun j x hx => ?_) (by omega)
      obtain ⟨z, l1, rfl⟩ := one_at hx
      obtain ⟨hj, rfl⟩ := row_rin l1
      refine ⟨_, rfl, _, _, ii_wk (q := .dat (TL (row B k))) rfl Wk.tup, gd_nil, by rw [List.length_map, List.length_map, List.length_map]; exact gB.sq _ (row_mem hk), fun l y hy => ?_⟩
      obtain ⟨z, l2, rfl⟩ := one_at hy
      obtain ⟨hl, rfl⟩ := row_rin l2
      exact ⟨_, rfl, c_mul rfl rfl (mulOk_of (w100 (gA.w _ (row_mem hi) _ (el_mem hj))) (w100 (gB.w _ (row_mem hk) _ (el_mem hl))) (by decide))⟩
theorem e_product (gA : Tied A) (gB : Tied B) (g : Tied (kron A B)) (h : WF S) : callN st.T (n + 5) 6 [.dat (webOf A), .dat (webOf B)] S = .ok (.dat (webOf (kron A B))) S := by
  refine run_ret (F := f6) rfl rfl h ?_
  exact p_ret (c_opm rfl rfl (e_kron (n := n) gA gB g h))
/-! ### sums -/
theorem e_mixed {x y : Int} (gA : Tied A) (gB : Tied B) (g : Tied (mix A B x y)) (hx : Sm 10 x) (hy : Sm 10 y) (h : WF S) : callN st.T (n + 4) 18 [.dat (webOf A), .dat (webOf B), RI x, RI y] S = .ok (.dat (webOf (mix A B x y))) S := by
  have hz := g.le
  have zA := gA.le
  have zB := gB.le
  rw [prs_len] at hz
  have dA : ∀ i, i < A.length → Sm 107 (row A i).sum := fun i hi => by
    have := sum_sm (a := 100) (row A i) fun x hx => w100 (gA.w _ (row_mem hi) x hx)
    rw [gA.sq _ (row_mem hi)] at this
    show (row A i).sum.natAbs < 2 ^ 107
    have e : (2 : Nat) ^ 107 = 128 * 2 ^ 100 := by decide +kernel
    have : A.length * 2 ^ 100 ≤ 40 * 2 ^ 100 := Nat.mul_le_mul_right _ zA
    have : 0 < 2 ^ 100 := by decide +kernel
    omega
  have dB : ∀ i, i < B.length → Sm 107 (row B i).sum := fun i hi => by
    have := sum_sm (a := 100) (row B i) fun x hx => w100 (gB.w _ (row_mem hi) x hx)
    rw [gB.sq _ (row_mem hi)] at this
    show (row B i).sum.natAbs < 2 ^ 107
    have e : (2 : Nat) ^ 107 = 128 * 2 ^ 100 := by decide +kernel
    have : B.length * 2 ^ 100 ≤ 40 * 2 ^ 100 := Nat.mul_le_mul_right _ zB
    have : 0 < 2 ^ 100 := by decide +kernel
    omega
  refine run_q (F := f18) (fun z => z = .ok (.dat (webOf (mix A B x y))) S) rfl rfl ?_
  let P : SRes → Prop := fun z => sealS S.length z = .ok (.dat (webOf (mix A B x y))) S
  show P _
  have m1 : mulOk (A.length : Int) (B.length : Int) = true := mulOk_of (a := 6) (b := 6) (by show (A.length : Int).natAbs < 2 ^ 6; omega) (by show (B.length : Int).natAbs < 2 ^ 6; omega) (by decide)
  refine w_expr (c_call1 (v := RI ((A.length * B.length : Nat) : Int)) (c_mul (i := (A.length : Int)) (j := (B.length : Int)) rfl rfl m1) (e_room (n := n + 2) hz h)) ?_
  refine p_asg (S1 := S ++ [Cell.lst []]) (.own S.length) rfl ?_
  let W : Nat → Cell := fun t => Cell.lst (((List.range t).map fun p => IL (row (mix A B x y) p)).map R.dat)
  let E : Option R → Option R → Option R → Option R → Option R → Option R → MP.Env := fun i row j line left right => [some (.dat (webOf A)), some (.dat (webOf B)), some (RI x), some (RI y), some (.own S.length), i, row, j, line, left, right, none, none, none]
  refine w_for (xs := enumI 0 ((A.map TL).map R.dat)) (g := []) (fun i ρ S' => S' = S ++ [W (i * B.length)] ∧ ∃ a b c d e f, ρ = E a b c d e f) (ii_enW (q := .dat (.tup (A.map TL))) rfl Wk.tup) ⟨by rw [Nat.zero_mul]; rfl, none, none, none, none, none, none, rfl⟩ (fun _ _ _ _ => gd_nil) (fun i z ρ S' hz1 hp => ?_) (fun ρ S' hp => ?_)
  · obtain ⟨rfl, a, b, c, d, e, f, rfl⟩ := hp
    obtain ⟨z, h1, rfl⟩ := enum_at hz1
    rw [List.getElem?_map] at h1
    cases h2 : (A.map TL)[i]? with
    | none => rw [h2] at h1; cases h1
    | some dd =>
      rw [h2] at h1
      cases h1
      obtain ⟨hi, rfl⟩ := tl_at h2
      rw [Nat.zero_add]
      refine ⟨_, rfl, ?_⟩
      refine w_for (xs := enumI 0 ((B.map TL).map R.dat)) (g := []) (fun k ρ S' => S' = S ++ [W (i * B.length + k)] ∧ ∃ c d e f, ρ = E (some (RI (i : Int))) (some (.dat (TL (row A i)))) c d e f) (ii_enW (q := .dat (.tup (B.map TL))) rfl Wk.tup) ⟨rfl, c, d, e, f, rfl⟩ (fun _ _ _ _ => gd_nil) (fun k z ρ S' hz1 hp => ?_) (fun ρ S' hp => ?_)
      · obtain ⟨rfl, c, d, e, f, rfl⟩ := hp
        obtain ⟨z, h1, rfl⟩ := enum_at hz1
        rw [List.getElem?_map] at h1
        cases h2 : (B.map TL)[k]? with
        | none => rw [h2] at h1; cases h1
        | some dd =>
          rw [h2] at h1
          cases h1
          obtain ⟨hk, rfl⟩ := tl_at h2
          rw [Nat.zero_add]
          refine ⟨_, rfl, ?_⟩
          have lA := gA.sq _ (row_mem hi)
          have lB := gB.sq _ (row_mem hk)
          have dgA : (degs A).length = A.length := List.length_map _
          have dgB : (degs B).length = B.length := List.length_map _
          have eA : el (degs A) i = (row A i).sum := by
            unfold el row degs
            rw [List.getElem?_map, List.getElem?_eq_getElem hi]
            rfl
          have eB : el (degs B) k = (row B k).sum := by
            unfold el row degs
            rw [List.getElem?_map, List.getElem?_eq_getElem hk]
            rfl
          have xA : ∀ S, ixR (.dat (TL (degs A))) (RI (i : Int)) S = .ok (RI (row A i).sum) S := fun S => by
            rw [← eA]
            exact Wk.ix Wk.tup (by rw [List.getElem?_map, el_at (by rw [dgA]; exact hi)]; rfl)
          have xB : ∀ S, ixR (.dat (TL (degs B))) (RI (k : Int)) S = .ok (RI (row B k).sum) S := fun S => by
            rw [← eB]
            exact Wk.ix Wk.tup (by rw [List.getElem?_map, el_at (by rw [dgB]; exact hk)]; rfl)
          refine p_asg (S1 := S ++ [W (i * B.length + k)]) (RL ((List.range A.length).map fun j => x * el (row A i) j * (row B k).sum)) ?_ ?_
          · rw [RLr]
            refine lc_wk (q := .dat (TL (row A i))) rfl Wk.tup (by rw [List.length_map, List.length_map]; exact lA) (fun j z hz => ?_) (by omega)
            obtain ⟨hj, rfl⟩ := row_rin hz
            have s1 := w100 (gA.w _ (row_mem hi) _ (el_mem hj))
            exact c_mul (c_mul rfl rfl (mulOk_of hx s1 (by decide))) (c_ix (x := .dat (TL (degs B))) (y := RI (k : Int)) rfl rfl (xB _)) (mulOk_of (hx.mul s1) (dB k hk) (by decide))
          refine p_asg (S1 := S ++ [W (i * B.length + k)]) (RL ((List.range B.length).map fun l => y * (row A i).sum * el (row B k) l)) ?_ ?_
          · rw [RLr (m := B.length)]
            refine lc_wk (q := .dat (TL (row B k))) rfl Wk.tup (by rw [List.length_map, List.length_map]; exact lB) (fun j z hz => ?_) (by omega)
            obtain ⟨hj, rfl⟩ := row_rin hz
            have s1 := w100 (gB.w _ (row_mem hk) _ (el_mem hj))
            exact c_mul (c_mul rfl (c_ix (x := .dat (TL (degs A))) (y := RI (i : Int)) rfl rfl (xA _)) (mulOk_of hy (dA i hi) (by decide))) rfl (mulOk_of (hy.mul (dA i hi)) s1 (by decide))
          have hp : i * B.length + k < A.length * B.length := pr_lt hi hk
          refine w_app (v := .dat (IL (row (mix A B x y) (i * B.length + k)))) rfl ?_ (by rw [List.length_map, List.length_map, List.length_range]; omega) ⟨?_, _, _, _, _, rfl⟩
          · rw [prs_row hp, pr_div hk, pr_mod hk, RL_map]
            refine lc2_pr (n := A.length) (m := B.length) (G := fun j l => D.int (mixF A B x y i k j l)) (ii_rng1 (n := A.length) rfl (by omega)) gd_nil (rng_lenN _ _) (fun j x' hx' => ?_) (by omega)
            obtain ⟨hj, rfl⟩ := rng0_at hx'
            refine ⟨_, rfl, _, _, ii_rng1 (n := B.length) rfl (by omega), gd_nil, rng_lenN _ _, fun l y' hy' => ?_⟩
            obtain ⟨hl, rfl⟩ := rng0_at hy'
            refine ⟨_, rfl, ?_⟩
            unfold mixF
            refine c_add (S1 := S ++ [W (i * B.length + k)]) ?_ ?_
            · refine (c_ifx (t := decide ((l : Int) = (k : Int))) rfl).trans ?_
              by_cases hlk : l = k
              · subst hlk
                rw [if_pos (decide_eq_true rfl), if_pos rfl]
                refine c_ix (x := RL ((List.range A.length).map fun j => x * el (row A i) j * (row B l).sum)) (y := RI (j : Int)) rfl rfl ?_
                have := RowR.ix (S := S ++ [W (i * B.length + l)]) (k := j) (RowR.dat (a := (List.range A.length).map fun j => x * el (row A i) j * (row B l).sum)) (by rw [List.length_map, List.length_range]; exact hj)
                rw [el_map hj] at this
                exact this
              · rw [if_neg hlk, if_neg (by rw [decide_eq_false (by omega)]; exact Bool.false_ne_true)]
                rfl
            · refine (c_ifx (t := decide ((j : Int) = (i : Int))) rfl).trans ?_
              by_cases hji : j = i
              · subst hji
                rw [if_pos (decide_eq_true rfl), if_pos rfl]
                refine c_ix (x := RL ((List.range B.length).map fun l => y * (row A j).sum * el (row B k) l)) (y := RI (l : Int)) rfl rfl ?_
                have := RowR.ix (S := S ++ [W (j * B.length + k)]) (k := l) (RowR.dat (a := (List.range B.length).map fun l => y * (row A j).sum * el (row B k) l)) (by rw [List.length_map, List.length_range]; exact hl)
                rw [el_map hl] at this
                exact this
              · rw [if_neg hji, if_neg (by rw [decide_eq_false (by omega)]; exact Bool.false_ne_true)]
                rfl
          · show S ++ [Cell.lst (_ ++ [R.dat _])] = S ++ [W (i * B.length + (k + 1))]
            congr 2
            rw [← Nat.add_assoc]
            show Cell.lst _ = Cell.lst _
            rw [List.range_succ, List.map_append, List.map_append]
            rfl
      · obtain ⟨rfl, c, d, e, f, rfl⟩ := hp
        refine ⟨?_, _, _, _, _, _, _, rfl⟩
        rw [DL.enum_len, List.length_map, List.length_map, Nat.succ_mul]
  · obtain ⟨rfl, a, b, c, d, e, f, rfl⟩ := hp
    rw [DL.enum_len, List.length_map, List.length_map]
    have hr : Rep (S ++ [W (A.length * B.length)]) (.own S.length) (mix A B x y) (((mix A B x y).map IL).map R.dat) := by
      have e1 : W (A.length * B.length) = Cell.lst (((mix A B x y).map IL).map R.dat) := by
        show Cell.lst _ = Cell.lst _
        rw [map_row IL, prs_len]
      rw [e1]
      exact ⟨Lst.own get_last, by rw [List.length_map, List.length_map], fun k z hz => by
        obtain ⟨_, rfl⟩ := il_at hz
        exact RowR.dat⟩
    refine w_ret (S1 := S ++ [W (A.length * B.length)]) (c_call1 rfl (e_made (n := n) g hr (wf_push h (below_dats _)))) ?_
    exact seal_cut rfl h
theorem e_webadd (gA : Tied A) (gB : Tied B) (g : Tied (mix A B 1 1)) (h : WF S) : callN st.T (n + 5) 4 [.dat (webOf A), .dat (webOf B)] S = .ok (.dat (webOf (mix A B 1 1))) S := by
  refine run_ret (F := f4) rfl rfl h ?_
  have s1 : Sm 10 1 := by show (1 : Int).natAbs < 2 ^ 10; decide
  exact p_ret (c_call4 rfl rfl rfl rfl (e_mixed (n := n) gA gB g s1 s1 h))
theorem e_sumof {x y : Int} (gA : Tied A) (gB : Tied B) (g : Tied (mix A B x y)) (hx : 1 ≤ x ∧ x ≤ 1000) (hy : 1 ≤ y ∧ y ≤ 1000) (h : WF S) : callN st.T (n + 5) 5 [.dat (webOf A), .dat (webOf B), .dat (.tup [.int x, .int y])] S = .ok (.dat (webOf (mix A B x y))) S := by
  refine run_ret (F := f5) rfl rfl h ?_
  refine w_if0 (t := !decide ((2 : Int) = 2)) rfl rfl ?_
  refine w_wk (q := .dat (.tup [.int x, .int y])) (xs := [RI x, RI y]) (fun _ ρ => ∃ z, ρ = [some (.dat (webOf A)), some (.dat (webOf B)), some (.dat (.tup [.int x, .int y])), z]) rfl (Wk.tup (l := [.int x, .int y])) ⟨none, rfl⟩ (fun k z ρ hz ⟨w, e⟩ => ?_) (fun ρ ⟨w, e⟩ => ?_)
  · subst e
    have hv : ∃ v : Int, z = RI v ∧ 1 ≤ v ∧ v ≤ 1000 := by
      rcases k with _ | _ | k
      · cases hz; exact ⟨x, rfl, hx⟩
      · cases hz; exact ⟨y, rfl, hy⟩
      · cases hz
    obtain ⟨v, rfl, hv⟩ := hv
    exact w_if0 (c_or (x := decide (v < 1)) (y := decide (1000 < v)) rfl rfl) (by rw [decide_eq_false (by omega), decide_eq_false (by omega)]; rfl) ⟨rfl, _, rfl⟩
  · subst e
    have s1 : ∀ v : Int, 1 ≤ v ∧ v ≤ 1000 → Sm 10 v := fun v hv => by show v.natAbs < 2 ^ 10; omega
    exact p_ret (c_call4 rfl rfl (c_ix (x := .dat (.tup [.int x, .int y])) (y := RI 0) rfl rfl rfl) (c_ix (x := .dat (.tup [.int x, .int y])) (y := RI 1) rfl rfl rfl) (e_mixed (n := n) gA gB g (s1 _ hx) (s1 _ hy) h))
/-! ### halves -/
theorem e_half (gA : Tied A) (g : Tied (hlf A)) (h : WF S) : callN st.T (n + 4) 12 [.dat (webOf A)] S = .ok (.dat (webOf (hlf A))) S := by
  have zA := gA.le
  have sq : ∀ i, i < A.length → (row A i).length = A.length := fun i hi => gA.sq _ (row_mem hi)
  refine run_q (F := f12) (fun z => z = .ok (.dat (webOf (hlf A))) S) rfl rfl ?_
  let P : SRes → Prop := fun z => sealS S.length z = .ok (.dat (webOf (hlf A))) S
  show P _
  refine p_asg (S1 := stM S A) (.own (S.length + A.length)) (lc_ownT rfl (by omega) fun k hk S' => ?_) ?_
  · refine c_bi1 (v := .dat (TL (row A k))) rfl ?_
    rfl
  refine w_rng (n := A.length) (lo := 0) (fun k ρ S' => S' = stM S (hp A k) ∧ ∃ z, ρ = [some (.dat (webOf A)), some (.own (S.length + A.length)), z, none]) (ii_rng1 (n := A.length) rfl (by omega)) ⟨rfl, none, rfl⟩ (fun k ρ S' hk hh => ?_) (fun ρ S' hh => ?_)
  · obtain ⟨rfl, z, rfl⟩ := hh
    rw [Int.zero_add]
    have hl := hp_len (A := A) k
    have hrk : row (hp A k) k = row A k := by rw [hp_row k k (by omega) hk, if_neg (Nat.lt_irrefl _)]
    have x1 := ix_outer (S := S) (M := hp A k) (i := k) (by rw [hl]; exact hk)
    rw [hl] at x1
    have r1 : RowR (stM S (hp A k)) (.own (S.length + k)) (row (hp A k) k) := RowR.own (stM_row (by rw [hl]; exact hk))
    rw [hrk] at r1
    have y1 := r1.ix (k := k) (by rw [sq k hk]; exact hk)
    have eA : el (degs A) k = (row A k).sum := by
      unfold el row degs
      rw [List.getElem?_map, List.getElem?_eq_getElem hk]
      rfl
    have xA : ixR (.dat (TL (degs A))) (RI (k : Int)) (stM S (hp A k)) = .ok (RI (row A k).sum) (stM S (hp A k)) := by
      rw [← eA]
      exact Wk.ix Wk.tup (by rw [List.getElem?_map, el_at (by rw [List.length_map]; exact hk)]; rfl)
    refine p_next (ρ1 := [some (.dat (webOf A)), some (.own (S.length + A.length)), some (RI (k : Int)), none]) (S1 := stM S (hp A (k + 1))) (r_putS (c_ix (x := .own (S.length + A.length)) (y := RI (k : Int)) rfl rfl x1) rfl (c_add (c_ix (c_ix (x := .own (S.length + A.length)) (y := RI (k : Int)) rfl rfl x1) (y := RI (k : Int)) rfl y1) (c_ix (x := .dat (TL (degs A))) (y := RI (k : Int)) rfl rfl xA)) (by rw [hl]; exact hk) (by rw [hrk, sq k hk]; exact hk)) ?_
    exact ⟨rfl, _, rfl⟩
  · obtain ⟨rfl, z, rfl⟩ := hh
    rw [hp_end sq]
    have hr : Rep (stM S (hlf A)) (.own (S.length + A.length)) (hlf A) (ownsR S.length A.length) := by
      have := rep_stM (S := S) (M := hlf A)
      rw [hlf_len] at this
      exact this
    refine w_ret (S1 := stM S (hlf A)) (c_call1 rfl (e_made (n := n) g hr (stM_wf h))) ?_
    exact seal_cut rfl h

end K58
set_option Elab.async false
set_option linter.all false
set_option maxRecDepth 100000
set_option maxHeartbeats 2000000
/-! K58Cell -/
namespace K58
open PySem PySem.Spec PyProof.Rows L2 MP DL
variable {n : Nat} {S : Store} {ns : List Int}
theorem e_cell {k : Int} (h : WF S) : ∃ v, callN st.T (n + 1) 2 [RL ns, RI k] S = .ok (RI v) S := by
  by_cases hl : ns.length = 0
  · refine ⟨0, run_ret (F := f2) rfl rfl h ?_⟩
    exact w_if1 (t := decide ((ns.length : Int) = 0)) (c_cmp (c_bi1 (v := RL ns) rfl RowR.dat.len) rfl rfl) (decide_eq_true (by omega)) (p_ret rfl)
  · have hp : 0 < (ns.length : Int) := by omega
    have h1 := Int.emod_nonneg k (by omega : (ns.length : Int) ≠ 0)
    have h2 := Int.emod_lt_of_pos k hp
    refine ⟨el ns (k % ns.length).toNat, run_ret (F := f2) rfl rfl h ?_⟩
    refine w_if0 (t := decide ((ns.length : Int) = 0)) (c_cmp (c_bi1 (v := RL ns) rfl RowR.dat.len) rfl rfl) (decide_eq_false (by omega)) (p_ret ?_)
    refine c_ix (x := RL ns) rfl (c_mod (i := k) (j := (ns.length : Int)) rfl (c_bi1 (v := RL ns) rfl RowR.dat.len) hp) ?_
    have := RowR.ix (S := S) (k := (k % ns.length).toNat) (RowR.dat (a := ns)) (by omega)
    rw [Int.toNat_of_nonneg h1] at this
    exact this
theorem e_row {a b : Int} {m : Nat} (hb : 1 ≤ b) (hb2 : b ≤ 1000000) (hm : m ≤ 1000) (h : WF S) : ∃ row : List Int, row.length = m ∧ (∀ x ∈ row, 0 ≤ x ∧ x < b) ∧ callN st.T (n + 2) 21 [RL ns, RI a, RI b, RI (m : Int)] S = .ok (.own S.length) (S ++ [pool row]) := by
  refine run_k (F := f21) (fun z => ∃ row : List Int, row.length = m ∧ (∀ x ∈ row, 0 ≤ x ∧ x < b) ∧ z = .ok (.own S.length) (S ++ [pool row])) rfl rfl ?_
  let P : SRes → Prop := fun z => ∃ row : List Int, row.length = m ∧ (∀ x ∈ row, 0 ≤ x ∧ x < b) ∧ openS z = .ok (.own S.length) (S ++ [pool row])
  show P _
  have db : divOk b = true := decide_eq_true ⟨by omega, by have : Sm 20 b := (by show b.natAbs < 2 ^ 20; omega); have := this.log; omega⟩
  have wf : ∀ row : List Int, WF (S ++ [pool row]) := fun row => wf_push h (below_dats _)
  refine p_asg (S1 := S ++ [pool []]) (.own S.length) rfl ?_
  obtain ⟨v0, h0⟩ := e_cell (n := n) (ns := ns) (k := a) (wf [])
  refine p_asg (S1 := S ++ [pool []]) (RI v0) (c_call2 rfl rfl h0) ?_
  refine w_rng (n := m) (lo := 0) (fun k ρ S' => ∃ (row : List Int) (at_ v : Int) (t : Option R), row.length = k ∧ (∀ x ∈ row, 0 ≤ x ∧ x < b) ∧ S' = S ++ [pool row] ∧ ρ = [some (RL ns), some (RI at_), some (RI b), some (RI (m : Int)), some (.own S.length), some (RI v), t]) (ii_rng1 (n := m) rfl (by omega)) ⟨[], a, v0, none, rfl, (fun x hx => by cases hx), rfl, rfl⟩ (fun k ρ S' hk hh => ?_) (fun ρ S' hh => ?_)
  · obtain ⟨row, at_, v, t, hl, hr, rfl, rfl⟩ := hh
    have m0 := Int.emod_nonneg v (by omega : b ≠ 0)
    have m1 := Int.emod_lt_of_pos v (by omega : 0 < b)
    refine w_app (v := RI (v % b)) rfl (c_mod (i := v) (j := b) rfl rfl (by omega)) (by rw [List.length_map, List.length_map]; omega) ?_
    have e1 : (S ++ [Cell.lst ((row.map D.int).map R.dat ++ [RI (v % b)])]) = S ++ [pool (row ++ [v % b])] := by unfold pool; rw [List.map_append, List.map_append]; rfl
    rw [e1]
    have hr2 : ∀ x ∈ row ++ [v % b], 0 ≤ x ∧ x < b := fun x hx => by
      rcases List.mem_append.mp hx with hx | hx
      · exact hr x hx
      · rw [List.mem_singleton.mp hx]
        exact ⟨m0, m1⟩
    have hl2 : (row ++ [v % b]).length = k + 1 := by rw [List.length_append, hl]; rfl
    refine p_asg (S1 := S ++ [pool (row ++ [v % b])]) (RI (v / b)) (c_div (i := v) (j := b) rfl rfl db) ?_
    refine w_if (S1 := S ++ [pool (row ++ [v % b])]) _ (c_or (x := decide (v / b = 0)) (y := decide (v / b = -1)) rfl rfl) (fun _ => ?_) (fun _ => ⟨_, at_, v / b, _, hl2, hr2, rfl, rfl⟩)
    refine p_asg (S1 := S ++ [pool (row ++ [v % b])]) (RI (at_ + 1)) rfl ?_
    obtain ⟨u, hu⟩ := e_cell (n := n) (ns := ns) (k := at_ + 1) (wf (row ++ [v % b]))
    exact p_asg (S1 := S ++ [pool (row ++ [v % b])]) (RI u) (c_call2 rfl rfl hu) ⟨_, at_ + 1, u, _, hl2, hr2, rfl, rfl⟩
  · obtain ⟨row, at_, v, t, hl, hr, rfl, rfl⟩ := hh
    exact w_ret (v := .own S.length) (S1 := S ++ [pool row]) rfl ⟨row, hl, hr, rfl⟩

end K58
set_option Elab.async false
set_option linter.all false
set_option maxRecDepth 100000
set_option maxHeartbeats 2000000
/-! K58Rows -/
namespace K58
open PySem PySem.Spec PyProof.Rows L2 MP DL
variable {n : Nat} {S : Store} {ns : List Int} {m : Nat}
abbrev RwE (S : Store) (ns : List Int) (at_ : Int) (m : Nat) (kind wide : Int) (k i j w l : Option R) : MP.Env := [some (RL ns), some (RI at_), some (RI (m : Int)), some (RI kind), some (RI wide), some (.own S.length), some (.own ((S ++ [pool []]).length + m)), k, i, j, w, l]
theorem e_rows {at_ : Int} (h1 : 1 ≤ m) (h4 : m ≤ 4) (h : WF S) : ∃ M, Sq m 1000000 M ∧ (∀ a, a < m → 0 < (row M a).sum) ∧ callN st.T (n + 3) 9 [RL ns, RI at_, RI (m : Int)] S = .ok (RM M) S := by
  refine run_q (F := f9) (fun z => ∃ M, Sq m 1000000 M ∧ (∀ a, a < m → 0 < (row M a).sum) ∧ z = .ok (RM M) S) rfl rfl ?_
  let P : SRes → Prop := fun z => ∃ M, Sq m 1000000 M ∧ (∀ a, a < m → 0 < (row M a).sum) ∧ sealS S.length z = .ok (RM M) S
  show P _
  obtain ⟨v, hv⟩ := e_cell (n := n + 1) (ns := ns) (k := at_) h
  have k0 := Int.emod_nonneg v (by decide : (5 : Int) ≠ 0)
  have k1 := Int.emod_lt_of_pos v (by decide : (0 : Int) < 5)
  refine p_asg (S1 := S) (RI (v % 5)) (c_mod (i := v) (j := 5) (c_bi1 (v := RI v) (c_call2 rfl rfl hv) rfl) rfl (by decide)) ?_
  generalize v % 5 = kind at k0 k1 ⊢
  let L : List Int := [10, 2, 4, 3, 1000000]
  have hw : 2 ≤ el L kind.toNat ∧ el L kind.toNat ≤ 1000000 := by
    rcases (by omega : kind = 0 ∨ kind = 1 ∨ kind = 2 ∨ kind = 3 ∨ kind = 4) with rfl | rfl | rfl | rfl | rfl <;> decide
  refine p_asg (S1 := S) (RI (el L kind.toNat)) (c_ix (x := RL L) (c_lst (es_cons rfl (es_cons rfl (es_cons rfl (es_cons rfl (es_cons ten6 es_nil))))) rfl) rfl (ix_cases k0 k1)) ?_
  generalize el L kind.toNat = wide at hw ⊢
  have hm2 : ((m : Int) * ((m : Int) + 1)) / 2 = ((tri m m : Nat) : Int) := by
    rcases (by omega : m = 1 ∨ m = 2 ∨ m = 3 ∨ m = 4) with rfl | rfl | rfl | rfl <;> rfl
  have hm3 : tri m m ≤ 10 ∧ 1 ≤ tri m m := by
    rcases (by omega : m = 1 ∨ m = 2 ∨ m = 3 ∨ m = 4) with rfl | rfl | rfl | rfl <;> decide
  have mm : mulOk (m : Int) ((m : Int) + 1) = true := mulOk_of (a := 3) (b := 3) (by show (m : Int).natAbs < 2 ^ 3; omega) (by show ((m : Int) + 1).natAbs < 2 ^ 3; omega) (by decide)
  obtain ⟨rw_, hl, hb, hr⟩ := e_row (n := n) (ns := ns) (a := at_ + 1) (b := wide) (m := tri m m) (by omega) hw.2 (by omega) h
  refine p_asg (S1 := S ++ [pool rw_]) (.own S.length) (c_call4 rfl rfl rfl (by rw [← hm2]; exact c_div (i := (m : Int) * ((m : Int) + 1)) (j := 2) (c_mul rfl (c_add rfl rfl) mm) rfl (by decide)) hr) ?_
  let S1 : Store := S ++ [pool rw_]
  have hS1 : S1.length = (S ++ [pool []]).length := by show (S ++ [pool rw_]).length = _; rw [List.length_append, List.length_append]; rfl
  have rr : ∀ M', RowR (stM S1 M') (.own S.length) rw_ := fun M' => RowR.own (by rw [stM_low (by show S.length < (S ++ [pool rw_]).length; rw [List.length_append]; exact Nat.lt_succ_self _)]; exact get_last)
  refine p_asg (S1 := stM S1 (List.replicate m (List.replicate m 0))) (.own ((S ++ [pool []]).length + m)) (by rw [← hS1]; exact e_zer (S := S1) (by omega) rfl fun k S' => rfl) ?_
  refine p_asg (S1 := stM S1 (List.replicate m (List.replicate m 0))) (RI 0) rfl ?_
  refine w_rng (n := m) (lo := 0) (fun i ρ S' => ∃ M a b c d, ρ = RwE S ns at_ m kind wide (some (RI ((tri m i : Nat) : Int))) a b c d ∧ S' = stM S1 M ∧ Sq m 1000000 M) (ii_rng1 (n := m) rfl (by omega)) ⟨_, none, none, none, none, rfl, rfl, sq_zero (by decide)⟩ (fun i ρ S' hi hh => ?_) (fun ρ S' hh => ?_)
  · obtain ⟨M, a, b, c, d, rfl, rfl, g⟩ := hh
    rw [Int.zero_add]
    refine w_rng (n := m - i) (lo := (i : Int)) (fun q ρ S' => ∃ M b c d, ρ = RwE S ns at_ m kind wide (some (RI ((tri m i + q : Nat) : Int))) (some (RI (i : Int))) b c d ∧ S' = stM S1 M ∧ Sq m 1000000 M) (ii_rng2 (i := i) (m := m) rfl rfl (by omega) (by omega)) ⟨M, b, c, d, rfl, rfl, g⟩ (fun q ρ S' hq hh => ?_) (fun ρ S' hh => ?_)
    · obtain ⟨M, b, c, d, rfl, rfl, g⟩ := hh
      rw [← Int.natCast_add]
      have hj : i + q < m := by omega
      have hq2 : tri m i + q = tri m i + ((i + q) - i) := by omega
      have hk : tri m i + q < rw_.length := by
        have : tri m i + (m - i) ≤ tri m m := by
          have := tri_le (m := m) (i := i + 1) (k := m - (i + 1))
          rw [show i + 1 + (m - (i + 1)) = m by omega] at this
          exact this
        omega
      generalize i + q = j at hj hq2 ⊢
      have bd : ∀ {k}, k < rw_.length → 0 ≤ el rw_ k ∧ el rw_ k ≤ 999999 := fun {k} hk => by have := hb _ (el_mem hk); omega
      refine p_asg (S1 := stM S1 M) (RI (el rw_ (tri m i + q))) (c_ix (x := .own S.length) (y := RI ((tri m i + q : Nat) : Int)) rfl rfl ((rr M).ix hk)) ?_
      have b0 := bd hk
      refine w_ifN (S1 := stM S1 M) _ (fun ρ S' => ∃ w : Int, 0 ≤ w ∧ w ≤ 1000000 ∧ S' = stM S1 M ∧ ρ = RwE S ns at_ m kind wide (some (RI ((tri m i + q : Nat) : Int))) (some (RI (i : Int))) (some (RI (j : Int))) (some (RI w)) d) (c_and (x := decide (kind = 3)) (y := decide ((i : Int) = (j : Int))) rfl rfl) (fun _ => ?_) (fun _ => ⟨_, b0.1, by omega, rfl, rfl⟩) ?_
      · have b1 := bd (k := 0) (by omega)
        exact p_asg (S1 := stM S1 M) (RI (el rw_ 0)) (c_ix (x := .own S.length) (y := RI 0) rfl rfl ((rr M).ix (k := 0) (by omega))) ⟨_, b1.1, by omega, rfl, rfl⟩
      rintro ρ S' ⟨w, w0, w1, rfl, rfl⟩
      refine w_ifN (S1 := stM S1 M) _ (fun ρ S' => ∃ w : Int, 0 ≤ w ∧ w ≤ 1000000 ∧ S' = stM S1 M ∧ ρ = RwE S ns at_ m kind wide (some (RI ((tri m i + q : Nat) : Int))) (some (RI (i : Int))) (some (RI (j : Int))) (some (RI w)) d) (c_and (x := decide (kind = 3)) (y := decide ((i : Int) < (j : Int))) rfl rfl) (fun _ => ?_) (fun _ => ⟨_, w0, w1, rfl, rfl⟩) ?_
      · have b1 := bd (k := rw_.length - 1) (by omega)
        have ix := (rr M).ix (k := rw_.length - 1) (by omega)
        rw [show ((rw_.length - 1 : Nat) : Int) = (rw_.length : Int) - 1 by omega] at ix
        exact p_asg (S1 := stM S1 M) (RI (el rw_ (rw_.length - 1) + 1)) (c_add (c_ix (x := .own S.length) (y := RI ((rw_.length : Int) - 1)) rfl (c_sub (c_bi1 (v := .own S.length) rfl (rr M).len) rfl) ix) rfl) ⟨_, by omega, by omega, rfl, rfl⟩
      rintro ρ S' ⟨w, w0, w1, rfl, rfl⟩
      refine w_sym (S := S1) g hi hj (by rw [hS1]; rfl) rfl rfl (fun _ => rfl) (fun _ => rfl) ?_
      exact p_asg (S1 := stM S1 (put2 M i j w)) (RI ((tri m i + (q + 1) : Nat) : Int)) (by rw [show ((tri m i + (q + 1) : Nat) : Int) = ((tri m i + q : Nat) : Int) + 1 by omega]; exact c_add rfl rfl) ⟨_, _, _, _, rfl, rfl, g.put2 hi hj w0 w1⟩
    · obtain ⟨M, b, c, d, rfl, rfl, g⟩ := hh
      exact ⟨M, _, b, c, d, rfl, rfl, g⟩
  obtain ⟨M, a, b, c, d, rfl, rfl, g⟩ := hh
  refine w_rng (n := m) (lo := 0) (fun i ρ S' => ∃ M a b c d, ρ = RwE S ns at_ m kind wide (some (RI ((tri m m : Nat) : Int))) a b c d ∧ S' = stM S1 M ∧ Sq m 1000000 M ∧ ∀ a, a < i → 0 < (row M a).sum) (ii_rng1 (n := m) rfl (by omega)) ⟨M, _, _, _, _, rfl, rfl, g, fun a ha => by omega⟩ (fun i ρ S' hi hh => ?_) (fun ρ S' hh => ?_)
  · obtain ⟨M, a, b, c, d, rfl, rfl, g, hp⟩ := hh
    rw [Int.zero_add]
    have hr := stM_row (S := S1) (M := M) (i := i) (by rw [g.len]; exact hi)
    have hs := sum_own (b := false) hr
    have ho := ix_outer (S := S1) (M := M) (i := i) (by rw [g.len]; exact hi)
    rw [hS1, g.len] at ho
    rw [hS1] at hs
    have fin : ∀ (j : Nat), j < m → Sq m 1000000 (put2 M i j 1) ∧ ∀ a, a < i + 1 → 0 < (row (put2 M i j 1) a).sum := fun j hj => by
      have g' := g.put2 (w := 1) hi hj (by decide) (by decide)
      refine ⟨g', fun a ha => ?_⟩
      by_cases e1 : a = i
      · exact g'.pos_of (b := j) (by omega) hj (by rw [g.ent2 hi hj, if_pos (Or.inl ⟨e1, rfl⟩)]; decide)
      · by_cases e2 : a = j
        · exact g'.pos_of (b := i) (by omega) hi (by rw [g.ent2 hi hj, if_pos (Or.inr ⟨e2, rfl⟩)]; decide)
        · rw [g.put2_row hi hj e1 e2]
          exact hp a (by omega)
    refine w_if (S1 := stM S1 M) (decide ((row M i).sum = 0)) (c_cmp (c_bi1 (c_ix rfl rfl ho) hs) rfl rfl) (fun t => ?_) (fun t => ⟨M, _, b, c, d, rfl, rfl, g, fun a ha => ?_⟩)
    · refine p_asg (S1 := stM S1 M) (RI ((i : Int) + 1)) rfl ?_
      refine w_if (S1 := stM S1 M) (decide ((i : Int) = (m : Int) - 1)) rfl (fun t => ?_) (fun t => ?_)
      · have tt := of_decide_eq_true t
        refine p_asg (S1 := stM S1 M) (RI ((i - 1 : Nat) : Int)) (by rw [show ((i - 1 : Nat) : Int) = max 0 ((i : Int) - 1) by omega]; rfl) ?_
        have f := fin (i - 1) (by omega)
        exact w_sym (S := S1) g hi (by omega : i - 1 < m) (by rw [hS1]; rfl) rfl rfl (fun _ => rfl) (fun _ => rfl) ⟨_, _, _, _, _, rfl, rfl, f.1, f.2⟩
      · have tt := of_decide_eq_false t
        have f := fin (i + 1) (by omega)
        exact w_sym (S := S1) (j := i + 1) g hi (by omega) (by rw [hS1]; rfl) rfl rfl (fun _ => rfl) (fun _ => rfl) ⟨_, _, _, _, _, rfl, rfl, f.1, f.2⟩
    · by_cases e1 : a = i
      · have h1 := of_decide_eq_false t
        have h2 := sum_nn _ (g.nn hi)
        rw [e1]
        omega
      · exact hp a (by omega)
  · obtain ⟨M, a, b, c, d, rfl, rfl, g, hp⟩ := hh
    refine w_ret (v := .own ((S ++ [pool []]).length + m)) (S1 := stM S1 M) rfl ⟨M, g, hp, ?_⟩
    rw [← hS1, ← g.len]
    exact seal_stM h

end K58
set_option Elab.async false
set_option linter.all false
set_option maxRecDepth 100000
set_option maxHeartbeats 2000000
/-! K58Plain -/
namespace K58
open PySem PySem.Spec PyProof.Rows L2 MP DL
variable {n : Nat} {S : Store} {x y t b u v : Int}
theorem e_whole (i : Int) (h : WF S) : callN st.T (n + 1) 17 [RI i] S = .ok (.dat (.bl true)) S :=
  run_ret (F := f17) rfl rfl h (p_ret (c_and (x := true) (y := true) rfl rfl))
theorem e_gcd (h : WF S) : callN st.T (n + 1) 36 [RI x, RI y] S = .ok (RI (gc x y)) S := by
  refine run_ret (F := f36) rfl rfl h ?_
  refine p_asg (RI (if x < 0 then -x else x)) rfl ?_
  refine p_asg (RI (if y < 0 then -y else y)) rfl ?_
  have ab : ∀ z : Int, (if z < 0 then -z else z) = (z.natAbs : Int) := fun z => by split <;> omega
  rw [ab x, ab y]
  refine w_while (fun ρ S' => S' = S ∧ ∃ (a b : Nat) (c : Option R), ρ = [some (RI (a : Int)), some (RI (b : Int)), c] ∧ Nat.gcd a b = Nat.gcd x.natAbs y.natAbs) (fun ρ _ => match ρ with
    | _ :: some (.dat (.int b)) :: _ => b.natAbs
    | _ => 0) ⟨rfl, _, _, _, rfl, rfl⟩ (fun ρ S' ⟨e1, a, b, c, e2, e3⟩ => ?_)
  subst e1 e2
  refine ⟨!decide ((b : Int) = 0), S', rfl, fun t => ?_, fun t => ?_⟩
  · have hb : b = 0 := by simpa using t
    subst hb
    rw [Nat.gcd_zero_right] at e3
    have e4 : gc x y = (a : Int) := by unfold gc; rw [← e3]
    rw [e4]
    exact p_ret rfl
  · have hb : 0 < b := by
      have : ¬ (b : Int) = 0 := by simpa using t
      omega
    refine ⟨[some (RI (b : Int)), some (RI ((a % b : Nat) : Int)), some (RI ((a % b : Nat) : Int))], S', ?_, ⟨rfl, _, _, _, rfl, ?_⟩, ?_⟩
    · have e5 : ((a : Int) % (b : Int)) = ((a % b : Nat) : Int) := (Int.natCast_emod a b).symm
      rw [← e5]
      exact p_asg (P := fun z => z = _) (RI ((a : Int) % (b : Int))) (c_mod (i := (a : Int)) (j := (b : Int)) rfl rfl (by omega)) (p_asg (P := fun z => z = _) (RI (b : Int)) rfl (p_asg (P := fun z => z = _) (RI ((a : Int) % (b : Int))) rfl rfl))
    · rw [← e3, Nat.gcd_comm a b, Nat.gcd_rec b a, Nat.gcd_comm]
    · show ((a % b : Nat) : Int).natAbs < (b : Int).natAbs
      have := Nat.mod_lt a hb
      omega
theorem e_low (hy : 0 < y) {k : Nat} (hk : Sm k y) (hk2 : k < 9000) (h : WF S) : callN st.T (n + 2) 22 [RI x, RI y] S = .ok (.dat (TL [x / gc x y, y / gc x y])) S := by
  refine run_ret (F := f22) rfl rfl h ?_
  refine p_asg (RI (gc x y)) (c_call2 rfl rfl (e_gcd (n := n) h)) ?_
  have d := gc_div (x := x) hy hk hk2
  exact p_ret (c_tup2 (c_div (i := x) (j := gc x y) rfl rfl d) (c_div (i := y) (j := gc x y) rfl rfl d))
theorem e_isf (hv : 0 < v) (hy : 0 < y) (e : u * y = x * v) {k : Nat} (hk : Sm k y) (hk2 : k < 9000) (h : WF S) : callN st.T (n + 3) 10 [.dat (F u v), RI x, RI y] S = .ok (.dat (.bl true)) S := by
  refine run_ret (F := f10) rfl rfl h ?_
  obtain ⟨h1, h2⟩ := low hv hy e
  refine w_if0 (S1 := S) (t := !true || (!true || !true)) ?_ rfl ?_
  · refine c_or3 (x := !true) (y := !true) (z := !true) (c_not (x := true) rfl) (c_not (c_call1 (v := RI (u / gc u v)) rfl (e_whole (n := n + 1) (u / gc u v) h))) (c_not (c_call1 (v := RI (v / gc u v)) rfl (e_whole (n := n + 1) (v / gc u v) h)))
  · refine p_ret (c_cmp (x := .dat (TL [x / gc x y, y / gc x y])) (y := .dat (TL [x / gc x y, y / gc x y])) ?_ (c_call2 rfl rfl (e_low (n := n) hy hk hk2 h)) (by rw [eq_TL, decide_eq_true rfl]))
    rw [← h1, ← h2]
    exact c_tup2 rfl rfl
/-! ### powers, choices -/
theorem e_raised {w : Int} {t c : Nat} (hw : Sm c w) (ht : t ≤ 1000) (hk : 1 + c * t + c ≤ 999999) (h : WF S) : callN st.T (n + 1) 15 [RI w, RI (t : Int)] S = .ok (RI (gp w t)) S := by
  refine run_ret (F := f15) rfl rfl h ?_
  refine p_asg (RI 1) rfl ?_
  refine w_rg (n := t) (lo := 0) (fun k ρ => ∃ z, ρ = [some (RI w), some (RI (t : Int)), some (RI (gp w k)), z]) (ii_rng1 (n := t) rfl (by omega)) ⟨none, rfl⟩ (fun k ρ hk1 ⟨z, e⟩ => ?_) (fun ρ ⟨z, e⟩ => ?_)
  · subst e
    have z1 : c * k ≤ c * t := Nat.mul_le_mul_left _ (by omega)
    exact p_asg (RI (gp w (k + 1))) (c_mul rfl rfl (mulOk_of (gp_sm hw k) hw (by omega))) ⟨rfl, _, rfl⟩
  · subst e
    exact p_ret rfl
theorem e_choices {t : Nat} (ht : t ≤ 1000) (h : WF S) : callN st.T (n + 1) 28 [RI (t : Int)] S = .ok (RL (ch t)) S := by
  refine run_ret (F := f28) rfl rfl h ?_
  refine p_asg (RL (ch 0)) (by rw [ch]; rfl) ?_
  refine w_rg (n := t) (lo := 0) (fun k ρ => ∃ z, ρ = [some (RI (t : Int)), some (RL (ch k)), z, none]) (ii_rng1 (n := t) rfl (by omega)) ⟨none, rfl⟩ (fun k ρ hk1 ⟨z, e⟩ => ?_) (fun ρ ⟨z, e⟩ => ?_)
  · subst e
    have hl := ch_len k
    refine p_asg (RL (ch (k + 1))) ?_ ⟨rfl, _, rfl⟩
    rw [ch_eq]
    refine c_cat (c_cat (a := [1]) rfl ?_ (by rw [List.length_map, List.length_range]; simp; omega)) rfl (by simp; omega)
    rw [RLr]
    have e1 : (((ch k).length : Int) - 1) = (((ch k).length - 1 : Nat) : Int) := by omega
    refine lc_rng (lo := 0) (ii_rng1 (n := (ch k).length - 1) (by rw [← e1]; exact c_sub (c_bi1 (v := RL (ch k)) rfl RowR.dat.len) rfl) (by omega)) (fun j hj => ?_) (by omega)
    rw [Int.zero_add (j : Int)]
    have i2 := RowR.ix (S := S) (k := j + 1) (RowR.dat (a := ch k)) (by omega)
    rw [show ((j + 1 : Nat) : Int) = (j : Int) + 1 by omega] at i2
    exact c_add (S1 := S) (c_ix (x := RL (ch k)) (y := RI (j : Int)) rfl rfl (RowR.dat.ix (by omega))) (c_ix (x := RL (ch k)) (y := RI ((j : Int) + 1)) rfl (c_add rfl rfl) i2)
  · subst e
    exact p_ret rfl

end K58
set_option Elab.async false
set_option linter.all false
set_option maxRecDepth 100000
set_option maxHeartbeats 2000000
/-! K58Tr -/
namespace K58
open PySem PySem.Spec PyProof.Rows L2 MP DL
variable {n : Nat} {S : Store} {A : List (List Int)} {kd : Nat}
theorem e_shared {ds : List Int} {k : Nat} (hp : ∀ d ∈ ds, 0 < d) (hs : ∀ d ∈ ds, Sm k d) (hk : 1 + k * ds.length + k ≤ 8900) (hz : ds.length ≤ 1000) (h : WF S) : callN st.T (n + 2) 30 [RL ds] S = .ok (RI (cdeg ds)) S := by
  refine run_ret (F := f30) rfl rfl h ?_
  refine p_asg (RI 1) rfl ?_
  refine w_wk (q := RL ds) (xs := (ds.map D.int).map R.dat) (fun i ρ => i ≤ ds.length ∧ ∃ z, ρ = [some (RL ds), some (RI (cdeg (ds.take i))), z]) rfl Lst.dat.toWk ⟨Nat.zero_le _, none, rfl⟩ (fun i z ρ hz ⟨hi, y, e⟩ => ?_) (fun ρ ⟨hi, z, e⟩ => ?_)
  · subst e
    obtain ⟨hj, rfl⟩ := row_rin hz
    have hd : ds[i]? = some (el ds i) := by
      unfold el
      rw [List.getElem?_eq_getElem hj]
      rfl
    have s1 := cdeg_sm hs i hi
    have p1 : 0 < cdeg (ds.take i) := cdeg_pos fun d hd => hp d (List.mem_of_mem_take hd)
    have p2 := hp _ (el_mem hj)
    have s2 := hs _ (el_mem hj)
    have z1 : k * i ≤ k * ds.length := Nat.mul_le_mul_left _ hi
    have d := gc_div (x := cdeg (ds.take i)) p2 s2 (by omega)
    have sd := div_sm s2 (gc_pos (x := cdeg (ds.take i)) p2)
    refine p_asg (RI (cdeg (ds.take (i + 1)))) ?_ ⟨rfl, hj, _, rfl⟩
    rw [cdeg_take hd, ← gc_lcm p1 p2]
    exact c_mul rfl (c_div rfl (c_call2 rfl rfl (e_gcd (n := n) h)) d) (mulOk_of s1 sd (by omega))
  · subst e
    have e2 : ds.take ((ds.map D.int).map R.dat).length = ds := by rw [List.length_map, List.length_map, List.take_length]
    rw [e2]
    exact p_ret rfl
theorem e_stepped {t : Nat} (g : Net A kd) (hk : 1 + sb A kd * (t + 1) ≤ 999990) (h : WF S) : callN st.T (n + 1) 29 [RM (tb A t), RM A, RL (shr A)] S = .ok (RM (tb A (t + 1))) S := by
  have hz := g.le
  have hs : sb A kd = kd + cb A kd + 6 := rfl
  rw [Nat.mul_succ] at hk
  have wf : ∀ k, WF (S ++ [Cell.lst (((tb A (t + 1)).take k).map fun r => R.dat (IL r))]) := fun k => wf_push h (by
    have := below_dats (m := S.length + 1) (((tb A (t + 1)).take k).map IL)
    rw [List.map_map] at this
    exact this)
  refine run_q (F := f29) (fun z => z = .ok (RM (tb A (t + 1))) S) rfl rfl ?_
  let P : SRes → Prop := fun z => sealS S.length z = .ok (RM (tb A (t + 1))) S
  show P _
  let W : Nat → Store := fun k => S ++ [Cell.lst (((tb A (t + 1)).take k).map fun r => R.dat (IL r))]
  refine p_asg (S1 := W 0) (.own S.length) rfl ?_
  let E : Option R → Option R → Option R → Option R → Option R → MP.Env := fun line row k part away => [some (RM (tb A t)), some (RM A), some (RL (shr A)), some (.own S.length), line, row, k, part, away, none]
  refine w_for (xs := (((tb A t).map IL).map R.dat).map .one) (g := []) (fun i ρ S' => S' = W i ∧ ∃ a b c d e, ρ = E a b c d e) (ii_wk (q := RM (tb A t)) (S := W 0) rfl Lst.dat.toWk) ⟨rfl, none, none, none, none, none, rfl⟩ (fun _ _ _ _ => gd_nil) (fun i z ρ S' hz1 hp => ?_) (fun ρ S' hp => ?_)
  · obtain ⟨rfl, a, b, c, d, e, rfl⟩ := hp
    obtain ⟨z, h1, rfl⟩ := one_at hz1
    obtain ⟨hi, rfl⟩ := il_at h1
    rw [tb_len] at hi
    refine ⟨_, rfl, ?_⟩
    rw [tb_row hi]
    have pl := pw_len A i t
    have ps_ := pw_sm g i t
    have sl := shr_len (A := A)
    have ss : ∀ k, k < A.length → Sm (cb A kd) (el (shr A) k) := fun k hk => by rw [shr_at hk]; exact div_sm g.ws (g.pos _ (row_mem hk))
    refine p_asg (S1 := W i) (RL (List.replicate A.length 0)) ?_ ?_
    · refine c_bin (x := .dat (.lst [.int 0])) (y := RI A.length) rfl (c_bi1 (v := RM A) rfl Rep.dat.len) ?_
      show repL false (.dat (.lst [.int 0])) (A.length : Int) (W i) = _
      have q : itemsL (W i) (.dat (.lst [.int 0])) = some [RI 0] := rfl
      unfold repL
      rw [q]
      have h1 : small ([RI 0].length * (A.length : Int).toNat) = true := decide_eq_true (by simp; omega)
      simp only [h1]
      rw [if_pos ⟨trivial, by omega, by omega⟩]
      have e2 : (List.replicate (A.length : Int).toNat [RI 0]).flatten = ((List.replicate A.length (0 : Int)).map D.int).map R.dat := by simp
      rw [e2]
      unfold mkL
      rw [datsR_map]
    have hsm : ∀ k j, k ≤ A.length → j < A.length → Sm (1 + sb A kd * t + cb A kd + kd + 6) (sm k fun k => el (pw A i t) k * el (shr A) k * el (row A k) j) := fun k j hk hj => sm_sm (fun q hq => ((ps_ _ (el_mem (by rw [pl]; omega))).mul (ss q (by omega))).mul (g.elw (row_mem (by omega)) (el_mem (by rw [g.sq _ (row_mem (by omega))]; exact hj)))) (by omega)
    refine w_rng (n := A.length) (lo := 0) (fun k ρ S' => S' = W i ∧ ∃ c d e, ρ = E (some (RL (pw A i t))) (some (RL ((List.range A.length).map fun j => sm k fun k => el (pw A i t) k * el (shr A) k * el (row A k) j))) c d e) (ii_rng1 (n := A.length) (c_bi1 (v := RM A) rfl Rep.dat.len) (by omega)) ⟨rfl, c, d, e, ?_⟩ (fun k ρ S' hk hp => ?_) (fun ρ S' hp => ?_)
    · have : List.replicate A.length (0 : Int) = (List.range A.length).map fun j => sm 0 fun k => el (pw A i t) k * el (shr A) k * el (row A k) j := by
        refine el_ext (by simp) fun k hk => ?_
        rw [List.length_replicate] at hk
        rw [el_map hk, sm_zero]
        unfold el
        rw [List.getElem?_replicate, if_pos hk]
        rfl
      rw [this]
      rfl
    · obtain ⟨rfl, c, d, e, rfl⟩ := hp
      rw [Int.zero_add]
      have s1 := ps_ _ (el_mem (by rw [pl]; exact hk : k < (pw A i t).length))
      have s2 := ss k hk
      refine p_asg (S1 := W i) (RI (el (pw A i t) k * el (shr A) k)) (c_mul (c_ix (x := RL (pw A i t)) (y := RI (k : Int)) rfl rfl (RowR.dat.ix (by rw [pl]; exact hk))) (c_ix (x := RL (shr A)) (y := RI (k : Int)) rfl rfl (RowR.dat.ix (by rw [sl]; exact hk))) (mulOk_of s1 s2 (by omega))) ?_
      refine p_asg (S1 := W i) (RL (row A k)) (c_ix (x := RM A) (y := RI (k : Int)) rfl rfl (ix_nat (row_at hk))) ?_
      refine p_asg (S1 := W i) (RL ((List.range A.length).map fun j => sm (k + 1) fun k => el (pw A i t) k * el (shr A) k * el (row A k) j)) ?_ ⟨rfl, _, _, _, rfl⟩
      rw [RLr (f := fun j => sm (k + 1) fun k => el (pw A i t) k * el (shr A) k * el (row A k) j)]
      refine lc_rng (lo := 0) (ii_rng1 (n := A.length) (c_bi1 (v := RM A) rfl Rep.dat.len) (by omega)) (fun j hj => ?_) (by omega)
      rw [Int.zero_add (j : Int), sm_succ]
      have i1 := RowR.ix (S := W i) (k := j) (RowR.dat (a := (List.range A.length).map fun j => sm k fun k => el (pw A i t) k * el (shr A) k * el (row A k) j)) (by rw [List.length_map, List.length_range]; exact hj)
      rw [el_map hj] at i1
      have lj : j < (row A k).length := by rw [g.sq _ (row_mem hk)]; exact hj
      exact c_add (S1 := W i) (c_ix (x := RL ((List.range A.length).map fun j => sm k fun k => el (pw A i t) k * el (shr A) k * el (row A k) j)) (y := RI (j : Int)) rfl rfl i1) (c_mul rfl (c_ix (x := RL (row A k)) (y := RI (j : Int)) rfl rfl (RowR.dat.ix lj)) (mulOk_of (s1.mul s2) (g.elw (row_mem hk) (el_mem lj)) (by omega)))
    · obtain ⟨rfl, c, d, e, rfl⟩ := hp
      have e3 : ((List.range A.length).map fun j => sm A.length fun k => el (pw A i t) k * el (shr A) k * el (row A k) j) = pw A i (t + 1) := by
        refine el_ext (by rw [List.length_map, List.length_range, pw_len]) fun j hj => ?_
        rw [List.length_map, List.length_range] at hj
        rw [el_map hj]
        exact (deal_el hj).symm
      rw [e3]
      refine w_app (v := RL (pw A i (t + 1))) rfl rfl (by rw [List.length_map, List.length_take, tb_len]; omega) ⟨?_, _, _, _, _, _, rfl⟩
      show S ++ [Cell.lst (_ ++ [R.dat (IL (pw A i (t + 1)))])] = S ++ [Cell.lst _]
      have : (tb A (t + 1))[i]? = some (pw A i (t + 1)) := by unfold tb; rw [List.getElem?_map, List.getElem?_range hi]; rfl
      rw [List.take_add_one, this, List.map_append]
      rfl
  · obtain ⟨rfl, a, b, c, d, e, rfl⟩ := hp
    rw [List.length_map, List.length_map, List.length_map, tb_len]
    refine w_ret (v := .own S.length) (S1 := W A.length) rfl ?_
    have e4 : W A.length = S ++ [Cell.lst (((tb A (t + 1)).map IL).map R.dat)] := by
      show S ++ [Cell.lst _] = _
      rw [List.take_of_length_le (by rw [tb_len]; exact Nat.le_refl _), List.map_map]
      rfl
    rw [e4]
    refine seal_own (S := S) (S0 := S) rfl h (Nat.le_refl _) ?_
    rw [toD_lst get_last (Nat.le_refl _), allD_dat]
    rfl
theorem e_traces (g : Net A kd) {t : Nat} (ht : t ≤ 60) (hb : 1 + kd * A.length + kd ≤ 8900) (hk : 1 + sb A kd * (t + 2) ≤ 999990) (h : WF S) : callN st.T (n + 3) 16 [RM A, RI (t : Int)] S = .ok (.dat (.tup [IL ((List.range (t + 1)).map (trc A)), .int (whole A)])) S := by
  have hz := g.le
  have hs : sb A kd = kd + cb A kd + 6 := rfl
  refine run_q (F := f16) (fun z => z = .ok (.dat (.tup [IL ((List.range (t + 1)).map (trc A)), .int (whole A)])) S) rfl rfl ?_
  let P : SRes → Prop := fun z => sealS S.length z = .ok (.dat (.tup [IL ((List.range (t + 1)).map (trc A)), .int (whole A)])) S
  show P _
  refine p_asg (S1 := S) (RL (degs A)) (e_sums rfl (by show 12 < 13; decide) (by omega)) ?_
  have dp : ∀ d ∈ degs A, 0 < d := fun d hd => by
    obtain ⟨r, hr, e⟩ := List.mem_map.mp hd
    rw [← e]
    exact g.pos r hr
  refine p_asg (S1 := S) (RI (whole A)) (c_call1 rfl (e_shared (n := n) (k := kd) dp g.ds (by rw [List.length_map]; omega) (by rw [List.length_map]; omega) h)) ?_
  refine p_asg (S1 := S) (RL (shr A)) ?_ ?_
  · have e1 : RL (shr A) = .dat (.lst ((List.range A.length).map fun k => D.int (whole A / (row A k).sum))) := by
      unfold shr
      rw [map_row (fun r => whole A / r.sum), RLr]
    rw [e1]
    refine lc_wk (q := RL (degs A)) rfl Lst.dat.toWk (by rw [List.length_map, List.length_map, List.length_map]) (fun k z hz => ?_) (by omega)
    rw [List.getElem?_map] at hz
    cases h3 : ((degs A).map D.int)[k]? with
    | none => rw [h3] at hz; cases hz
    | some d =>
      rw [h3] at hz
      cases hz
      obtain ⟨hk2, rfl⟩ := dg_at h3
      exact c_div rfl rfl (g.div (row_mem hk2))
  refine p_asg (S1 := S) (RM (tb A 0)) ?_ ?_
  · unfold tb
    rw [RM_map]
    refine lc_rng (lo := 0) (ii_rng1 (n := A.length) (c_bi1 (v := RM A) rfl Rep.dat.len) (by omega)) (fun i hi => ?_) (by omega)
    rw [Int.zero_add (i : Int)]
    show evE _ _ _ _ = Res.ok (R.dat (IL (unit A.length i))) S
    unfold unit
    rw [RL_map]
    refine lc_rng (lo := 0) (ii_rng1 (n := A.length) (c_bi1 (v := RM A) rfl Rep.dat.len) (by omega)) (fun j hj => ?_) (by omega)
    rw [Int.zero_add (j : Int)]
    refine (c_bi1 (v := .dat (.bl (decide ((i : Int) = (j : Int))))) rfl rfl).trans ?_
    by_cases hb : j = i
    · subst hb
      rw [decide_eq_true rfl, if_pos rfl]
      rfl
    · rw [decide_eq_false (by omega), if_neg hb]
      rfl
  refine p_asg (S1 := S ++ [pool []]) (.own S.length) rfl ?_
  have wf : ∀ l : List Int, WF (S ++ [pool l]) := fun l => wf_push h (below_dats _)
  let E : Nat → Option R → MP.Env := fun s z => [some (RM A), some (RI (t : Int)), some (RL (degs A)), some (RI (whole A)), some (RL (shr A)), some (RM (tb A s)), some (.own S.length), z, none, none, none, none, none]
  refine w_rng (n := t + 1) (lo := 0) (fun s ρ S' => S' = S ++ [pool ((List.range s).map (trc A))] ∧ ∃ z, ρ = E s z) (ii_rng1 (n := t + 1) (by rw [show ((t + 1 : Nat) : Int) = (t : Int) + 1 by omega]; exact c_add rfl rfl) (by omega)) ⟨rfl, none, rfl⟩ (fun s ρ S' hs1 hp => ?_) (fun ρ S' hp => ?_)
  · obtain ⟨rfl, z, rfl⟩ := hp
    rw [Int.zero_add]
    have z1 : sb A kd * (s + 1) ≤ sb A kd * (t + 2) := Nat.mul_le_mul_left _ (by omega)
    refine w_app (v := RI (trc A s)) rfl (c_bi1 (v := .dat (.lst ((List.range A.length).map fun k => D.int (el (pw A k s) k)))) ?_ sum_rng) (by rw [List.length_map, List.length_map, List.length_map, List.length_range]; omega) ?_
    · refine lc_rng (lo := 0) (ii_rng1 (n := A.length) (c_bi1 (v := RM A) rfl Rep.dat.len) (by omega)) (fun k hk => ?_) (by omega)
      rw [Int.zero_add (k : Int)]
      have i1 : ixR (RM (tb A s)) (RI (k : Int)) (S ++ [pool ((List.range s).map (trc A))]) = .ok (RL (pw A k s)) (S ++ [pool ((List.range s).map (trc A))]) := by
        rw [← tb_row (t := s) hk]
        exact ix_nat (row_at (by rw [tb_len]; exact hk))
      exact c_ix (x := RL (pw A k s)) (y := RI (k : Int)) (c_ix (x := RM (tb A s)) (y := RI (k : Int)) rfl rfl i1) rfl (RowR.dat.ix (by rw [pw_len]; exact hk))
    have e1 : (S ++ [Cell.lst ((((List.range s).map (trc A)).map D.int).map R.dat ++ [RI (trc A s)])]) = S ++ [pool ((List.range (s + 1)).map (trc A))] := by
      unfold pool
      rw [List.range_succ, List.map_append, List.map_append, List.map_append]
      rfl
    rw [e1]
    exact p_asg (S1 := S ++ [pool ((List.range (s + 1)).map (trc A))]) (RM (tb A (s + 1))) (c_call3 rfl rfl rfl (e_stepped (n := n + 1) (t := s) g (by omega) (wf _))) ⟨rfl, _, rfl⟩
  · obtain ⟨rfl, z, rfl⟩ := hp
    refine w_ret (v := .own (S.length + 1)) (S1 := S ++ [pool ((List.range (t + 1)).map (trc A)), Cell.tup [.own S.length, RI (whole A)]]) ?_ ?_
    · show MP.M.bind (MP.M.bind (evE _ _ _) fun x => MP.M.bind (MP.M.bind (evE _ _ _) fun y => MP.M.bind (MP.M.pure []) fun ys => MP.M.pure (y :: ys)) fun xs => MP.M.pure (x :: xs)) mkT _ = _
      rw [bind_assoc, bind_at (show evE _ _ _ _ = Res.ok (R.own S.length) _ from rfl), bind_assoc, bind_assoc, bind_at (show evE _ _ _ _ = Res.ok (RI (whole A)) _ from rfl)]
      show mkT [.own S.length, RI (whole A)] _ = _
      unfold mkT
      show Res.ok (R.own (S ++ [pool _]).length) _ = _
      simp
    · show sealS _ (.go (.ret (.own (S.length + 1))) _ (S ++ ([pool _, Cell.tup _]))) = _
      refine seal_own (S := S) (S0 := S) rfl h (by omega) ?_
      have g1 : (S ++ [pool ((List.range (t + 1)).map (trc A)), Cell.tup [.own S.length, RI (whole A)]])[S.length + 1]? = some (Cell.tup [.own S.length, RI (whole A)]) := by
        rw [List.getElem?_append_right (by omega)]
        simp
      have g0 : (S ++ [pool ((List.range (t + 1)).map (trc A)), Cell.tup [.own S.length, RI (whole A)]])[S.length]? = some (pool ((List.range (t + 1)).map (trc A))) := by
        rw [List.getElem?_append_right (by omega)]
        simp
      rw [toD_tup g1 (by omega)]
      have e5 : toD S.length (S ++ [pool ((List.range (t + 1)).map (trc A)), Cell.tup [.own S.length, RI (whole A)]]) 7 (.own S.length) = some (IL ((List.range (t + 1)).map (trc A))) := by
        rw [toD_lst g0 (by omega), allD_dat]
        rfl
      show (match toD S.length _ 7 (.own S.length), allD _ [RI (whole A)] with
        | some d, some ds => some (d :: ds)
        | _, _ => none).map D.tup = _
      rw [e5]
      rfl

end K58
set_option Elab.async false
set_option linter.all false
set_option maxRecDepth 100000
set_option maxHeartbeats 2000000
/-! K58Due -/
namespace K58
open PySem PySem.Spec PyProof.Rows L2 MP DL
variable {n : Nat} {S : Store} {A B : List (List Int)} {kd kd2 : Nat}
abbrev trD (A : List (List Int)) (t : Nat) : D := .tup [IL ((List.range (t + 1)).map (trc A)), .int (whole A)]
theorem tr_ix {t m : Nat} (hm : m ≤ t) : ixR (RL ((List.range (t + 1)).map (trc A))) (RI (m : Int)) S = .ok (RI (trc A m)) S := by
  have := RowR.ix (S := S) (k := m) (RowR.dat (a := (List.range (t + 1)).map (trc A))) (by rw [List.length_map, List.length_range]; omega)
  rw [el_map (by omega)] at this
  exact this
theorem ch_sm : ∀ t m, Sm (t + 1) (el (ch t) m)
  | 0, m => by
    cases m with
    | zero => rw [ch_z]; show (1 : Int).natAbs < 2 ^ 1; decide
    | succ m => rw [el_over (by rw [ch_len]; omega)]; show (0 : Int).natAbs < 2 ^ 1; decide
  | t + 1, 0 => by rw [ch_z]; exact (show Sm 1 1 by show (1 : Int).natAbs < 2 ^ 1; decide).mono (by omega)
  | t + 1, m + 1 => by rw [ch_succ]; exact add_sm (ch_sm t m) (ch_sm t (m + 1))
theorem trc_sm (g : Net A kd) (t : Nat) : Sm (1 + sb A kd * t + 6) (trc A t) := sm_sm (fun i hi => pw_sm g i t _ (el_mem (by rw [pw_len]; exact hi))) (by have := g.le; omega)
theorem e_hdue (g : Net A kd) {t : Nat} (ht : t ≤ 60) (hk : sb A kd * (t + 1) ≤ 100000) (h : WF S) : callN st.T (n + 2) 13 [.dat (trD A t), RI (t : Int)] S = .ok (.dat (TL [bs t (hlfT A), gp (2 * whole A) t])) S := by
  have hs : sb A kd = kd + cb A kd + 6 := rfl
  rw [Nat.mul_succ] at hk
  have tw : Sm (cb A kd + 1) (2 * whole A) := by
    have h1 : (whole A).natAbs < 2 ^ cb A kd := g.ws
    show (2 * whole A).natAbs < 2 ^ (cb A kd + 1)
    rw [Nat.pow_succ]
    omega
  generalize hd : TL [bs t (hlfT A), gp (2 * whole A) t] = dd
  refine run_ret (F := f13) rfl rfl h ?_
  refine p_asg (S1 := S) (RL (ch t)) (c_call1 rfl (e_choices (n := n) (by omega) h)) ?_
  refine p_asg (S1 := S) (RI 0) rfl ?_
  refine w_rg (n := t + 1) (lo := 0) (fun m ρ => ∃ y z, ρ = [some (.dat (trD A t)), some (RI (t : Int)), some (RL (ch t)), some (RI (sm m fun m => el (ch t) m * hlfT A m (t - m))), y, z]) (ii_rng1 (n := t + 1) (by rw [show ((t + 1 : Nat) : Int) = (t : Int) + 1 by omega]; exact c_add rfl rfl) (by omega)) ⟨none, none, rfl⟩ (fun m ρ hm ⟨y, z, e⟩ => ?_) (fun ρ ⟨y, z, e⟩ => ?_)
  · subst e
    rw [Int.zero_add]
    have z1 : sb A kd * m ≤ sb A kd * t := Nat.mul_le_mul_left _ (by omega)
    have z2 : cb A kd * (t - m) ≤ cb A kd * t := Nat.mul_le_mul_left _ (by omega)
    have z3 : cb A kd * t ≤ sb A kd * t := Nat.mul_le_mul_right _ (by omega)
    refine p_asg (S1 := S) (RI (gp (whole A) (t - m))) (c_call2 (w := RI ((t - m : Nat) : Int)) (c_ix (x := .dat (trD A t)) (y := RI 1) rfl rfl rfl) (by rw [show ((t - m : Nat) : Int) = (t : Int) - (m : Int) by omega]; exact c_sub rfl rfl) (e_raised (n := n) (t := t - m) g.ws (by omega) (by omega) h)) ?_
    refine p_asg (S1 := S) (RI (sm (m + 1) fun m => el (ch t) m * hlfT A m (t - m))) ?_ ⟨rfl, _, _, rfl⟩
    rw [sm_succ]
    unfold hlfT
    rw [← Int.mul_assoc]
    have s1 := ch_sm t m
    have s2 := trc_sm g m
    exact c_add rfl (c_mul (c_mul (c_ix (x := RL (ch t)) (y := RI (m : Int)) rfl rfl (RowR.dat.ix (by rw [ch_len]; omega))) (c_ix (x := RL ((List.range (t + 1)).map (trc A))) (y := RI (m : Int)) (c_ix (x := .dat (trD A t)) (y := RI 0) rfl rfl rfl) rfl (tr_ix (by omega))) (mulOk_of s1 s2 (by omega))) rfl (mulOk_of (s1.mul s2) (gp_sm g.ws (t - m)) (by omega)))
  · subst e
    have z3 : (cb A kd + 1) * t ≤ sb A kd * t := Nat.mul_le_mul_right _ (by omega)
    have eb : (sm (t + 1) fun m => el (ch t) m * hlfT A m (t - m)) = bs t (hlfT A) := rfl
    rw [eb, ← hd]
    clear hd eb
    generalize bs t (hlfT A) = bb
    have q := e_raised (n := n) (S := S) (t := t) tw (by omega) (by omega) h
    exact p_ret (d := .tup [.int bb, .int (gp (2 * whole A) t)]) (c_tup2 rfl (c_call2 (v := RI (2 * whole A)) (c_mul rfl (c_ix (x := .dat (trD A t)) (y := RI 1) rfl rfl rfl) (mulOk_of (show Sm 2 2 by show (2 : Int).natAbs < 2 ^ 2; decide) g.ws (by omega))) rfl q))
theorem e_sdue (g : Net A kd) (g2 : Net B kd2) {x y : Int} (hx : Sm 10 x) (hy : Sm 10 y) {t : Nat} (ht : t ≤ 60) (hk : sb A kd * (t + 1) ≤ 100000) (hk2 : sb B kd2 * (t + 1) ≤ 100000) (h : WF S) :
    callN st.T (n + 2) 14 [.dat (trD A t), .dat (trD B t), .dat (TL [x, y]), RI (t : Int)] S = .ok (.dat (TL [bs t (mixT A B x y), gp ((x + y) * whole A * whole B) t])) S := by
  have hs : sb A kd = kd + cb A kd + 6 := rfl
  have hs2 : sb B kd2 = kd2 + cb B kd2 + 6 := rfl
  rw [Nat.mul_succ] at hk hk2
  generalize hd : TL [bs t (mixT A B x y), gp ((x + y) * whole A * whole B) t] = dd
  refine run_ret (F := f14) rfl rfl h ?_
  refine p_asg (S1 := S) (RL (ch t)) (c_call1 rfl (e_choices (n := n) (by omega) h)) ?_
  refine p_asg (S1 := S) (RI 0) rfl ?_
  have c1 : ∀ m, m ≤ t → cb A kd * m ≤ sb A kd * t ∧ sb A kd * m ≤ sb A kd * t := fun m hm => ⟨Nat.le_trans (Nat.mul_le_mul_left _ hm) (Nat.mul_le_mul_right _ (by omega)), Nat.mul_le_mul_left _ hm⟩
  have c2 : ∀ m, m ≤ t → cb B kd2 * m ≤ sb B kd2 * t ∧ sb B kd2 * m ≤ sb B kd2 * t := fun m hm => ⟨Nat.le_trans (Nat.mul_le_mul_left _ hm) (Nat.mul_le_mul_right _ (by omega)), Nat.mul_le_mul_left _ hm⟩
  have xy0 : ∀ ρ : MP.Env, ρ[2]? = some (some (.dat (TL [x, y]))) → ∀ q1 q2 q3 k, evE (st.T.C (n + 1)).toCalls (.ix (.var 2 "pair" q1) (.int 0 k q2) q3) ρ S = .ok (RI x) S := fun ρ hρ _ _ _ _ => c_ix (x := .dat (TL [x, y])) (y := RI 0) (get_d hρ) rfl rfl
  have xy1 : ∀ ρ : MP.Env, ρ[2]? = some (some (.dat (TL [x, y]))) → ∀ q1 q2 q3 k, evE (st.T.C (n + 1)).toCalls (.ix (.var 2 "pair" q1) (.int 1 k q2) q3) ρ S = .ok (RI y) S := fun ρ hρ _ _ _ _ => c_ix (x := .dat (TL [x, y])) (y := RI 1) (get_d hρ) rfl rfl
  refine w_rg (n := t + 1) (lo := 0) (fun m ρ => ∃ a b c d e, ρ = [some (.dat (trD A t)), some (.dat (trD B t)), some (.dat (TL [x, y])), some (RI (t : Int)), some (RL (ch t)), some (RI (sm m fun m => el (ch t) m * mixT A B x y m (t - m))), a, b, c, d, e]) (ii_rng1 (n := t + 1) (by rw [show ((t + 1 : Nat) : Int) = (t : Int) + 1 by omega]; exact c_add rfl rfl) (by omega)) ⟨none, none, none, none, none, rfl⟩ (fun m ρ hm ⟨a, b, c, d, e, q⟩ => ?_) (fun ρ ⟨a, b, c, d, e, q⟩ => ?_)
  · subst q
    rw [Int.zero_add]
    have et : ((t - m : Nat) : Int) = (t : Int) - (m : Int) := by omega
    have d1 := c1 m (by omega)
    have d2 := c1 (t - m) (by omega)
    have d3 := c2 m (by omega)
    have d4 := c2 (t - m) (by omega)
    have s1 := ch_sm t m
    have s2 := trc_sm g m
    have s3 := trc_sm g2 (t - m)
    have p1 := gp_sm hx m
    have p2 := gp_sm g.ws (t - m)
    have p3 := gp_sm hy (t - m)
    have p4 := gp_sm g2.ws m
    refine p_asg (S1 := S) (RI (gp x m * gp (whole A) (t - m))) (c_mul (c_call2 (xy0 _ rfl _ _ _ _) rfl (e_raised (n := n) hx (by omega) (by omega) h)) (c_call2 (w := RI ((t - m : Nat) : Int)) (c_ix (x := .dat (trD A t)) (y := RI 1) rfl rfl rfl) (by rw [et]; exact c_sub rfl rfl) (e_raised (n := n) (t := t - m) g.ws (by omega) (by omega) h)) (mulOk_of p1 p2 (by omega))) ?_
    refine p_asg (S1 := S) (RI (gp y (t - m) * gp (whole B) m)) (c_mul (c_call2 (w := RI ((t - m : Nat) : Int)) (xy1 _ rfl _ _ _ _) (by rw [et]; exact c_sub rfl rfl) (e_raised (n := n) (t := t - m) hy (by omega) (by omega) h)) (c_call2 (c_ix (x := .dat (trD B t)) (y := RI 1) rfl rfl rfl) rfl (e_raised (n := n) g2.ws (by omega) (by omega) h)) (mulOk_of p3 p4 (by omega))) ?_
    have i2 := tr_ix (S := S) (A := B) (t := t) (m := t - m) (by omega)
    rw [et] at i2
    refine p_asg (S1 := S) (RI (trc A m * trc B (t - m))) (c_mul (c_ix (x := RL ((List.range (t + 1)).map (trc A))) (y := RI (m : Int)) (c_ix (x := .dat (trD A t)) (y := RI 0) rfl rfl rfl) rfl (tr_ix (by omega))) (c_ix (x := RL ((List.range (t + 1)).map (trc B))) (y := RI ((t : Int) - (m : Int))) (c_ix (x := .dat (trD B t)) (y := RI 0) rfl rfl rfl) (c_sub rfl rfl) i2) (mulOk_of s2 s3 (by omega))) ?_
    refine p_asg (S1 := S) (RI (sm (m + 1) fun m => el (ch t) m * mixT A B x y m (t - m))) ?_ ⟨rfl, _, _, _, _, _, rfl⟩
    rw [sm_succ]
    have em : el (ch t) m * mixT A B x y m (t - m) = el (ch t) m * (gp x m * gp (whole A) (t - m)) * (gp y (t - m) * gp (whole B) m) * (trc A m * trc B (t - m)) := by unfold mixT; grind
    rw [em]
    exact c_add rfl (c_mul (c_mul (c_mul (c_ix (x := RL (ch t)) (y := RI (m : Int)) rfl rfl (RowR.dat.ix (by rw [ch_len]; omega))) rfl (mulOk_of s1 (p1.mul p2) (by omega))) rfl (mulOk_of (s1.mul (p1.mul p2)) (p3.mul p4) (by omega))) rfl (mulOk_of ((s1.mul (p1.mul p2)).mul (p3.mul p4)) (s2.mul s3) (by omega)))
  · subst q
    have xy : Sm 11 (x + y) := add_sm hx hy
    have sb1 : Sm (11 + cb A kd + cb B kd2) ((x + y) * whole A * whole B) := (xy.mul g.ws).mul g2.ws
    refine p_asg (S1 := S) (RI ((x + y) * whole A * whole B)) (c_mul (c_mul (c_add (xy0 _ rfl _ _ _ _) (xy1 _ rfl _ _ _ _)) (c_ix (x := .dat (trD A t)) (y := RI 1) rfl rfl rfl) (mulOk_of xy g.ws (by omega))) (c_ix (x := .dat (trD B t)) (y := RI 1) rfl rfl rfl) (mulOk_of (xy.mul g.ws) g2.ws (by omega))) ?_
    have z1 : (11 + cb A kd + cb B kd2) * t ≤ 11 * t + sb A kd * t + sb B kd2 * t := by
      rw [Nat.add_mul, Nat.add_mul]
      have := (c1 t (Nat.le_refl _)).1
      have := (c2 t (Nat.le_refl _)).1
      omega
    have eb : (sm (t + 1) fun m => el (ch t) m * mixT A B x y m (t - m)) = bs t (mixT A B x y) := rfl
    rw [eb, ← hd]
    clear hd eb
    generalize bs t (mixT A B x y) = bb
    have q := e_raised (n := n) (S := S) (t := t) sb1 (by omega) (by omega) h
    exact p_ret (d := .tup [.int bb, .int (gp ((x + y) * whole A * whole B) t)]) (c_tup2 rfl (c_call2 rfl rfl q))
/-! ### what is refused -/
theorem e_refused {k : Int} (hk : k < 0 ∨ 60 < k) (h : WF S) : callN st.T (n + 3) 3 [.dat (webOf A), RI k] S = .ok (.dat (.bl true)) S := by
  refine run_ret (F := f3) rfl rfl h ?_
  refine w_tryR (c' := "OutOfRange") (ns := ["value"]) (l := [.int k]) (ρ1 := [some (.dat (webOf A)), some (RI k), none]) (S1 := S) (S2 := S) (v := .dat (.bl true)) (ρ2 := [some (.dat (webOf A)), some (RI k), some (.exc "OutOfRange" ["value"] [.int k])]) ?_ rfl ?_ ⟨_, rfl⟩
  · exact w_exprX (P := fun x => x = _) (c_call2 rfl rfl (e_traceX (n := n) hk h)) rfl
  · refine w_if0 (P := fun x => x = _) (S1 := S) (t := !true || false) (c_or (x := !true) (y := false) rfl rfl) rfl ?_
    exact w_ret (P := fun x => x = _) (c_and (x := true) (y := decide (k = k)) (c_call1 (v := RI k) rfl (e_whole (n := n + 1) k h)) rfl) (by rw [decide_eq_true rfl]; rfl)
/-! ### the pair of ways, a web from drawn rows -/
theorem e_pair {ns : List Int} {at_ : Int} (h : WF S) : ∃ x y : Int, (1 ≤ x ∧ x ≤ 1000) ∧ (1 ≤ y ∧ y ≤ 1000) ∧ callN st.T (n + 3) 8 [RL ns, RI at_] S = .ok (.dat (TL [x, y])) S := by
  refine run_q (F := f8) (fun z => ∃ x y : Int, (1 ≤ x ∧ x ≤ 1000) ∧ (1 ≤ y ∧ y ≤ 1000) ∧ z = .ok (.dat (TL [x, y])) S) rfl rfl ?_
  let P : SRes → Prop := fun z => ∃ x y : Int, (1 ≤ x ∧ x ≤ 1000) ∧ (1 ≤ y ∧ y ≤ 1000) ∧ sealS S.length z = .ok (.dat (TL [x, y])) S
  show P _
  obtain ⟨v, hv⟩ := e_cell (n := n + 1) (ns := ns) (k := at_) h
  have k0 := Int.emod_nonneg v (by decide : (4 : Int) ≠ 0)
  have k1 := Int.emod_lt_of_pos v (by decide : (0 : Int) < 4)
  refine p_asg (S1 := S) (RI (v % 4)) (c_mod (i := v) (j := 4) (c_bi1 (v := RI v) (c_call2 rfl rfl hv) rfl) rfl (by decide)) ?_
  generalize v % 4 = kind at k0 k1 ⊢
  let L : List Int := [1, 9, 1000, 1000]
  have hw : 1 ≤ el L kind.toNat ∧ el L kind.toNat ≤ 1000 := by
    rcases (by omega : kind = 0 ∨ kind = 1 ∨ kind = 2 ∨ kind = 3) with rfl | rfl | rfl | rfl <;> decide
  obtain ⟨rw_, hl, hb, hr⟩ := e_row (n := n) (ns := ns) (a := at_ + 1) (b := el L kind.toNat) (m := 2) hw.1 (by omega) (by omega) h
  refine p_asg (S1 := S ++ [pool rw_]) (.own S.length) (c_call4 rfl rfl (c_ix (x := RL L) (c_lst (es_cons rfl (es_cons rfl (es_cons rfl (es_cons rfl es_nil)))) rfl) rfl (ix_cases k0 k1)) rfl hr) ?_
  have hb2 : ∀ x ∈ rw_, 0 ≤ x ∧ x ≤ 999 := fun x hx => by have := hb x hx; omega
  refine w_ifN (S1 := S ++ [pool rw_]) _ (fun ρ S' => ∃ row : List Int, row.length = 2 ∧ (∀ x ∈ row, 0 ≤ x ∧ x ≤ 999) ∧ S' = S ++ [pool row] ∧ ρ = [some (RL ns), some (RI at_), some (RI kind), some (.own S.length)]) (show evE _ _ _ _ = .ok (.dat (.bl (decide (kind = 3)))) _ from rfl) (fun _ => ?_) (fun _ => ⟨rw_, hl, hb2, rfl, rfl⟩) ?_
  · have r0 : RowR (S ++ [pool rw_]) (.own S.length) rw_ := RowR.own get_last
    have m0 := Int.emod_nonneg (el rw_ 0) (by decide : (2 : Int) ≠ 0)
    have m1 := Int.emod_lt_of_pos (el rw_ 0) (by decide : (0 : Int) < 2)
    have i0 := r0.ix (k := 0) (by omega)
    refine p_next (ρ1 := [some (RL ns), some (RI at_), some (RI kind), some (.own S.length)]) (S1 := S ++ [pool (rw_.set ((el rw_ 0) % 2).toNat 999)]) ?_ ⟨_, by rw [List.length_set]; exact hl, fun x hx => ?_, rfl, rfl⟩
    · show SRes.of _ (MP.M.bind (evE _ _ _) (fun v => MP.M.bind (evE _ _ _) fun x => MP.M.bind (evE _ _ _) fun y => setIxR x y v) (S ++ [pool rw_])) _ = _
      rw [bind_at (show evE _ _ _ _ = .ok (RI 999) _ from rfl), bind_at (show evE _ _ _ _ = .ok (.own S.length) _ from rfl), bind_at (c_mod (i := el rw_ 0) (j := 2) (c_bi1 (v := RI (el rw_ 0)) (c_ix (x := .own S.length) (y := RI 0) rfl rfl i0) rfl) rfl (by decide)), set_pool (show ((el rw_ 0) % 2).toNat < rw_.length by omega) (by omega)]
      rfl
    · rcases List.mem_or_eq_of_mem_set hx with hx | rfl
      · exact hb2 x hx
      · exact ⟨by decide, by decide⟩
  rintro ρ S' ⟨row, hl, hb, rfl, rfl⟩
  have r0 : RowR (S ++ [pool row]) (.own S.length) row := RowR.own get_last
  have b0 := hb _ (el_mem (by omega : 0 < row.length))
  have b1 := hb _ (el_mem (by omega : 1 < row.length))
  refine w_ret (S1 := S ++ [pool row]) (c_tup2 (c_add (c_ix (x := .own S.length) (y := RI 0) rfl rfl (r0.ix (k := 0) (by omega))) rfl) (c_add (c_ix (x := .own S.length) (y := RI 1) rfl rfl (r0.ix (k := 1) (by omega))) rfl)) ⟨el row 0 + 1, el row 1 + 1, ⟨by omega, by omega⟩, ⟨by omega, by omega⟩, ?_⟩
  exact seal_cut rfl h
theorem e_lmade (g : Tied A) (h : WF S) : callN st.T (n + 3) 7 [RM A] S = .ok (.dat (webOf A)) S := by
  have hz := g.le
  refine run_q (F := f7) (fun z => z = .ok (.dat (webOf A)) S) rfl rfl ?_
  let P : SRes → Prop := fun z => sealS S.length z = .ok (.dat (webOf A)) S
  show P _
  refine p_asg (S1 := stM S A) (.own (S.length + A.length)) (lc_own rfl (by omega) fun k hk S' => rfl) ?_
  refine p_asg (S1 := stM S A) (.dat (webOf A)) (c_make1 (v := .own (S.length + A.length)) (S1 := stM S A) rfl (e_make (n := n) g rep_stM (stM_wf h))) ?_
  have x1 := ix_outer (S := S) (M := A) (i := 0) g.ge
  have hr : RowR (stM S A) (.own (S.length + 0)) (row A 0) := RowR.own (stM_row g.ge)
  have hl : 0 < (row A 0).length := by rw [g.sq _ (row_mem g.ge)]; exact g.ge
  refine p_next (ρ1 := [some (RM A), some (.own (S.length + A.length)), some (.dat (webOf A)), none]) (S1 := stM S (put A 0 0 (el (row A 0) 0 + 7))) (r_putS (i := 0) (j := 0) (w := el (row A 0) 0 + 7) (c_ix (x := .own (S.length + A.length)) (y := RI 0) rfl rfl x1) rfl (c_add (c_ix (c_ix (x := .own (S.length + A.length)) (y := RI 0) rfl rfl x1) (y := RI 0) rfl (hr.ix (k := 0) hl)) rfl) g.ge hl) ?_
  refine w_ret (S1 := stM S (put A 0 0 (el (row A 0) 0 + 7))) (v := .dat (webOf A)) rfl ?_
  exact seal_cut rfl h

end K58
set_option Elab.async false
set_option linter.all false
set_option maxRecDepth 100000
set_option maxHeartbeats 2000000
/-! K58Ask: what is asked of the webs. -/
namespace K58
open PySem PySem.Spec PyProof.Rows L2 MP DL
variable {n : Nat} {S : Store} {A B : List (List Int)} {x y : Int}
theorem mul_b {a b p q : Int} (ha : 0 ≤ a ∧ a ≤ p) (hb : 0 ≤ b ∧ b ≤ q) : 0 ≤ a * b ∧ a * b ≤ p * q :=
  ⟨Int.mul_nonneg ha.1 hb.1, Int.mul_le_mul ha.2 hb.2 hb.1 (Int.le_trans ha.1 ha.2)⟩
theorem ps_sm0 {k : Nat} : ∀ (rs : List (List Int)) (a : Nat) (t : Int), Sm a t → (∀ r ∈ rs, Sm k r.sum) → Sm (a + k * rs.length) (rs.foldl (fun t r => t * r.sum) t)
  | [], a, t, h, _ => h
  | r :: rs, a, t, h, hs => by
    have := ps_sm0 rs (a + k) (t * r.sum) (h.mul (hs _ List.mem_cons_self)) fun q hq => hs q (List.mem_cons_of_mem _ hq)
    rw [List.length_cons, Nat.mul_succ]
    exact this.mono (by omega)
theorem whole_sm {k : Nat} (g : Tied A) (hs : ∀ r ∈ A, Sm k r.sum) : Sm (k * A.length) (whole A) := by
  have h1 : Sm (k * A.length) (ps A) := by
    match A, g.ge with
    | r :: rs, _ =>
      show Sm (k * (r :: rs).length) (rs.foldl (fun t r => t * r.sum) (1 * r.sum))
      have := ps_sm0 (k := k) rs k (1 * r.sum) (by rw [Int.one_mul]; exact hs _ List.mem_cons_self) fun q hq => hs q (List.mem_cons_of_mem _ hq)
      rw [List.length_cons, Nat.mul_succ]
      exact this.mono (by omega)
  exact dvd_sm (whole_min fun r hr => ps_dvd A 1 r hr) (ps_pos g.pos) h1
/-- the bounds of a case -/
structure Ok (A B : List (List Int)) (x y : Int) (kA kB T : Nat) : Prop where
  gA : Net A kA
  gB : Net B kB
  k22 : kA ≤ 22 ∧ kB ≤ 22
  nA : A.length ≤ 4
  nB : B.length ≤ 4
  nAB : A.length * B.length ≤ 12
  eA : ∀ r ∈ A, ∀ z ∈ r, 0 ≤ z ∧ z ≤ 1000000
  eB : ∀ r ∈ B, ∀ z ∈ r, 0 ≤ z ∧ z ≤ 1000000
  hx : 1 ≤ x ∧ x ≤ 1000
  hy : 1 ≤ y ∧ y ≤ 1000
  T60 : T ≤ 60
  lim : 2 * (1 + (11 + kA * A.length + kB * B.length) * T) < 9000
section
variable {kA kB T : Nat}
theorem Ok.dA (o : Ok A B x y kA kB T) {i : Nat} (hi : i < A.length) : 0 ≤ (row A i).sum ∧ (row A i).sum ≤ 4000000 := by
  have h1 := o.gA.pos _ (row_mem hi)
  have h2 := sum_le (l := row A i) (b := 1000000) fun z hz => (o.eA _ (row_mem hi) z hz).2
  rw [o.gA.sq _ (row_mem hi)] at h2
  have := o.nA
  omega
theorem Ok.dB (o : Ok A B x y kA kB T) {i : Nat} (hi : i < B.length) : 0 ≤ (row B i).sum ∧ (row B i).sum ≤ 4000000 := by
  have h1 := o.gB.pos _ (row_mem hi)
  have h2 := sum_le (l := row B i) (b := 1000000) fun z hz => (o.eB _ (row_mem hi) z hz).2
  rw [o.gB.sq _ (row_mem hi)] at h2
  have := o.nB
  omega
theorem Ok.aA (o : Ok A B x y kA kB T) {i j : Nat} (hi : i < A.length) (hj : j < A.length) : 0 ≤ el (row A i) j ∧ el (row A i) j ≤ 1000000 := o.eA _ (row_mem hi) _ (el_mem (by rw [o.gA.sq _ (row_mem hi)]; exact hj))
theorem Ok.aB (o : Ok A B x y kA kB T) {i j : Nat} (hi : i < B.length) (hj : j < B.length) : 0 ≤ el (row B i) j ∧ el (row B i) j ≤ 1000000 := o.eB _ (row_mem hi) _ (el_mem (by rw [o.gB.sq _ (row_mem hi)]; exact hj))
theorem Ok.kron (o : Ok A B x y kA kB T) : Net (kron A B) 44 := by
  have hl := o.nAB
  refine ⟨prs_tied o.gA.ge o.gB.ge (by omega) (fun i k j l hi hk hj hl => ?_) (fun i k j l hi hk hj hl => ?_) (fun i k hi hk => ?_), fun r hr => ?_, by rw [prs_len]; omega⟩
  · have := mul_b (o.aA hi hj) (o.aB hk hl)
    unfold kronF
    omega
  · unfold kronF
    rw [o.gA.sym i j hi hj, o.gB.sym k l hk hl]
  · rw [kron_deg o.gA.toTied o.gB.toTied hi hk]
    exact Int.mul_pos (o.gA.pos _ (row_mem hi)) (o.gB.pos _ (row_mem hk))
  · obtain ⟨i, k, hi, hk, rfl⟩ := prs_mem hr
    rw [prs_sum, kron_deg o.gA.toTied o.gB.toTied hi hk]
    have := mul_b (o.dA hi) (o.dB hk)
    exact sm_of this.1 this.2 (by decide +kernel)
theorem Ok.mix (o : Ok A B x y kA kB T) : Net (mix A B x y) 55 := by
  have hl := o.nAB
  have hx : 0 ≤ x ∧ x ≤ 1000 := ⟨by have := o.hx; omega, o.hx.2⟩
  have hy : 0 ≤ y ∧ y ≤ 1000 := ⟨by have := o.hy; omega, o.hy.2⟩
  refine ⟨prs_tied o.gA.ge o.gB.ge (by omega) (fun i k j l hi hk hj hl => ?_) (fun i k j l hi hk hj hl => ?_) (fun i k hi hk => ?_), fun r hr => ?_, by rw [prs_len]; omega⟩
  · have h1 := mul_b (mul_b hx (o.aA hi hj)) (o.dB hk)
    have h2 := mul_b (mul_b hy (o.dA hi)) (o.aB hk hl)
    unfold mixF
    split <;> split <;> omega
  · unfold mixF
    rw [o.gA.sym i j hi hj, o.gB.sym k l hk hl]
    by_cases e1 : l = k
    · by_cases e2 : j = i
      · subst e1 e2; rfl
      · subst e1
        rw [if_pos rfl, if_neg e2, if_neg fun z => e2 z.symm]
    · by_cases e2 : j = i
      · subst e2
        rw [if_neg e1, if_pos rfl, if_neg (fun z => e1 z.symm)]
      · rw [if_neg e1, if_neg e2, if_neg (fun z => e1 z.symm), if_neg fun z => e2 z.symm]
  · rw [mix_deg o.gA.toTied o.gB.toTied hi hk]
    exact Int.mul_pos (Int.mul_pos (by have := o.hx; have := o.hy; omega) (o.gA.pos _ (row_mem hi))) (o.gB.pos _ (row_mem hk))
  · obtain ⟨i, k, hi, hk, rfl⟩ := prs_mem hr
    rw [prs_sum, mix_deg o.gA.toTied o.gB.toTied hi hk]
    have := mul_b (mul_b (a := x + y) (p := 2000) ⟨by omega, by omega⟩ (o.dA hi)) (o.dB hk)
    exact sm_of this.1 this.2 (by decide +kernel)
theorem half_net {A : List (List Int)} {k : Nat} (g : Net A k) (hn : A.length ≤ 4) (eA : ∀ r ∈ A, ∀ z ∈ r, 0 ≤ z ∧ z ≤ 1000000) : Net (hlf A) 23 := by
  have ae : ∀ {i j}, i < A.length → j < A.length → 0 ≤ el (row A i) j ∧ el (row A i) j ≤ 1000000 := fun {i j} hi hj => eA _ (row_mem hi) _ (el_mem (by rw [g.sq _ (row_mem hi)]; exact hj))
  have ad : ∀ {i}, i < A.length → 0 < (row A i).sum ∧ (row A i).sum ≤ 4000000 := fun {i} hi => by
    have h1 := g.pos _ (row_mem hi)
    have h2 := sum_le (l := row A i) (b := 1000000) fun z hz => (eA _ (row_mem hi) z hz).2
    rw [g.sq _ (row_mem hi)] at h2
    omega
  refine ⟨⟨by rw [hlf_len]; exact g.ge, by rw [hlf_len]; exact g.le, fun r hr => ?_, fun r hr z hz => ?_, fun i j hi hj => ?_, fun r hr => ?_⟩, fun r hr => ?_, by rw [hlf_len]; omega⟩
  · obtain ⟨i, hi, rfl⟩ := mem_row hr
    rw [hlf_len] at hi ⊢
    rw [hlf_row hi, List.length_map, List.length_range]
  · obtain ⟨i, hi, rfl⟩ := mem_row hr
    rw [hlf_len] at hi
    rw [hlf_row hi] at hz
    obtain ⟨j, hj, rfl⟩ := mem_rng hz
    have h1 := ae hi hj
    have h2 := ad hi
    split <;> omega
  · rw [hlf_len] at hi hj
    rw [hlf_row hi, hlf_row hj, el_map hj, el_map hi, g.sym i j hi hj]
    by_cases e : j = i
    · subst e; rfl
    · rw [if_neg e, if_neg fun z => e z.symm]
  · obtain ⟨i, hi, rfl⟩ := mem_row hr
    rw [hlf_len] at hi
    rw [hlf_deg g.toTied hi]
    have := ad hi
    omega
  · obtain ⟨i, hi, rfl⟩ := mem_row hr
    rw [hlf_len] at hi
    rw [hlf_deg g.toTied hi]
    have := ad hi
    show (2 * (row A i).sum).natAbs < 2 ^ 23
    omega
theorem mixLim (o : Ok A B x y kA kB T) {t : Nat} (ht : t ≤ T) {c : Nat} (hc : c ≤ 11 + kA * A.length + kB * B.length) : 2 * (1 + c * t) < 9000 := by
  have h1 : c * t ≤ (11 + kA * A.length + kB * B.length) * T := Nat.mul_le_mul hc ht
  have := o.lim
  omega
theorem fit {rows : List (List Int)} {kd c t : Nat} (g : Net rows kd) (hk : kd ≤ 55) (hn : rows.length ≤ 12) (ht : t ≤ 60) (hw : Sm c (whole rows)) (hb : 2 * (1 + c * t) < 9000) : Fits rows kd c t ∧ sb rows kd ≤ 722 := by
  have z : kd * rows.length ≤ 55 * 12 := Nat.mul_le_mul hk hn
  have hs : sb rows kd ≤ 722 := by show kd + (1 + kd * rows.length) + 6 ≤ 722; omega
  have z2 : sb rows kd * (t + 1) ≤ 722 * 61 := Nat.mul_le_mul hs (by omega)
  exact ⟨⟨ht, hw, by omega, hb⟩, hs⟩
theorem e_asked (o : Ok A B x y kA kB T) {t : Nat} (ht : t ≤ T) : callN st.T (n + 5) 1 [.own 0, RM A, RM B, .dat (TL [x, y]), RI (t : Int)] [Cell.lst ([webOf A, webOf B, webOf (kron A B), webOf (mix A B x y)].map R.dat)] = .ok (.dat (.bl true)) [Cell.lst ([webOf A, webOf B, webOf (kron A B), webOf (mix A B x y)].map R.dat)] := by
  obtain ⟨S, hS⟩ : ∃ S : Store, S = [Cell.lst ([webOf A, webOf B, webOf (kron A B), webOf (mix A B x y)].map R.dat)] := ⟨_, rfl⟩
  rw [← hS]
  have h : WF S := by rw [hS]; exact wf_push (S := []) wf_nil (below_dats _)
  have hw : Wk S (.own 0) ([webOf A, webOf B, webOf (kron A B), webOf (mix A B x y)].map R.dat) := (Lst.own (by rw [hS]; rfl)).toWk
  have w0 : ixR (.own 0) (RI 0) S = .ok (.dat (webOf A)) S := hw.ix (k := 0) rfl
  have w1 : ixR (.own 0) (RI 1) S = .ok (.dat (webOf B)) S := hw.ix (k := 1) rfl
  have w2 : ixR (.own 0) (RI 2) S = .ok (.dat (webOf (kron A B))) S := hw.ix (k := 2) rfl
  have w3 : ixR (.own 0) (RI 3) S = .ok (.dat (webOf (mix A B x y))) S := hw.ix (k := 3) rfl
  have t60 : t ≤ 60 := by have := o.T60; omega
  have k1 := o.k22
  have nA := o.nA
  have nB := o.nB
  have nAB := o.nAB
  have gK := o.kron
  have gM := o.mix
  have gHA := half_net o.gA o.nA o.eA
  have gHB := half_net o.gB o.nB o.eB
  have wA := whole_sm o.gA.toTied o.gA.v
  have wB := whole_sm o.gB.toTied o.gB.v
  have pA := whole_pos o.gA.pos
  have pB := whole_pos o.gB.pos
  have pxy : 0 < x + y := by have := o.hx; have := o.hy; omega
  have xy11 : Sm 11 (x + y) := by show (x + y).natAbs < 2 ^ 11; have := o.hx; have := o.hy; omega
  have s2 : Sm 2 2 := by show (2 : Int).natAbs < 2 ^ 2; decide
  have wK : Sm (kA * A.length + kB * B.length) (whole (kron A B)) := dvd_sm (kron_whole o.gA.toTied o.gB.toTied) (Int.mul_pos pA pB) (wA.mul wB)
  have wMb : Sm (11 + kA * A.length + kB * B.length) ((x + y) * whole A * whole B) := (xy11.mul wA).mul wB
  have wM : Sm (11 + kA * A.length + kB * B.length) (whole (mix A B x y)) := dvd_sm (mix_whole o.gA.toTied o.gB.toTied) (Int.mul_pos (Int.mul_pos pxy pA) pB) wMb
  have wHAb : Sm (2 + kA * A.length) (2 * whole A) := s2.mul wA
  have wHBb : Sm (2 + kB * B.length) (2 * whole B) := s2.mul wB
  have wHA : Sm (2 + kA * A.length) (whole (hlf A)) := dvd_sm (hlf_whole o.gA.toTied) (by omega) wHAb
  have wHB : Sm (2 + kB * B.length) (whole (hlf B)) := dvd_sm (hlf_whole o.gB.toTied) (by omega) wHBb
  have lA := mixLim o ht (c := kA * A.length) (by omega)
  have lB := mixLim o ht (c := kB * B.length) (by omega)
  have lK := mixLim o ht (c := kA * A.length + kB * B.length) (by omega)
  have lM := mixLim o ht (c := 11 + kA * A.length + kB * B.length) (by omega)
  have lHA := mixLim o ht (c := 2 + kA * A.length) (by omega)
  have lHB := mixLim o ht (c := 2 + kB * B.length) (by omega)
  have fA := fit o.gA (by omega) (by omega) t60 wA lA
  have fB := fit o.gB (by omega) (by omega) t60 wB lB
  have fK := fit gK (by omega) (by rw [prs_len]; exact nAB) t60 wK lK
  have fM := fit gM (by omega) (by rw [prs_len]; exact nAB) t60 wM lM
  have fHA := fit gHA (by omega) (by rw [hlf_len]; omega) t60 wHA lHA
  have fHB := fit gHB (by omega) (by rw [hlf_len]; omega) t60 wHB lHB
  have bA : sb A kA * (t + 2) ≤ 722 * 62 := Nat.mul_le_mul fA.2 (by omega)
  have bB : sb B kB * (t + 2) ≤ 722 * 62 := Nat.mul_le_mul fB.2 (by omega)
  have bA1 : sb A kA * (t + 1) ≤ 722 * 62 := Nat.mul_le_mul fA.2 (by omega)
  have bB1 : sb B kB * (t + 1) ≤ 722 * 62 := Nat.mul_le_mul fB.2 (by omega)
  have cA22 : kA * A.length ≤ 22 * 4 := Nat.mul_le_mul k1.1 nA
  have cB22 : kB * B.length ≤ 22 * 4 := Nat.mul_le_mul k1.2 nB
  have qA := gp_sm wA t
  have qB := gp_sm wB t
  have tA := e_traces (n := n + 1) (S := S) o.gA t60 (by omega) (by omega) h
  have tB := e_traces (n := n + 1) (S := S) o.gB t60 (by omega) (by omega) h
  refine run_ret (F := f1) rfl rfl h ?_
  refine p_asg (S1 := S) (.dat (trD A t)) (c_call2 rfl rfl tA) ?_
  refine p_asg (S1 := S) (.dat (trD B t)) (c_call2 rfl rfl tB) ?_
  refine p_asg (S1 := S) (RI (trc A t)) (c_ix (x := RL ((List.range (t + 1)).map (trc A))) (y := RI (t : Int)) (c_ix (x := .dat (trD A t)) (y := RI 0) rfl rfl rfl) rfl (tr_ix (Nat.le_refl _))) ?_
  have mt : cb A kA * t ≤ 722 * 60 := by
    have : cb A kA ≤ 722 := by have := fA.2; have : sb A kA = kA + cb A kA + 6 := rfl; omega
    exact Nat.mul_le_mul this t60
  have mtB : cb B kB * t ≤ 722 * 60 := by
    have : cb B kB ≤ 722 := by have := fB.2; have : sb B kB = kB + cb B kB + 6 := rfl; omega
    exact Nat.mul_le_mul this t60
  have cAt : kA * A.length * t ≤ 88 * 60 := Nat.mul_le_mul cA22 t60
  have cBt : kB * B.length * t ≤ 88 * 60 := Nat.mul_le_mul cB22 t60
  refine p_asg (S1 := S) (RI (gp (whole A) t)) (c_call2 (c_ix (x := .dat (trD A t)) (y := RI 1) rfl rfl rfl) rfl (e_raised (n := n + 3) wA (by omega) (by omega) h)) ?_
  refine p_asg (S1 := S) (RI (trc B t)) (c_ix (x := RL ((List.range (t + 1)).map (trc B))) (y := RI (t : Int)) (c_ix (x := .dat (trD B t)) (y := RI 0) rfl rfl rfl) rfl (tr_ix (Nat.le_refl _))) ?_
  refine p_asg (S1 := S) (RI (gp (whole B) t)) (c_call2 (c_ix (x := .dat (trD B t)) (y := RI 1) rfl rfl rfl) rfl (e_raised (n := n + 3) wB (by omega) (by omega) h)) ?_
  refine w_if0 (S1 := S) (t := !true) (c_not (c_call3 (v := .dat (F (trc A t) (sc A t))) (c_call2 (v := .dat (webOf A)) (c_ix (x := .own 0) (y := RI 0) rfl rfl w0) rfl (e_trace (n := n) o.gA fA.1 h)) rfl rfl (e_isf (n := n + 1) (sc_pos o.gA.pos t) (gp_pos pA t) rfl qA (by omega) h))) rfl ?_
  refine w_if0 (S1 := S) (t := !true) (c_not (c_call3 (v := .dat (F (trc B t) (sc B t))) (c_callKK2 (v := RI (t : Int)) (w := .dat (webOf B)) rfl (c_ix (x := .own 0) (y := RI 1) rfl rfl w1) rfl (e_trace (n := n) o.gB fB.1 h)) rfl rfl (e_isf (n := n + 1) (sc_pos o.gB.pos t) (gp_pos pB t) rfl qB (by omega) h))) rfl ?_
  have st1 := (trc_sm o.gA t)
  have st2 := (trc_sm o.gB t)
  have bAt : sb A kA * t ≤ 722 * 60 := Nat.mul_le_mul fA.2 t60
  have bBt : sb B kB * t ≤ 722 * 60 := Nat.mul_le_mul fB.2 t60
  refine w_if0 (S1 := S) (t := !true) (c_not (c_call3 (v := .dat (F (trc (kron A B) t) (sc (kron A B) t))) (w := RI (trc A t * trc B t)) (u := RI (gp (whole A) t * gp (whole B) t)) (c_call2 (v := .dat (webOf (kron A B))) (c_ix (x := .own 0) (y := RI 2) rfl rfl w2) rfl (e_trace (n := n) gK fK.1 h)) (c_mul rfl rfl (mulOk_of st1 st2 (by omega))) (c_mul rfl rfl (mulOk_of qA qB (by omega))) (e_isf (n := n + 1) (sc_pos gK.pos t) (Int.mul_pos (gp_pos pA t) (gp_pos pB t)) (kron_trc o.gA.toTied o.gB.toTied t) (qA.mul qB) (by have : (kA * A.length + kB * B.length) * t = kA * A.length * t + kB * B.length * t := Nat.add_mul _ _ _; omega) h))) rfl ?_
  have hx10 : Sm 10 x := by show x.natAbs < 2 ^ 10; have := o.hx; omega
  have hy10 : Sm 10 y := by show y.natAbs < 2 ^ 10; have := o.hy; omega
  refine p_asg (S1 := S) (.dat (TL [bs t (mixT A B x y), gp ((x + y) * whole A * whole B) t])) (c_call4 rfl rfl rfl rfl (e_sdue (n := n + 2) o.gA o.gB hx10 hy10 t60 (by omega) (by omega) h)) ?_
  refine w_if0 (S1 := S) (t := !true) (c_not (c_call3 (v := .dat (F (trc (mix A B x y) t) (sc (mix A B x y) t))) (c_call2 (v := .dat (webOf (mix A B x y))) (c_ix (x := .own 0) (y := RI 3) rfl rfl w3) rfl (e_trace (n := n) gM fM.1 h)) (ix_two0 rfl) (ix_two1 rfl) (e_isf (n := n + 1) (sc_pos gM.pos t) (gp_pos (Int.mul_pos (Int.mul_pos pxy pA) pB) t) (mix_trc o.gA.toTied o.gB.toTied (by have := o.hx; omega) (by have := o.hy; omega) t) (gp_sm wMb t) (by omega) h))) rfl ?_
  refine p_asg (S1 := S) (.dat (TL [bs t (hlfT A), gp (2 * whole A) t])) (c_call2 rfl rfl (e_hdue (n := n + 2) o.gA t60 (by omega) h)) ?_
  refine w_if0 (S1 := S) (t := !true) (c_not (c_call3 (v := .dat (F (trc (hlf A) t) (sc (hlf A) t))) (c_call2 (v := .dat (webOf (hlf A))) (c_call1 (v := .dat (webOf A)) (c_ix (x := .own 0) (y := RI 0) rfl rfl w0) (e_half (n := n) o.gA.toTied gHA.toTied h)) rfl (e_trace (n := n) gHA fHA.1 h)) (ix_two0 rfl) (ix_two1 rfl) (e_isf (n := n + 1) (sc_pos gHA.pos t) (gp_pos (by omega) t) (hlf_trc o.gA.toTied t) (gp_sm wHAb t) (by omega) h))) rfl ?_
  refine p_asg (S1 := S) (.dat (TL [bs t (hlfT B), gp (2 * whole B) t])) (c_call2 rfl rfl (e_hdue (n := n + 2) o.gB t60 (by omega) h)) ?_
  exact p_ret (c_call3 (v := .dat (F (trc (hlf B) t) (sc (hlf B) t))) (c_call2 (v := .dat (webOf (hlf B))) (c_call1 (v := .dat (webOf B)) (c_ix (x := .own 0) (y := RI 1) rfl rfl w1) (e_half (n := n) o.gB.toTied gHB.toTied h)) rfl (e_trace (n := n) gHB fHB.1 h)) (ix_two0 rfl) (ix_two1 rfl) (e_isf (n := n + 1) (sc_pos gHB.pos t) (gp_pos (by omega) t) (hlf_trc o.gB.toTied t) (gp_sm wHBb t) (by omega) h))
end
end K58
set_option Elab.async false
set_option linter.all false
set_option maxRecDepth 100000
set_option maxHeartbeats 2000000
/-! K58Says: the law says True. -/
namespace K58
open PySem PySem.Spec PyProof.Rows L2 MP DL
variable {n : Nat} {S : Store}
abbrev LEnd (x : SRes) : Prop := sealS 0 x = .ok (.dat (.bl true)) []
theorem lend {S : Store} {ρ : MP.Env} : LEnd (.go (.ret (.dat (.bl true))) ρ S) := by
  show sealR 0 (.dat (.bl true)) S = _
  unfold sealR
  rw [if_pos ⟨by simp, Nat.zero_le _⟩]
  simp
def kk (m : Nat) : Nat := if m = 1 then 20 else if m = 2 then 21 else 22
def tt (a b : Nat) : Nat := if a * b < 3 then 60 else 5
theorem lims {a b : Nat} (ha : a = 1 ∨ a = 2 ∨ a = 3 ∨ a = 4) (hb : b = 1 ∨ b = 2 ∨ b = 3) : 2 * (1 + (11 + kk a * a + kk b * b) * tt a b) < 9000 ∧ tt a b ≤ 60 ∧ 5 ≤ tt a b ∧ a * b ≤ 12 ∧ (a * b < 3 → tt a b = 60) ∧ kk a ≤ 22 ∧ kk b ≤ 22 := by
  rcases ha with rfl | rfl | rfl | rfl <;> rcases hb with rfl | rfl | rfl <;> decide
theorem net_of {m : Nat} {M : List (List Int)} (hm : m = 1 ∨ m = 2 ∨ m = 3 ∨ m = 4) (g : Sq m 1000000 M) (hp : ∀ a, a < m → 0 < (row M a).sum) : Net M (kk m) ∧ ∀ r ∈ M, ∀ z ∈ r, 0 ≤ z ∧ z ≤ 1000000 := by
  refine ⟨g.net (kd := kk m) (by omega) (by omega) (by decide) hp ?_ ?_, fun r hr z hz => (g.mem hr).2 z hz⟩
  · rcases hm with rfl | rfl | rfl | rfl <;> decide
  · rcases hm with rfl | rfl | rfl | rfl <;> decide
theorem says (ns : List Int) (hn : ns.length ≤ 63) : callN st.T (n + 6) 0 [.dat (.slst (ns.map D.int))] [] = .ok (.dat (.bl true)) [] := by
  refine run_q (F := f0) (fun r => r = .ok (.dat (.bl true)) []) rfl rfl ?_
  let P : SRes → Prop := LEnd
  show P _
  refine p_asg (S1 := []) (RL (cutR ns none (some 63))) ?_ ?_
  · show Res.ok (R.dat (.lst (cutR (ns.map D.int) none (some 63)))) [] = _
    rw [cutM]
  generalize cutR ns none (some 63) = ms
  have dr : ∀ (S : Store) (k q : Int), WF S → 0 < q → ∃ x : Int, 0 ≤ x ∧ x < q ∧ ∀ (p1 p2 p3 p4 p5 p6 p7 p8 : Pos) (k1 k2 : Nat) (ρ : MP.Env), ρ[0]? = some (some (RL ms)) → evE (st.T.C (n + 5)).toCalls (.bin false .mod (.bi false .int (.call 2 "_law_cell" (.var 0 "script" p1) (.cons (.int k k1 p2) .nil) p3 p4) .nil p5 p6) (.int q k2 p7) p8) ρ S = .ok (RI x) S := fun S k q h hq => by
    obtain ⟨v, hv⟩ := e_cell (n := n + 4) (ns := ms) (k := k) h
    exact ⟨v % q, Int.emod_nonneg v (by omega), Int.emod_lt_of_pos v hq, fun p1 p2 p3 p4 p5 p6 p7 p8 k1 k2 ρ hρ => c_mod (i := v) (j := q) (c_bi1 (v := RI v) (c_call2 (get_d hρ) rfl hv) rfl) rfl hq⟩
  obtain ⟨xa, a0, a1, ea⟩ := dr [] 0 4 wf_nil (by decide)
  obtain ⟨xb, b0, b1, eb⟩ := dr [] 1 4 wf_nil (by decide)
  obtain ⟨a, ha, ha2⟩ : ∃ a : Nat, (a = 1 ∨ a = 2 ∨ a = 3 ∨ a = 4) ∧ el [2, 3, 1, 4] xa.toNat = (a : Int) := by
    rcases (by omega : xa = 0 ∨ xa = 1 ∨ xa = 2 ∨ xa = 3) with rfl | rfl | rfl | rfl
    · exact ⟨2, by decide, rfl⟩
    · exact ⟨3, by decide, rfl⟩
    · exact ⟨1, by decide, rfl⟩
    · exact ⟨4, by decide, rfl⟩
  obtain ⟨b, hb, hb2⟩ : ∃ b : Nat, (b = 1 ∨ b = 2 ∨ b = 3) ∧ el [2, 1, 3, 2] xb.toNat = (b : Int) := by
    rcases (by omega : xb = 0 ∨ xb = 1 ∨ xb = 2 ∨ xb = 3) with rfl | rfl | rfl | rfl
    · exact ⟨2, by decide, rfl⟩
    · exact ⟨1, by decide, rfl⟩
    · exact ⟨3, by decide, rfl⟩
    · exact ⟨2, by decide, rfl⟩
  obtain ⟨A, gA, pA, cA⟩ := e_rows (n := n + 2) (S := []) (ns := ms) (m := a) (at_ := 4) (by omega) (by omega) wf_nil
  obtain ⟨B, gB, pB, cB⟩ := e_rows (n := n + 2) (S := []) (ns := ms) (m := b) (at_ := 16) (by omega) (by omega) wf_nil
  refine p_asg (S1 := []) (RM A) (c_call3 rfl rfl (by rw [← ha2]; exact c_ix (x := RL [2, 3, 1, 4]) (c_lst (es_cons rfl (es_cons rfl (es_cons rfl (es_cons rfl es_nil)))) rfl) (ea _ _ _ _ _ _ _ _ _ _ _ rfl) (ix_cases a0 a1)) cA) ?_
  refine p_asg (S1 := []) (RM B) (c_call3 rfl rfl (by rw [← hb2]; exact c_ix (x := RL [2, 1, 3, 2]) (c_lst (es_cons rfl (es_cons rfl (es_cons rfl (es_cons rfl es_nil)))) rfl) (eb _ _ _ _ _ _ _ _ _ _ _ rfl) (ix_cases b0 b1)) cB) ?_
  obtain ⟨x, y, hx, hy, cP⟩ := e_pair (n := n + 2) (S := []) (ns := ms) (at_ := 28) wf_nil
  refine p_asg (S1 := []) (.dat (TL [x, y])) (c_call2 rfl rfl cP) ?_
  obtain ⟨nA, eA⟩ := net_of ha gA pA
  obtain ⟨nB, eB⟩ := net_of (by omega) gB pB
  obtain ⟨lim, t60, t5, ab12, abT, ka, kb⟩ := lims ha hb
  have lA := gA.len
  have lB := gB.len
  have o : Ok A B x y (kk a) (kk b) (tt a b) := ⟨nA, nB, ⟨ka, kb⟩, by omega, by omega, by rw [lA, lB]; exact ab12, eA, eB, hx, hy, t60, by rw [lA, lB]; exact lim⟩
  have mA := e_lmade (n := n + 2) nA.toTied wf_nil
  have mB := e_lmade (n := n + 2) nB.toTied wf_nil
  refine p_asg (S1 := [Cell.lst [.dat (webOf A), .dat (webOf B)]]) (.own 0) (c_lstM (S1 := []) (es_cons (S1 := []) (c_call1 rfl mA) (es_cons (S1 := []) (c_call1 rfl mB) es_nil))) ?_
  have wf : ∀ ds : List D, WF [Cell.lst (ds.map R.dat)] := fun ds => wf_push (S := []) wf_nil (below_dats _)
  have wix : ∀ (ds : List D) (k : Nat) (d : D), ds[k]? = some d → ixR (.own 0) (RI (k : Int)) [Cell.lst (ds.map R.dat)] = .ok (.dat d) [Cell.lst (ds.map R.dat)] := fun ds k d hd => (Lst.own (S := [Cell.lst (ds.map R.dat)]) (k := 0) rfl).toWk.ix (by rw [List.getElem?_map, hd]; rfl)
  have w1 := wf [webOf A, webOf B]
  have w2 := wf [webOf A, webOf B, webOf (kron A B)]
  have i0 := wix [webOf A, webOf B] 0 _ rfl
  have i1 := wix [webOf A, webOf B] 1 _ rfl
  have j0 := wix [webOf A, webOf B, webOf (kron A B)] 0 _ rfl
  have j1 := wix [webOf A, webOf B, webOf (kron A B)] 1 _ rfl
  refine w_app (S := []) (v := .dat (webOf (kron A B))) rfl (c_call2 (c_ix (x := .own 0) (y := RI 0) rfl rfl i0) (c_ix (x := .own 0) (y := RI 1) rfl rfl i1) (e_product (n := n) nA.toTied nB.toTied o.kron.toTied w1)) (by show 2 ≤ 1000000; decide) ?_
  let E : Option R → Option R → Option R → MP.Env := fun s f d => [some (RL ms), some (RM A), some (RM B), some (.dat (TL [x, y])), some (.own 0), s, f, d]
  obtain ⟨W, hW⟩ : ∃ W : Store, W = [Cell.lst ([webOf A, webOf B, webOf (kron A B), webOf (mix A B x y)].map R.dat)] := ⟨_, rfl⟩
  refine w_ifN (S1 := [Cell.lst ([webOf A, webOf B, webOf (kron A B)].map R.dat)]) (decide ([x, y] = [1, 1])) (fun ρ S' => S' = W ∧ ρ = E none none none) (c_cmp (x := .dat (TL [x, y])) (y := .dat (TL [1, 1])) rfl (c_tup2 rfl rfl) eq_TL) (fun t => ?_) (fun t => ?_) ?_
  · have t := of_decide_eq_true t
    have e1 : x = 1 := by injection t
    have e2 : y = 1 := by injection t with _ t; injection t
    subst e1 e2
    exact w_app (S := []) (v := .dat (webOf (mix A B 1 1))) rfl (c_opm (c_ix (x := .own 0) (y := RI 0) rfl rfl j0) (c_ix (x := .own 0) (y := RI 1) rfl rfl j1) (e_webadd (n := n) nA.toTied nB.toTied o.mix.toTied w2)) (by show 3 ≤ 1000000; decide) ⟨hW.symm, rfl⟩
  · exact w_app (S := []) (v := .dat (webOf (mix A B x y))) rfl (c_callK3 (c_ix (x := .own 0) (y := RI 0) rfl rfl j0) (c_ix (x := .own 0) (y := RI 1) rfl rfl j1) rfl rfl (e_sumof (n := n) nA.toTied nB.toTied o.mix.toTied hx hy w2)) (by show 3 ≤ 1000000; decide) ⟨hW.symm, rfl⟩
  rintro ρ S' ⟨rfl, rfl⟩
  have wW : WF S' := by rw [hW]; exact wf _
  have k0 : ixR (.own 0) (RI 0) S' = .ok (.dat (webOf A)) S' := by rw [hW]; exact wix [webOf A, webOf B, webOf (kron A B), webOf (mix A B x y)] 0 _ rfl
  have k2 : ixR (.own 0) (RI 2) S' = .ok (.dat (webOf (kron A B))) S' := by rw [hW]; exact wix [webOf A, webOf B, webOf (kron A B), webOf (mix A B x y)] 2 _ rfl
  have asked : ∀ t : Nat, t ≤ tt a b → callN st.T (n + 5) 1 [.own 0, RM A, RM B, .dat (TL [x, y]), RI (t : Int)] S' = .ok (.dat (.bl true)) S' := fun t ht => by
    rw [hW]
    exact e_asked (n := n) o ht
  clear hW
  obtain ⟨xc, c0, c1, ec⟩ := dr S' 2 6 wW (by decide)
  have hc : ∃ t : Nat, t ≤ 5 ∧ el [3, 0, 1, 2, 4, 5] xc.toNat = (t : Int) := by
    rcases (by omega : xc = 0 ∨ xc = 1 ∨ xc = 2 ∨ xc = 3 ∨ xc = 4 ∨ xc = 5) with rfl | rfl | rfl | rfl | rfl | rfl
    · exact ⟨3, by decide, rfl⟩
    · exact ⟨0, by decide, rfl⟩
    · exact ⟨1, by decide, rfl⟩
    · exact ⟨2, by decide, rfl⟩
    · exact ⟨4, by decide, rfl⟩
    · exact ⟨5, by decide, rfl⟩
  obtain ⟨t, ht, ht2⟩ := hc
  refine p_asg (S1 := S') (RI (t : Int)) (by rw [← ht2]; exact c_ix (x := RL [3, 0, 1, 2, 4, 5]) (c_lst (es_cons rfl (es_cons rfl (es_cons rfl (es_cons rfl (es_cons rfl (es_cons rfl es_nil)))))) rfl) (ec _ _ _ _ _ _ _ _ _ _ _ rfl) (ix_cases c0 c1)) ?_
  obtain ⟨xd, d0, d1, ed⟩ := dr S' 31 2 wW (by decide)
  obtain ⟨xe, e0, e1, ee⟩ := dr S' 32 61 wW (by decide)
  have mAB : mulOk (A.length : Int) (B.length : Int) = true := mulOk_of (a := 3) (b := 3) (by show (A.length : Int).natAbs < 2 ^ 3; omega) (by show (B.length : Int).natAbs < 2 ^ 3; omega) (by decide)
  refine w_ifN (S1 := S') (decide ((A.length : Int) * (B.length : Int) < 3) && decide (xd = 1)) (fun ρ S2 => S2 = S' ∧ ∃ t : Nat, t ≤ tt a b ∧ ρ = E (some (RI (t : Int))) none none) (c_and (c_cmp (x := RI ((A.length : Int) * (B.length : Int))) (y := RI 3) (c_mul (c_bi1 (v := RM A) rfl Rep.dat.len) (c_bi1 (v := RM B) rfl Rep.dat.len) mAB) rfl rfl) (c_cmp (x := RI xd) (y := RI 1) (ed _ _ _ _ _ _ _ _ _ _ _ rfl) rfl rfl)) (fun z => ?_) (fun z => ⟨rfl, t, by omega, rfl⟩) ?_
  · rw [Bool.and_eq_true, decide_eq_true_iff, decide_eq_true_iff] at z
    have h3 : a * b < 3 := by
      have := z.1
      rw [lA, lB] at this
      omega
    refine p_asg (S1 := S') (RI xe) (ee _ _ _ _ _ _ _ _ _ _ _ rfl) ⟨rfl, xe.toNat, by rw [abT h3]; omega, ?_⟩
    rw [Int.toNat_of_nonneg e0]
    rfl
  rintro ρ S2 ⟨rfl, t, ht, rfl⟩
  obtain ⟨xf, f0, f1, ef⟩ := dr S2 33 1000 wW (by decide)
  refine p_asg (S1 := S2) (RI (61 + xf)) (c_add rfl (ef _ _ _ _ _ _ _ _ _ _ _ rfl)) ?_
  obtain ⟨xg, g0, g1, eg⟩ := dr S2 34 4 wW (by decide)
  have hodd : el [61, -1, 61 + xf, -2 - (t : Int)] xg.toNat < 0 ∨ 60 < el [61, -1, 61 + xf, -2 - (t : Int)] xg.toNat := by
    rcases (by omega : xg = 0 ∨ xg = 1 ∨ xg = 2 ∨ xg = 3) with rfl | rfl | rfl | rfl
    · exact .inr (by show (60 : Int) < 61; decide)
    · exact .inl (by show (-1 : Int) < 0; decide)
    · exact .inr (by show 60 < 61 + xf; omega)
    · exact .inl (by show -2 - (t : Int) < 0; omega)
  refine p_asg (S1 := S2) (RI (el [61, -1, 61 + xf, -2 - (t : Int)] xg.toNat)) (c_ix (x := RL [61, -1, 61 + xf, -2 - (t : Int)]) (c_lst (es_cons rfl (es_cons rfl (es_cons rfl (es_cons rfl es_nil)))) rfl) (eg _ _ _ _ _ _ _ _ _ _ _ rfl) (ix_cases g0 g1)) ?_
  generalize el [61, -1, 61 + xf, -2 - (t : Int)] xg.toNat = odd at hodd ⊢
  refine w_if0 (S1 := S2) (t := !true || !true) (c_or (c_not (c_call2 (c_ix (x := .own 0) (y := RI 2) rfl rfl k2) rfl (e_refused (n := n + 2) hodd wW))) (c_not (c_call2 (c_ix (x := .own 0) (y := RI 0) rfl rfl k0) rfl (e_refused (n := n + 2) hodd wW)))) rfl ?_
  refine w_if0 (S1 := S2) (t := !true) (c_not (c_call5 rfl rfl rfl rfl rfl (asked t ht))) rfl ?_
  obtain ⟨xh, h0, h1, eh⟩ := dr S2 3 3 wW (by decide)
  have hh : ∃ t : Nat, t ≤ 5 ∧ el [2, 0, 1] xh.toNat = (t : Int) := by
    rcases (by omega : xh = 0 ∨ xh = 1 ∨ xh = 2) with rfl | rfl | rfl
    · exact ⟨2, by decide, rfl⟩
    · exact ⟨0, by decide, rfl⟩
    · exact ⟨1, by decide, rfl⟩
  obtain ⟨u, hu, hu2⟩ := hh
  refine p_asg (S1 := S2) (RI (u : Int)) (by rw [← hu2]; exact c_ix (x := RL [2, 0, 1]) (c_lst (es_cons rfl (es_cons rfl (es_cons rfl es_nil))) rfl) (eh _ _ _ _ _ _ _ _ _ _ _ rfl) (ix_cases h0 h1)) ?_
  exact w_ret (S1 := S2) (c_call5 rfl rfl rfl rfl rfl (asked u (by omega))) lend
end K58
set_option Elab.async false
set_option linter.all false
set_option maxRecDepth 1000000
set_option maxHeartbeats 0
/-! K58Head: the top of the text, once. -/
namespace K58
open PySem PySem.W PySem.Calls PyProof.Rows MP
abbrev RW0 : OpenRow := OpenLaw.row PySem.Challenge.rw_spreadgap_k58_products_and_sums_by_pairs
abbrev qv : Program := view RW0.prog [0, 74]
def names0 : List PySem.Str := ["_wall", "_kept", "GapError", "ZeroBottom", "BadNumber", "OutOfRange", "BadShape", "BadPlace", "TooMuch", "NotSymmetric", "BadWeight", "Bare", "DIGITS", "MOST_SIGNS", "MOST_POWER", "as_frac", "_is_digits", "Frac", "_power", "MOST_ROWS", "Table", "_dot", "need_row", "MOST_PLACES", "MOST_WEIGHT"]
def names1 : List PySem.Str := ["MOST_STEPS_web", "_need_square", "_need_weights", "_need_symmetric", "_need_tied", "_need_room", "Web", "made_web", "mixed_web", "raised_web", "MOST_STEPS_shares", "need_steps", "common_degree", "step_numbers", "begun", "dealt", "walked", "trace", "MOST_WAYS", "product", "sum_of", "half", "_law_cell", "_law_row", "_law_rows"]
def names2 : List PySem.Str := ["_law_pair", "_law_whole", "_law_made", "_law_gcd", "_law_low", "_law_is_frac", "_law_shared", "_law_stepped", "_law_traces", "_law_raised", "_law_choices", "_law_sum_due", "_law_half_due", "_law_refused", "_law_asked"]
def names : List PySem.Str := names0 ++ names1 ++ names2
abbrev ex0 : PySem.W.Frag → Bool := exM st subs xfs inss
abbrev defs0 : List He.DefD := fn ++ xfn
abbrev hk : PySem.W.Hook := hookM asP ex0 defs0
def ob (s : PySem.W.SharedT) : He.AlD := obsM asP ex0 defs0 (HandSHeadRun.getT s)
theorem ob_eq (s : PySem.W.SharedT) : ob s = hk.obs s.abs := obsM_eq (HandSHeadRun.getT_eq s)
theorem run1 (w : World) : MP.LookEq RW0 qv 40000 names w := by
  show _ = _
  kernel_rfl
theorem run2 (w : World) : MP.ObEq RW0 (fun s => ex0 (He.frG (HandSHeadRun.getT s) (asP (HandSHeadRun.getT s)))) 40000 true w := by
  show _ = _
  kernel_rfl
theorem run3 (w : World) : MP.ObEq RW0 (fun s => He.obsD [] defs0 (He.frG (HandSHeadRun.getT s) (asP (HandSHeadRun.getT s)))) 40000 (He.valD defs0) w := by
  show _ = _
  kernel_rfl
theorem run (w : World) : HandSHeadRun.RunEqI RW0 qv hk ob 40000 names w := MP.runI_of (run1 w) (run2 w) (run3 w)
end K58
set_option Elab.async false
set_option linter.all false
set_option maxRecDepth 1000000
set_option maxHeartbeats 0
/-! K58Main: the law, from what the evaluation says. -/
namespace K58
open PySem PySem.W PySem.Calls PyProof.Rows
/-- what is left: the evaluation says True -/
def Says (n : Nat) : Prop := ∀ ns : List Int, ns.length ≤ 63 → MP.callN st.T n 0 [.dat (.slst (ns.map MP.D.int))] [] = .ok (.dat (.bl true)) []
theorem holds_of (n : Nat) (hr : L2.Room (3 * n + 1) callerA) (hs : Says n) : PySem.Challenge.rw_spreadgap_k58_products_and_sums_by_pairs.Holds := by
  w_on; o_law
  refine HandSHeadRun.head_imp (r := OpenLaw.row PySem.Challenge.rw_spreadgap_k58_products_and_sums_by_pairs) (q := K58.qv) (H := K58.hk) (ob := K58.ob) (M := 40000) (loose := K58.names) (d := HandSHeadRun.topDef (OpenLaw.row PySem.Challenge.rw_spreadgap_k58_products_and_sums_by_pairs).prog 74) (kwd := []) K58.ob_eq K58.run
    (by kernel_rfl) (by kernel_rfl) (by kernel_rfl) (by rfl) (by first | assumption | decide +kernel) (by decide +kernel) ⟨rfl, rfl, rfl, rfl, rfl, by decide +kernel⟩ ?hw ?hc
  case hw => w_witness2
  case hc =>
    refine MP.walk_ofM (l := PySem.Challenge.rw_spreadgap_k58_products_and_sums_by_pairs) (n := 63) (k := 3 * n + 1) (x := "script") rfl (by decide) (by kernel_rfl) hr ?F
    intro w mg fa h Y G hmg0
    obtain ⟨K, KX, hx, c⟩ := Y
    have hmg : mg ("law" : PySem.Str) = some (.ref fa) := by
      have e : (HandSHeadRun.topDef (OpenLaw.row PySem.Challenge.rw_spreadgap_k58_products_and_sums_by_pairs).prog 74).name = ("law" : PySem.Str) := by kernel_rfl
      rw [← e]
      exact hmg0
    obtain ⟨fd, hb, hF⟩ := MP.law_of (P := PySem.Challenge.rw_spreadgap_k58_products_and_sums_by_pairs.prog) (w := w) stat KX G hx c (F := f0) rfl (x := "script") (by decide) (by decide) hmg (fun d e => by cases e; rfl) n
    exact ⟨K, fd, _, KX, hb, fun H a ns hl _ hS => MP.sp_law (Nat.le_trans hl (by decide)) hS (hs ns hl), fun base _ _ => hF base⟩
end K58
set_option Elab.async false
set_option linter.all false
set_option maxRecDepth 1000000
set_option maxHeartbeats 0
theorem PySem.Challenge.cw_spreadgap_k58_products_and_sums_by_pairs_holds : PySem.Challenge.rw_spreadgap_k58_products_and_sums_by_pairs.Holds :=
  K58.holds_of 12 ⟨by decide, by decide, by decide⟩ fun ns hn => K58.says (n := 6) ns hn
