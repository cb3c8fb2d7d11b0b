import PyProof.Rows.All
import Wide.All
import OpenK.AllK
import Wide.FinOn
import HandS.ForMost
import HandS.HeadHook2
import HandS.Wide
import HandS.ExcCtx
import HandS.HotCalls
import HandS.ExcInit
import HandS.ExcField
import HandS.IsInst
import HandS.Gcd
import KE.KTupSum
import KE.KMathG
import HandS.ExcIs
import HandS.MakeKwOnly
import KE.GoesZip
import KE.GoesMore
import HandS.Zip
import HandS.Walk
import HandS.Defaults
import HandS.Property
import HandS.CallSlots
import HandS.Head3
import HandS.HeadEnd
import HandS.Head0
import HandS.Head1
import HandS.Head2
import KE.KStateDown
import PySem.Challenge.RW_spreadgap_k25_strays_and_trace
set_option Elab.async false
set_option linter.all false
set_option maxRecDepth 100000
set_option maxHeartbeats 4000000
/-! MPBase: the data, the store, worlds, and how they are laid in the abstract heap. -/
namespace MP
open PySem PySem.Spec PyProof.Rows L2
abbrev St := L2.St

inductive D where
  | non | bl (b : Bool) | int (i : Int) | str (s : Str) | tup (l : List D) | lst (l : List D) | slst (l : List D)
  | obj (c : Str) (ns : List Str) (l : List D)
inductive R where
  | dat (d : D) | own (k : Nat) | exc (c : Str) (ns : List Str) (l : List D)
inductive Cell where
  | lst (rs : List R) | tup (rs : List R) | obj (c : Str) (ns : List Str) (rs : List R)
abbrev Store := List Cell
abbrev Env := List (Option R)

/-- a world: the abstract heap, the live cells -/
structure Wd where
  H : Hp
  n : Nat
  p : Nat → Addr
  /-- addresses that are being made -/
  hid : List Addr
def Wd.Live (w : Wd) (a : Addr) : Prop := (∃ k, k < w.n ∧ w.p k = a) ∨ a ∈ w.hid
/-- from one world to a later one: only live cells may have changed -/
structure Ext (w w' : Wd) : Prop where
  le : w.n ≤ w'.n
  p : ∀ k, k < w.n → w'.p k = w.p k
  fr : ∀ a o, w.H a = some o → ¬ w.Live a → w'.H a = some o
  th : ∀ a, w.H a ≠ none → w'.H a ≠ none
  nw : ∀ k, w.n ≤ k → k < w'.n → w.H (w'.p k) = none
  hk : ∀ a, a ∈ w.hid → a ∈ w'.hid ∧ w'.H a = w.H a
  hn : ∀ a, a ∈ w'.hid → a ∈ w.hid ∨ w.H a = none
theorem Ext.refl (w : Wd) : Ext w w := ⟨Nat.le_refl _, fun _ _ => rfl, fun _ _ h _ => h, fun _ h => h, fun k h1 h2 => absurd h2 (Nat.not_lt.mpr h1), fun _ h => ⟨h, rfl⟩, fun _ h => .inl h⟩
theorem Ext.nlive {w w' : Wd} (x : Ext w w') {a : Addr} (h : w.H a ≠ none) (n : ¬ w.Live a) : ¬ w'.Live a := fun z => by
  rcases z with ⟨k, hk, e⟩ | z
  · by_cases q : k < w.n
    · exact n (.inl ⟨k, q, by rw [← x.p k q]; exact e⟩)
    · have z := x.nw k (Nat.not_lt.mp q) hk
      rw [e] at z
      exact h z
  · rcases x.hn a z with z | z
    · exact n (.inr z)
    · exact h z
theorem Ext.trans {w w' w'' : Wd} (x : Ext w w') (y : Ext w' w'') : Ext w w'' where
  le := Nat.le_trans x.le y.le
  p := fun k h => (y.p k (Nat.lt_of_lt_of_le h x.le)).trans (x.p k h)
  fr := fun a o h n => y.fr a o (x.fr a o h n) (x.nlive (by rw [h]; exact Option.some_ne_none _) n)
  th := fun a h => y.th a (x.th a h)
  nw := fun k h1 h2 => by
    by_cases q : k < w'.n
    · rw [y.p k q]; exact x.nw k h1 q
    · have z := y.nw k (Nat.not_lt.mp q) h2
      cases e : w.H (w''.p k) with
      | none => rfl
      | some o => exact absurd z (x.th _ (by rw [e]; exact Option.some_ne_none _))
  hk := fun a h => ⟨(y.hk a (x.hk a h).1).1, (y.hk a (x.hk a h).1).2.trans (x.hk a h).2⟩
  hn := fun a h => by
    rcases y.hn a h with z | z
    · exact x.hn a z
    · cases e : w.H a with
      | none => exact .inr rfl
      | some o => exact absurd z (x.th _ (by rw [e]; exact Option.some_ne_none _))

/-- a list that the written part holds -/
def KL (K : PySem.W.Frag) (a : Addr) (xs : List V) : Prop :=
  ∃ (o : Obj) (its : Array Value) (n : Nat), K.lookup a = some o ∧ o.cls = .type "list" ∧ o.dict = none ∧ o.data = .seq its n ∧ its.size ≤ sizeLine ∧ Vals xs its.toList
section
variable (K : PySem.W.Frag)
mutual
/-- data at a value: nothing of it is a live cell -/
def Rep (w : Wd) : D → V → Prop
  | .non, v => v = .non
  | .bl b, v => v = .bl b
  | .int i, v => v = .int i
  | .str s, v => v = .str s
  | .tup l, v => ∃ a vs, v = .ref a ∧ ¬ w.Live a ∧ w.H a = some (.tup vs) ∧ vs.length ≤ sizeLine ∧ Reps w l vs
  | .lst l, v => ∃ a vs, v = .ref a ∧ ¬ w.Live a ∧ w.H a = some (.lst vs) ∧ vs.length ≤ sizeLine ∧ Reps w l vs
  | .slst l, v => ∃ a vs, v = .ref a ∧ ((¬ w.Live a ∧ Rd w.H a (.lst vs)) ∨ KL K a vs) ∧ vs.length ≤ sizeLine ∧ Reps w l vs
  | .obj c ns l, v => ∃ a dx fs, v = .ref a ∧ ¬ w.Live a ∧ w.H a = some (.ins (He.ga K c) dx fs) ∧ fs.map (·.1) = ns ∧ Reps w l (fs.map (·.2))
def Reps (w : Wd) : List D → List V → Prop
  | [], vs => vs = []
  | d :: l, vs => ∃ v r, vs = v :: r ∧ Rep w d v ∧ Reps w l r
end
def Rel (w : Wd) : R → V → Prop
  | .dat d, v => Rep K w d v
  | .own k, v => k < w.n ∧ v = .ref (w.p k)
  | .exc _ _ _, _ => False
def Rels (w : Wd) : List R → List V → Prop
  | [], vs => vs = []
  | d :: l, vs => ∃ v r, vs = v :: r ∧ Rel K w d v ∧ Rels w l r
def CellR (w : Wd) (a : Addr) : Cell → Prop
  | .lst rs => ∃ vs, w.H a = some (.lst vs) ∧ vs.length ≤ sizeLine ∧ Rels K w rs vs
  | .tup rs => ∃ vs, w.H a = some (.tup vs) ∧ vs.length ≤ sizeLine ∧ Rels K w rs vs
  | .obj c ns rs => ∃ dx fs, w.H a = some (.ins (He.ga K c) dx fs) ∧ fs.map (·.1) = ns ∧ Rels K w rs (fs.map (·.2))
structure SR (w : Wd) (S : Store) : Prop where
  n : w.n = S.length
  inj : ∀ i j, i < w.n → j < w.n → w.p i = w.p j → i = j
  hid : ∀ a, a ∈ w.hid → w.H a ≠ none ∧ ∀ k, k < w.n → w.p k ≠ a
  cell : ∀ (k : Nat) (c : Cell), S[k]? = some c → CellR K w (w.p k) c
end

section
variable {K : PySem.W.Frag} {w w' : Wd} {S : Store}
theorem KL.sq {H : Hp} {a : Addr} {vs : List V} (h : KL K a vs) : SqL K H a vs := .inr h
mutual
theorem Rep.imp (x : ∀ a o, ¬ w.Live a → w.H a = some o → ¬ w'.Live a ∧ w'.H a = some o) : ∀ (d : D) (v : V), Rep K w d v → Rep K w' d v
  | .non, _, h => h
  | .bl _, _, h => h
  | .int _, _, h => h
  | .str _, _, h => h
  | .tup l, v, h => by
    obtain ⟨a, vs, e, n, h1, hz, h2⟩ := h
    exact ⟨a, vs, e, (x _ _ n h1).1, (x _ _ n h1).2, hz, Reps.imp x l vs h2⟩
  | .lst l, v, h => by
    obtain ⟨a, vs, e, n, h1, hz, h2⟩ := h
    exact ⟨a, vs, e, (x _ _ n h1).1, (x _ _ n h1).2, hz, Reps.imp x l vs h2⟩
  | .slst l, v, h => by
    obtain ⟨a, vs, e, h1, hz, h2⟩ := h
    refine ⟨a, vs, e, ?_, hz, Reps.imp x l vs h2⟩
    rcases h1 with ⟨n, h1 | ⟨o, h1⟩⟩ | h1
    · exact .inl ⟨(x _ _ n h1).1, .inl (x _ _ n h1).2⟩
    · exact .inl ⟨(x _ _ n h1).1, .inr ⟨o, (x _ _ n h1).2⟩⟩
    · exact .inr h1
  | .obj c ns l, v, h => by
    obtain ⟨a, dx, fs, e, n, h1, h2, h3⟩ := h
    exact ⟨a, dx, fs, e, (x _ _ n h1).1, (x _ _ n h1).2, h2, Reps.imp x l _ h3⟩
theorem Reps.imp (x : ∀ a o, ¬ w.Live a → w.H a = some o → ¬ w'.Live a ∧ w'.H a = some o) : ∀ (l : List D) (vs : List V), Reps K w l vs → Reps K w' l vs
  | [], _, h => h
  | d :: l, vs, h => by
    obtain ⟨v, r, e, h1, h2⟩ := h
    exact ⟨v, r, e, Rep.imp x d v h1, Reps.imp x l r h2⟩
end
theorem Ext.keep (x : Ext w w') : ∀ a o, ¬ w.Live a → w.H a = some o → ¬ w'.Live a ∧ w'.H a = some o := fun a o n h =>
  ⟨x.nlive (by rw [h]; exact Option.some_ne_none _) n, x.fr a o h n⟩
theorem Rep.ext (x : Ext w w') {d : D} {v : V} (h : Rep K w d v) : Rep K w' d v := Rep.imp x.keep d v h
theorem Reps.ext (x : Ext w w') {d : List D} {v : List V} (h : Reps K w d v) : Reps K w' d v := Reps.imp x.keep d v h
/-- what data and cells ask of a later world -/
structure Mono (w w' : Wd) : Prop where
  keep : ∀ a o, ¬ w.Live a → w.H a = some o → ¬ w'.Live a ∧ w'.H a = some o
  le : w.n ≤ w'.n
  p : ∀ k, k < w.n → w'.p k = w.p k
theorem Ext.mono (x : Ext w w') : Mono w w' := ⟨x.keep, x.le, x.p⟩
theorem Mono.trans {w w' w'' : Wd} (x : Mono w w') (y : Mono w' w'') : Mono w w'' :=
  ⟨fun a o n h => y.keep a o (x.keep a o n h).1 (x.keep a o n h).2, Nat.le_trans x.le y.le, fun k h => (y.p k (Nat.lt_of_lt_of_le h x.le)).trans (x.p k h)⟩
theorem Rel.mono (x : Mono w w') : ∀ {r : R} {v : V}, Rel K w r v → Rel K w' r v
  | .dat _, _, h => Rep.imp x.keep _ _ h
  | .own k, _, ⟨h1, h2⟩ => ⟨Nat.lt_of_lt_of_le h1 x.le, by rw [x.p k h1]; exact h2⟩
theorem Rels.mono (x : Mono w w') : ∀ {r : List R} {v : List V}, Rels K w r v → Rels K w' r v
  | [], _, h => h
  | _ :: _, _, ⟨v, r, e, h1, h2⟩ => ⟨v, r, e, h1.mono x, Rels.mono x h2⟩
theorem CellR.mono (x : Mono w w') {a : Addr} {c : Cell} (h : CellR K w a c) (e : w'.H a = w.H a) : CellR K w' a c := by
  cases c with
  | lst rs => obtain ⟨vs, h1, hz, h2⟩ := h; exact ⟨vs, e.trans h1, hz, h2.mono x⟩
  | tup rs => obtain ⟨vs, h1, hz, h2⟩ := h; exact ⟨vs, e.trans h1, hz, h2.mono x⟩
  | obj c ns rs => obtain ⟨dx, fs, h1, h2, h3⟩ := h; exact ⟨dx, fs, e.trans h1, h2, h3.mono x⟩
theorem Rel.ext (x : Ext w w') {r : R} {v : V} (h : Rel K w r v) : Rel K w' r v := h.mono x.mono
theorem Rels.ext (x : Ext w w') {r : List R} {v : List V} (h : Rels K w r v) : Rels K w' r v := h.mono x.mono
theorem CellR.ext (x : Ext w w') {a : Addr} {c : Cell} (h : CellR K w a c) (e : w'.H a = w.H a) : CellR K w' a c := h.mono x.mono e
theorem CellR.some {a : Addr} {c : Cell} (h : CellR K w a c) : w.H a ≠ none := by
  cases c with
  | lst rs => obtain ⟨vs, h1, _⟩ := h; rw [h1]; exact Option.some_ne_none _
  | tup rs => obtain ⟨vs, h1, _⟩ := h; rw [h1]; exact Option.some_ne_none _
  | obj c ns rs => obtain ⟨dx, fs, h1, _⟩ := h; rw [h1]; exact Option.some_ne_none _
theorem SR.get (s : SR K w S) {k : Nat} (h : k < w.n) : ∃ c, S[k]? = some c ∧ CellR K w (w.p k) c := by
  have h2 : k < S.length := by rw [← s.n]; exact h
  exact ⟨S[k], List.getElem?_eq_getElem h2, s.cell k _ (List.getElem?_eq_getElem h2)⟩
theorem SR.live_some (s : SR K w S) {a : Addr} (h : w.Live a) : w.H a ≠ none := by
  rcases h with ⟨k, hk, e⟩ | h
  · obtain ⟨c, _, h2⟩ := s.get hk
    rw [← e]
    exact h2.some
  · exact (s.hid a h).1
theorem SR.nlive (s : SR K w S) {a : Addr} (h : w.H a = none) : ¬ w.Live a := fun z => s.live_some z h
theorem SR.lt (s : SR K w S) {k : Nat} {c : Cell} (h : S[k]? = some c) : k < w.n := by
  rw [s.n]
  exact (List.getElem?_eq_some_iff.mp h).1
theorem upd_some {H : Hp} {a b : Addr} {o : HO} (h : H b ≠ none) : upd H a o b ≠ none := by
  by_cases q : b = a
  · rw [q, upd_same]; exact Option.some_ne_none _
  · rw [upd_ne q]; exact h

/-- a new object that is data -/
def Wd.new (w : Wd) (a : Addr) (o : HO) : Wd := { w with H := upd w.H a o }
theorem ext_new {a : Addr} {o : HO} (s : SR K w S) (h : w.H a = none) : Ext w (w.new a o) where
  le := Nat.le_refl _
  p := fun _ _ => rfl
  fr := fun b u e _ => by
    show upd w.H a o b = _
    rw [upd_ne (ne_of_none e h)]
    exact e
  th := fun b e => upd_some e
  nw := fun k h1 h2 => absurd h2 (Nat.not_lt.mpr h1)
  hk := fun b hb => ⟨hb, upd_ne fun q => (s.hid b hb).1 (by rw [q]; exact h)⟩
  hn := fun _ hb => .inl hb
theorem new_same {a : Addr} {o : HO} : (w.new a o).H a = some o := upd_same
theorem nlive_new {a : Addr} {o : HO} (s : SR K w S) (h : w.H a = none) : ¬ (w.new a o).Live a := s.nlive h
theorem SR.new {a : Addr} {o : HO} (s : SR K w S) (h : w.H a = none) : SR K (w.new a o) S :=
  ⟨s.n, s.inj, fun b hb => ⟨upd_some (s.hid b hb).1, (s.hid b hb).2⟩, fun k c e => (s.cell k c e).ext (ext_new s h) (upd_ne fun q => (s.cell k c e).some (by rw [q]; exact h))⟩
/-- a new live cell -/
def Wd.push (w : Wd) (a : Addr) (o : HO) : Wd := ⟨upd w.H a o, w.n + 1, fun k => if k = w.n then a else w.p k, w.hid⟩
theorem push_p {a : Addr} {o : HO} : (w.push a o).p w.n = a := if_pos rfl
theorem push_lt {a : Addr} {o : HO} {k : Nat} (h : k < w.n) : (w.push a o).p k = w.p k := if_neg (Nat.ne_of_lt h)
theorem ext_push {a : Addr} {o : HO} (s : SR K w S) (h : w.H a = none) : Ext w (w.push a o) where
  le := Nat.le_succ _
  p := fun _ q => push_lt q
  fr := fun b u e _ => by
    show upd w.H a o b = _
    rw [upd_ne (ne_of_none e h)]
    exact e
  th := fun b e => upd_some e
  nw := fun k h1 h2 => by
    have e : k = w.n := Nat.le_antisymm (Nat.le_of_lt_succ h2) h1
    rw [e, push_p]
    exact h
  hk := fun b hb => ⟨hb, upd_ne fun q => (s.hid b hb).1 (by rw [q]; exact h)⟩
  hn := fun _ hb => .inl hb
theorem SR.push {a : Addr} {o : HO} {c : Cell} (s : SR K w S) (h : w.H a = none) (hc : CellR K (w.push a o) a c) : SR K (w.push a o) (S ++ [c]) where
  n := by rw [List.length_append, ← s.n]; rfl
  inj := fun i j hi hj e => by
    have hi' : i < w.n + 1 := hi
    have hj' : j < w.n + 1 := hj
    by_cases qi : i = w.n
    · by_cases qj : j = w.n
      · rw [qi, qj]
      · have lj : j < w.n := by omega
        rw [qi, push_p, push_lt lj] at e
        exact absurd (show w.Live a from .inl ⟨j, lj, e.symm⟩) (s.nlive h)
    · have li : i < w.n := by omega
      by_cases qj : j = w.n
      · rw [qj, push_p, push_lt li] at e
        exact absurd (show w.Live a from .inl ⟨i, li, e⟩) (s.nlive h)
      · have lj : j < w.n := by omega
        rw [push_lt li, push_lt lj] at e
        exact s.inj i j li lj e
  hid := fun b hb => by
    refine ⟨upd_some (s.hid b hb).1, fun k hk => ?_⟩
    have hk' : k < w.n + 1 := hk
    by_cases q : k = w.n
    · rw [q, push_p]
      exact fun z => (s.hid b hb).1 (by rw [← z]; exact h)
    · rw [push_lt (by omega)]
      exact (s.hid b hb).2 k (by omega)
  cell := fun k c' e => by
    by_cases q : k < S.length
    · rw [List.getElem?_append_left q] at e
      have lk : k < w.n := by rw [s.n]; exact q
      rw [push_lt lk]
      exact (s.cell k c' e).ext (ext_push s h) (upd_ne fun z => (s.cell k c' e).some (by rw [z]; exact h))
    · rw [List.getElem?_append_right (Nat.not_lt.mp q)] at e
      have k0 : k = S.length := by
        by_cases z : k - S.length = 0
        · omega
        · rw [show k - S.length = (k - S.length - 1) + 1 by omega] at e
          simp at e
      rw [k0, Nat.sub_self] at e
      have e2 : c = c' := by simpa using e
      rw [← e2, k0, ← s.n, push_p]
      exact hc
/-- a live cell is written -/
def Wd.put (w : Wd) (k : Nat) (o : HO) : Wd := { w with H := upd w.H (w.p k) o }
theorem ext_put {k : Nat} {o : HO} (s : SR K w S) (hk : k < w.n) : Ext w (w.put k o) where
  le := Nat.le_refl _
  p := fun _ _ => rfl
  fr := fun b u e nl => by
    show upd w.H (w.p k) o b = _
    rw [upd_ne fun q => nl (.inl ⟨k, hk, q.symm⟩)]
    exact e
  th := fun b e => upd_some e
  nw := fun j h1 h2 => absurd h2 (Nat.not_lt.mpr h1)
  hk := fun b hb => ⟨hb, upd_ne fun q => (s.hid b hb).2 k hk q.symm⟩
  hn := fun _ hb => .inl hb
theorem SR.put {k : Nat} {o : HO} {c : Cell} (s : SR K w S) (hk : k < w.n) (hc : CellR K (w.put k o) (w.p k) c) : SR K (w.put k o) (S.set k c) where
  n := by rw [List.length_set]; exact s.n
  inj := s.inj
  hid := fun b hb => ⟨upd_some (s.hid b hb).1, (s.hid b hb).2⟩
  cell := fun j c' e => by
    by_cases q : j = k
    · subst q
      rw [List.getElem?_set_self (by rw [← s.n]; exact hk)] at e
      cases e
      exact hc
    · rw [List.getElem?_set_ne (Ne.symm q)] at e
      have lj : j < w.n := s.lt e
      exact (s.cell j c' e).ext (ext_put s hk) (upd_ne fun z => q (s.inj j k lj hk z))

/-! ### cells are given up -/
def Wd.cut (w : Wd) (m : Nat) : Wd := { w with n := m }
def R.below (m : Nat) : R → Bool
  | .dat _ => true
  | .own k => decide (k < m)
  | .exc _ _ _ => false
def Cell.below (m : Nat) : Cell → Bool
  | .lst rs => rs.all (R.below m)
  | .tup rs => rs.all (R.below m)
  | .obj _ _ rs => rs.all (R.below m)
theorem cut_live {m : Nat} (h : m ≤ w.n) {a : Addr} (z : (w.cut m).Live a) : w.Live a := by
  rcases z with ⟨k, hk, e⟩ | z
  · exact .inl ⟨k, Nat.lt_of_lt_of_le hk h, e⟩
  · exact .inr z
theorem cut_keep {m : Nat} (h : m ≤ w.n) : ∀ a o, ¬ w.Live a → w.H a = some o → ¬ (w.cut m).Live a ∧ (w.cut m).H a = some o := fun _ _ n e => ⟨fun z => n (cut_live h z), e⟩
theorem Rel.cut {m : Nat} (h : m ≤ w.n) : ∀ {r : R} {v : V}, R.below m r = true → Rel K w r v → Rel K (w.cut m) r v
  | .dat d, v, _, q => Rep.imp (cut_keep h) d v q
  | .own k, _, b, ⟨_, q⟩ => ⟨of_decide_eq_true b, q⟩
theorem Rels.cut {m : Nat} (h : m ≤ w.n) : ∀ {r : List R} {v : List V}, r.all (R.below m) = true → Rels K w r v → Rels K (w.cut m) r v
  | [], _, _, q => q
  | _ :: _, _, b, ⟨v, r, e, h1, h2⟩ => by
    rw [List.all_cons, Bool.and_eq_true] at b
    exact ⟨v, r, e, h1.cut h b.1, Rels.cut h b.2 h2⟩
theorem CellR.cut {m : Nat} (h : m ≤ w.n) {a : Addr} {c : Cell} (b : c.below m = true) (q : CellR K w a c) : CellR K (w.cut m) a c := by
  cases c with
  | lst rs => obtain ⟨vs, h1, hz, h2⟩ := q; exact ⟨vs, h1, hz, h2.cut h b⟩
  | tup rs => obtain ⟨vs, h1, hz, h2⟩ := q; exact ⟨vs, h1, hz, h2.cut h b⟩
  | obj c ns rs => obtain ⟨dx, fs, h1, h2, h3⟩ := q; exact ⟨dx, fs, h1, h2, h3.cut h b⟩
theorem SR.cut {m : Nat} (s : SR K w S) (h : m ≤ w.n) (b : (S.take m).all (Cell.below m) = true) : SR K (w.cut m) (S.take m) where
  n := by rw [List.length_take, ← s.n]; exact (Nat.min_eq_left h).symm
  inj := fun i j hi hj => s.inj i j (Nat.lt_of_lt_of_le hi h) (Nat.lt_of_lt_of_le hj h)
  hid := fun b hb => ⟨(s.hid b hb).1, fun k hk => (s.hid b hb).2 k (Nat.lt_of_lt_of_le hk h)⟩
  cell := fun k c e => by
    have b1 := List.all_eq_true.mp b c (List.mem_of_getElem? e)
    have hk : k < m := by
      have := (List.getElem?_eq_some_iff.mp e).1
      rw [List.length_take] at this
      omega
    rw [List.getElem?_take_of_lt hk] at e
    exact (s.cell k c e).cut h b1
theorem Ext.cut {m : Nat} (x : Ext w w') (h : w.n = m) : Ext w (w'.cut m) where
  le := Nat.le_of_eq h
  p := x.p
  fr := x.fr
  th := x.th
  nw := fun k h1 h2 => absurd (show k < m from h2) (by omega)
  hk := x.hk
  hn := x.hn
/-! ### a list that is being made -/
def Wd.hide (w : Wd) (a : Addr) (o : HO) : Wd := ⟨upd w.H a o, w.n, w.p, a :: w.hid⟩
def Wd.poke (w : Wd) (a : Addr) (o : HO) : Wd := { w with H := upd w.H a o }
def Wd.show (w : Wd) (a : Addr) : Wd := { w with hid := w.hid.filter fun b => decide (b ≠ a) }
def Wd.own (w : Wd) (a : Addr) : Wd := ⟨w.H, w.n + 1, fun k => if k = w.n then a else w.p k, w.hid.filter fun b => decide (b ≠ a)⟩
theorem ext_hide {a : Addr} {o : HO} (s : SR K w S) (h : w.H a = none) : Ext w (w.hide a o) where
  le := Nat.le_refl _
  p := fun _ _ => rfl
  fr := fun b u e _ => by
    show upd w.H a o b = _
    rw [upd_ne (ne_of_none e h)]
    exact e
  th := fun b e => upd_some e
  nw := fun k h1 h2 => absurd h2 (Nat.not_lt.mpr h1)
  hk := fun b hb => ⟨List.mem_cons_of_mem _ hb, upd_ne fun q => (s.hid b hb).1 (by rw [q]; exact h)⟩
  hn := fun b hb => by
    rcases List.mem_cons.mp hb with q | q
    · exact .inr (by rw [q]; exact h)
    · exact .inl q
theorem SR.hide {a : Addr} {o : HO} (s : SR K w S) (h : w.H a = none) : SR K (w.hide a o) S where
  n := s.n
  inj := s.inj
  hid := fun b hb => by
    rcases List.mem_cons.mp hb with q | q
    · rw [q]
      exact ⟨by show upd w.H a o a ≠ none; rw [upd_same]; exact Option.some_ne_none _, fun k hk z => s.live_some (.inl ⟨k, hk, z⟩) h⟩
    · exact ⟨upd_some (s.hid b q).1, (s.hid b q).2⟩
  cell := fun k c e => (s.cell k c e).ext (ext_hide s h) (upd_ne fun q => (s.cell k c e).some (by rw [q]; exact h))
theorem mono_poke {a : Addr} {o : HO} (h : a ∈ w.hid) : Mono w (w.poke a o) :=
  ⟨fun b u nl e => ⟨nl, by show upd w.H a o b = _; rw [upd_ne fun q => nl (by rw [q]; exact .inr h)]; exact e⟩, Nat.le_refl _, fun _ _ => rfl⟩
theorem SR.poke {a : Addr} {o : HO} (s : SR K w S) (h : a ∈ w.hid) : SR K (w.poke a o) S where
  n := s.n
  inj := s.inj
  hid := fun b hb => ⟨upd_some (s.hid b hb).1, (s.hid b hb).2⟩
  cell := fun k c e => (s.cell k c e).mono (mono_poke h) (upd_ne fun q => (s.hid a h).2 k (s.lt e) q)
theorem Ext.poke {w0 : Wd} {a : Addr} {o : HO} (x : Ext w0 w) (s0 : ∀ b, b ∈ w0.hid → w0.H b ≠ none) (h : w0.H a = none) : Ext w0 (w.poke a o) where
  le := x.le
  p := x.p
  fr := fun b u e nl => by
    show upd w.H a o b = _
    rw [upd_ne (ne_of_none e h)]
    exact x.fr b u e nl
  th := fun b e => upd_some (x.th b e)
  nw := x.nw
  hk := fun b hb => ⟨(x.hk b hb).1, by
    show upd w.H a o b = _
    rw [upd_ne fun q => s0 b hb (by rw [q]; exact h)]
    exact (x.hk b hb).2⟩
  hn := x.hn
theorem Ext.show {w0 : Wd} {a : Addr} (x : Ext w0 w) (s0 : ∀ b, b ∈ w0.hid → w0.H b ≠ none) (h : w0.H a = none) : Ext w0 (w.show a) where
  le := x.le
  p := x.p
  fr := x.fr
  th := x.th
  nw := x.nw
  hk := fun b hb => ⟨List.mem_filter.mpr ⟨(x.hk b hb).1, decide_eq_true fun q => s0 b hb (by rw [q]; exact h)⟩, (x.hk b hb).2⟩
  hn := fun b hb => x.hn b (List.mem_filter.mp hb).1
theorem mono_show {a : Addr} : Mono w (w.show a) :=
  ⟨fun b u nl e => ⟨fun z => nl (by
    rcases z with z | z
    · exact .inl z
    · exact .inr (List.mem_filter.mp z).1), e⟩, Nat.le_refl _, fun _ _ => rfl⟩
theorem SR.show {a : Addr} (s : SR K w S) : SR K (w.show a) S where
  n := s.n
  inj := s.inj
  hid := fun b hb => s.hid b (List.mem_filter.mp hb).1
  cell := fun k c e => (s.cell k c e).mono mono_show rfl
theorem nlive_show {a : Addr} (s : SR K w S) (h : a ∈ w.hid) : ¬ (w.show a).Live a := fun z => by
  rcases z with ⟨k, hk, e⟩ | z
  · exact (s.hid a h).2 k hk e
  · exact absurd rfl (of_decide_eq_true (List.mem_filter.mp z).2)
theorem own_lt {a : Addr} {k : Nat} (h : k < w.n) : (w.own a).p k = w.p k := if_neg (Nat.ne_of_lt h)
theorem own_p {a : Addr} : (w.own a).p w.n = a := if_pos rfl
theorem mono_own {a : Addr} (h : a ∈ w.hid) : Mono w (w.own a) :=
  ⟨fun b u nl e => ⟨fun z => nl (by
    rcases z with ⟨k, hk, z⟩ | z
    · have hk' : k < w.n + 1 := hk
      by_cases q : k = w.n
      · rw [q, own_p] at z
        rw [← z]
        exact .inr h
      · rw [own_lt (by omega)] at z
        exact .inl ⟨k, by omega, z⟩
    · exact .inr (List.mem_filter.mp z).1), e⟩, Nat.le_succ _, fun _ q => own_lt q⟩
theorem Ext.own {w0 : Wd} {a : Addr} (x : Ext w0 w) (s0 : ∀ b, b ∈ w0.hid → w0.H b ≠ none) (h : w0.H a = none) : Ext w0 (w.own a) where
  le := Nat.le_succ_of_le x.le
  p := fun k q => (own_lt (Nat.lt_of_lt_of_le q x.le)).trans (x.p k q)
  fr := x.fr
  th := x.th
  nw := fun k h1 h2 => by
    have h2' : k < w.n + 1 := h2
    by_cases q : k = w.n
    · rw [q, own_p]; exact h
    · rw [own_lt (by omega)]
      exact x.nw k h1 (by omega)
  hk := fun b hb => ⟨List.mem_filter.mpr ⟨(x.hk b hb).1, decide_eq_true fun q => s0 b hb (by rw [q]; exact h)⟩, (x.hk b hb).2⟩
  hn := fun b hb => x.hn b (List.mem_filter.mp hb).1
theorem SR.own {a : Addr} {c : Cell} (s : SR K w S) (h : a ∈ w.hid) (hc : CellR K (w.own a) a c) : SR K (w.own a) (S ++ [c]) where
  n := by rw [List.length_append, ← s.n]; rfl
  inj := fun i j hi hj e => by
    have hi' : i < w.n + 1 := hi
    have hj' : j < w.n + 1 := hj
    by_cases qi : i = w.n
    · by_cases qj : j = w.n
      · rw [qi, qj]
      · rw [qi, own_p, own_lt (by omega)] at e
        exact absurd e.symm ((s.hid a h).2 j (by omega))
    · by_cases qj : j = w.n
      · rw [qj, own_p, own_lt (by omega)] at e
        exact absurd e ((s.hid a h).2 i (by omega))
      · rw [own_lt (by omega), own_lt (by omega)] at e
        exact s.inj i j (by omega) (by omega) e
  hid := fun b hb => by
    have h1 := List.mem_filter.mp hb
    refine ⟨(s.hid b h1.1).1, fun k hk => ?_⟩
    have hk' : k < w.n + 1 := hk
    by_cases q : k = w.n
    · rw [q, own_p]
      exact fun z => of_decide_eq_true h1.2 z.symm
    · rw [own_lt (by omega)]
      exact (s.hid b h1.1).2 k (by omega)
  cell := fun k c' e => by
    by_cases q : k < S.length
    · rw [List.getElem?_append_left q] at e
      have lk : k < w.n := by rw [s.n]; exact q
      rw [own_lt lk]
      exact (s.cell k c' e).mono (mono_own h) rfl
    · rw [List.getElem?_append_right (Nat.not_lt.mp q)] at e
      have k0 : k = S.length := by
        by_cases z : k - S.length = 0
        · omega
        · rw [show k - S.length = (k - S.length - 1) + 1 by omega] at e
          simp at e
      rw [k0, Nat.sub_self] at e
      have e2 : c = c' := by simpa using e
      rw [← e2, k0, ← s.n, own_p]
      exact hc
/-- the store's data, read off cells from m on -/
def allD (f : R → Option D) : List R → Option (List D)
  | [] => some []
  | r :: rs => match f r, allD f rs with
    | some d, some ds => some (d :: ds)
    | _, _ => none
def toD (m : Nat) (S : Store) : Nat → R → Option D
  | _, .dat d => some d
  | 0, _ => none
  | f + 1, .own k => if k < m then none else match S[k]? with
    | some (.lst rs) => (allD (toD m S f) rs).map D.lst
    | some (.tup rs) => (allD (toD m S f) rs).map D.tup
    | some (.obj c ns rs) => (allD (toD m S f) rs).map (D.obj c ns)
    | none => none
  | _, .exc _ _ _ => none
theorem allD_ok {f : R → Option D} {m : Nat} (hf : ∀ r d v, f r = some d → Rel K w r v → Rep K (w.cut m) d v) : ∀ {rs : List R} {ds : List D} {vs : List V}, allD f rs = some ds → Rels K w rs vs → Reps K (w.cut m) ds vs
  | [], ds, vs, h, q => by
    cases h
    exact q
  | r :: rs, ds, vs, h, ⟨v, vr, e, h1, h2⟩ => by
    unfold allD at h
    cases e1 : f r with
    | none => rw [e1] at h; cases h
    | some d =>
      cases e2 : allD f rs with
      | none => rw [e1, e2] at h; cases h
      | some ds' =>
        rw [e1, e2] at h
        cases h
        exact ⟨v, vr, e, hf _ _ _ e1 h1, allD_ok hf e2 h2⟩
theorem toD_ok {m : Nat} (s : SR K w S) (h : m ≤ w.n) : ∀ (f : Nat) (r : R) (d : D) (v : V), toD m S f r = some d → Rel K w r v → Rep K (w.cut m) d v := by
  intro f
  induction f with
  | zero =>
    intro r d v e q
    cases r with
    | dat d' => cases e; exact Rep.imp (cut_keep h) _ _ q
    | own k => cases e
    | exc c ns l => cases e
  | succ f ih =>
    intro r d v e q
    cases r with
    | dat d' => cases e; exact Rep.imp (cut_keep h) _ _ q
    | exc c ns l => cases e
    | own k =>
      obtain ⟨hk, rfl⟩ := q
      have e1 : (if k < m then none else match S[k]? with
        | some (.lst rs) => (allD (toD m S f) rs).map D.lst
        | some (.tup rs) => (allD (toD m S f) rs).map D.tup
        | some (.obj c ns rs) => (allD (toD m S f) rs).map (D.obj c ns)
        | none => none) = some d := e
      by_cases lk : k < m
      · rw [if_pos lk] at e1; cases e1
      · rw [if_neg lk] at e1
        have nl : ¬ (w.cut m).Live (w.p k) := fun z => by
          rcases z with ⟨j, hj, z⟩ | z
          · have z' : w.p j = w.p k := z
            have hj' : j < m := hj
            have := s.inj j k (by omega) hk z'
            exact lk (by omega)
          · exact (s.hid _ z).2 k hk rfl
        obtain ⟨c, hc, hr⟩ := s.get hk
        rw [hc] at e1
        cases c with
        | lst rs =>
          obtain ⟨vs, h1, hz, h2⟩ := hr
          obtain ⟨ds, e2, e3⟩ := Option.map_eq_some_iff.mp e1
          rw [← e3]
          exact ⟨w.p k, vs, rfl, nl, h1, hz, allD_ok ih e2 h2⟩
        | tup rs =>
          obtain ⟨vs, h1, hz, h2⟩ := hr
          obtain ⟨ds, e2, e3⟩ := Option.map_eq_some_iff.mp e1
          rw [← e3]
          exact ⟨w.p k, vs, rfl, nl, h1, hz, allD_ok ih e2 h2⟩
        | obj c ns rs =>
          obtain ⟨dx, fs, h1, h2, h3⟩ := hr
          obtain ⟨ds, e2, e3⟩ := Option.map_eq_some_iff.mp e1
          rw [← e3]
          exact ⟨w.p k, dx, fs, rfl, nl, h1, h2, allD_ok ih e2 h3⟩
end
end MP
set_option Elab.async false
set_option linter.all false
set_option maxRecDepth 100000
set_option maxHeartbeats 4000000
/-! MPIR: the code as data (with what the text has besides), what it evaluates to. -/
namespace MP
open PySem PySem.Spec PyProof.Rows L2

inductive Bop where | add | sub | mul | fdiv | mod | pow
inductive Cop where | lt | le | gt | ge | eq | ne
inductive BTy where | int | bool | str | list | tuple
  deriving DecidableEq
inductive Lm where | append | pop
  deriving DecidableEq
inductive Bf where | len | sum | int | abs | max | min | tuple | list | all
  deriving DecidableEq
def BTy.nm : BTy → String | .int => "int" | .bool => "bool" | .str => "str" | .list => "list" | .tuple => "tuple"
def BTy.x : BTy → Str | .int => "int" | .bool => "bool" | .str => "str" | .list => "list" | .tuple => "tuple"
def Lm.x : Lm → Str | .append => "append" | .pop => "pop"
def Bf.x : Bf → Str | .len => "len" | .sum => "sum" | .int => "int" | .abs => "abs" | .max => "max" | .min => "min" | .tuple => "tuple" | .list => "list" | .all => "all"
def Bop.o : Bop → Operator
  | .add => .Add | .sub => .Sub | .mul => .Mult | .fdiv => .FloorDiv | .mod => .Mod | .pow => .Pow
def Cop.o : Cop → CmpOp
  | .lt => .Lt | .le => .LtE | .gt => .Gt | .ge => .GtE | .eq => .Eq | .ne => .NotEq

mutual
/-- expressions; m: a list that is made is to be a cell -/
inductive IE where
  | var (i : Nat) (x : Str) (p : Pos)
  | int (i : Int) (k : Nat) (p : Pos)
  | bl (b : Bool) (k : Nat) (p : Pos)
  | non (k : Nat) (p : Pos)
  | str (s : Str) (k : Nat) (p : Pos)
  | gint (i : Int) (x : Str) (p : Pos)
  | bin (m : Bool) (op : Bop) (a b : IE) (p : Pos)
  | neg (a : IE) (p : Pos)
  | cmp (op : Cop) (a b : IE) (p : Pos)
  | isN (n : Bool) (a : IE) (k : Nat) (p1 p : Pos)
  | not (a : IE) (p : Pos)
  | and (a : IE) (r : IEs) (p : Pos)
  | or (a : IE) (r : IEs) (p : Pos)
  | ifx (c a b : IE) (p : Pos)
  | lst (m : Bool) (es : IEs) (p : Pos)
  | tup (es : IEs) (k : Nat) (p : Pos)
  | ix (a i : IE) (p : Pos)
  | sl (m : Bool) (a : IE) (lo hi : IEs) (p2 p : Pos)
  | attr (a : IE) (c f : Str) (p : Pos)
  | call (f : Nat) (x : Str) (a : IE) (es : IEs) (p0 p : Pos)
  | callK (f : Nat) (x : Str) (a : IE) (es : IEs) (kw : IKs) (pm : List Nat) (p0 p : Pos)
  | callKK (f : Nat) (x : Str) (kw : IKs) (pm : List Nat) (p0 p : Pos)
  | bi (m : Bool) (f : Bf) (a : IE) (es : IEs) (p0 p : Pos)
  | gcd (lcm : Bool) (a b : IE) (p0 p : Pos)
  | make (m : Bool) (f : Nat) (c : Str) (a : IE) (es : IEs) (p0 p : Pos)
  | meth (f : Nat) (c : Str) (o : IE) (n : Str) (es : IEs) (p1 p : Pos)
  | callD (f : Nat) (x : Str) (a : IE) (es : IEs) (ds : List Int) (p0 p : Pos)
  | makeD (m : Bool) (f : Nat) (c : Str) (a : IE) (es : IEs) (ds : List Int) (p0 p : Pos)
  | opm (f : Nat) (c : Str) (op : Bop) (a b : IE) (p : Pos)
  | prop (f : Nat) (c : Str) (o : IE) (n : Str) (p : Pos)
  | chain (op op2 : Cop) (a b c : IE) (p : Pos)
  | inn (n : Bool) (a b : IE) (p : Pos)
  | lmeth (o : IE) (n : Lm) (es : IEs) (p1 p : Pos)
  | isT (a : IE) (T : BTy) (p1 p0 p : Pos)
  | isC (a : IE) (c : Str) (p1 p0 p : Pos)
  | xIs (i : Nat) (x : Str) (c : Str) (px p1 p0 p : Pos)
  | xAt (i : Nat) (x : Str) (f : Str) (px p : Pos)
  | lc (m : Bool) (e : IE) (t : IT) (it : II) (cs : IEs) (own : List (Str × Nat)) (sc : Scope) (p : Pos)
  | lc2 (m : Bool) (e : IE) (t : IT) (it : II) (cs : IEs) (t2 : IT) (it2 : II) (cs2 : IEs) (own : List (Str × Nat)) (vs2 : List Nat) (sc : Scope) (p : Pos)
inductive IEs where | nil | cons (e : IE) (r : IEs)
inductive IKs where | nil | cons (n : Str) (e : IE) (p : Pos) (r : IKs)
/-- targets: names -/
inductive IT where | one (i : Nat) (x : Str) (p : Pos) | many (l : List (Nat × Str × Pos)) (k : Nat) (p : Pos)
/-- what is walked -/
inductive II where
  | of (e : IE)
  | rng1 (a : IE) (p0 p : Pos)
  | rng2 (a b : IE) (p0 p : Pos)
  | enum (a : IE) (p0 p : Pos)
  | zip (a b : IE) (p0 p : Pos)
  | zip3 (a b c : IE) (p0 p : Pos)
end
mutual
inductive IS where
  | asg (t : IT) (e : IE) (p : Pos)
  | aug (i : Nat) (x : Str) (op : Bop) (e : IE) (px p : Pos)
  | setIx (a i e : IE) (ps p : Pos)
  | setAt (o : IE) (c f : Str) (e : IE) (ps p : Pos)
  | expr (e : IE) (p : Pos)
  | ret (e : IE) (p : Pos)
  | ite (c : IE) (a b : ISs) (p : Pos)
  | for_ (t : IT) (it : II) (b : ISs) (p : Pos)
  | while_ (c : IE) (b : ISs) (p : Pos)
  | raise (c : Str) (f : Option Nat) (a : IEs) (pn pc p : Pos)
  | pass (p : Pos)
  | brk (p : Pos)
  | cont (p : Pos)
  | try1 (b : ISs) (c : Str) (i : Nat) (n : Str) (s : ISs) (pc ph : Pos) (h : IHs) (p : Pos)
inductive ISs where | nil | cons (s : IS) (r : ISs)
/-- further clauses, without a name -/
inductive IHs where | nil | cons (c : Str) (s : ISs) (pc p : Pos) (r : IHs)
end

mutual
def IE.e : IE → Expr
  | .var _ x p => .Name x p
  | .int i k p => .Constant (.int i) k p
  | .bl b k p => .Constant (.bool b) k p
  | .non k p => .Constant .none k p
  | .str s k p => .Constant (.str s) k p
  | .gint _ x p => .Name x p
  | .bin _ op a b p => .BinOp a.e op.o b.e p
  | .neg a p => .UnaryOp .USub a.e p
  | .cmp op a b p => .Compare a.e [op.o] [b.e] p
  | .isN n a k p1 p => .Compare a.e [if n then .IsNot else .Is] [.Constant .none k p1] p
  | .not a p => .UnaryOp .Not a.e p
  | .and a r p => .BoolOp .And (a.e :: r.es) p
  | .or a r p => .BoolOp .Or (a.e :: r.es) p
  | .ifx c a b p => .IfExp c.e a.e b.e p
  | .lst _ es p => .List es.es p
  | .tup es k p => .Tuple es.es k p
  | .ix a i p => .Subscript a.e i.e p
  | .sl _ a lo hi p2 p => .Subscript a.e (.Slice lo.o hi.o none p2) p
  | .attr a _ f p => .Attribute a.e f p
  | .call _ x a es p0 p => .Call (.Name x p0) (a.e :: es.es) [] p
  | .callK _ x a es kw _ p0 p => .Call (.Name x p0) (a.e :: es.es) kw.ks p
  | .callKK _ x kw _ p0 p => .Call (.Name x p0) [] kw.ks p
  | .bi _ f a es p0 p => .Call (.Name f.x p0) (a.e :: es.es) [] p
  | .gcd l a b p0 p => .Call (.Name (if l then "lcm" else "gcd") p0) [a.e, b.e] [] p
  | .make _ _ c a es p0 p => .Call (.Name c p0) (a.e :: es.es) [] p
  | .meth _ _ o n es p1 p => .Call (.Attribute o.e n p1) es.es [] p
  | .callD _ x a es _ p0 p => .Call (.Name x p0) (a.e :: es.es) [] p
  | .makeD _ _ c a es _ p0 p => .Call (.Name c p0) (a.e :: es.es) [] p
  | .opm _ _ op a b p => .BinOp a.e op.o b.e p
  | .prop _ _ o n p => .Attribute o.e n p
  | .chain op op2 a b c p => .Compare a.e [op.o, op2.o] [b.e, c.e] p
  | .inn n a b p => .Compare a.e [if n then .NotIn else .In] [b.e] p
  | .lmeth o n es p1 p => .Call (.Attribute o.e n.x p1) es.es [] p
  | .isT a T p1 p0 p => .Call (.Name "isinstance" p0) [a.e, .Name T.x p1] [] p
  | .isC a c p1 p0 p => .Call (.Name "isinstance" p0) [a.e, .Name c p1] [] p
  | .xIs _ x c px p1 p0 p => .Call (.Name "isinstance" p0) [.Name x px, .Name c p1] [] p
  | .xAt _ x f px p => .Attribute (.Name x px) f p
  | .lc _ e t it cs _ sc p => .ListComp e.e [⟨t.e, it.e, cs.es, 0⟩] sc p
  | .lc2 _ e t it cs t2 it2 cs2 _ _ sc p => .ListComp e.e [⟨t.e, it.e, cs.es, 0⟩, ⟨t2.e, it2.e, cs2.es, 0⟩] sc p
def IEs.es : IEs → List Expr
  | .nil => []
  | .cons e r => e.e :: r.es
def IEs.o : IEs → Option Expr
  | .nil => none
  | .cons e _ => some e.e
def IKs.ks : IKs → List Keyword
  | .nil => []
  | .cons n e p r => ⟨some n, e.e, p⟩ :: r.ks
def IT.e : IT → Expr
  | .one _ x p => .Name x p
  | .many l k p => .Tuple (l.map fun q => .Name q.2.1 q.2.2) k p
def II.e : II → Expr
  | .of e => e.e
  | .rng1 a p0 p => .Call (.Name "range" p0) [a.e] [] p
  | .rng2 a b p0 p => .Call (.Name "range" p0) [a.e, b.e] [] p
  | .enum a p0 p => .Call (.Name "enumerate" p0) [a.e] [] p
  | .zip a b p0 p => .Call (.Name "zip" p0) [a.e, b.e] [] p
  | .zip3 a b c p0 p => .Call (.Name "zip" p0) [a.e, b.e, c.e] [] p
end
mutual
def IS.s : IS → Stmt
  | .asg t e p => .Assign [t.e] e.e p
  | .aug _ x op e px p => .AugAssign (.Name x px) op.o e.e p
  | .setIx a i e ps p => .Assign [.Subscript a.e i.e ps] e.e p
  | .setAt o _ f e ps p => .Assign [.Attribute o.e f ps] e.e p
  | .expr e p => .Expr e.e p
  | .ret e p => .Return (some e.e) p
  | .ite c a b p => .If c.e a.ss b.ss p
  | .for_ t it b p => .For t.e it.e b.ss [] p
  | .while_ c b p => .While c.e b.ss [] p
  | .raise c _ a pn pc p => .Raise (some (.Call (.Name c pn) a.es [] pc)) none p
  | .pass p => .Pass p
  | .brk p => .Break p
  | .cont p => .Continue p
  | .try1 b c _ n s pc ph h p => .Try b.ss (.ExceptHandler (some (.Name c pc)) (some n) s.ss ph :: h.hs) [] [] p
def ISs.ss : ISs → List Stmt
  | .nil => []
  | .cons s r => s.s :: r.ss
def IHs.hs : IHs → List ExceptHandler
  | .nil => []
  | .cons c s pc p r => .ExceptHandler (some (.Name c pc)) none s.ss p :: r.hs
end

/-! ### results -/
inductive Res (α : Type) where
  | ok (a : α) (S : Store)
  | exc (c : Str) (ns : List Str) (l : List D) (S : Store)
  | stuck
abbrev M (α : Type) := Store → Res α
def M.pure {α : Type} (a : α) : M α := fun S => .ok a S
def M.bind {α β : Type} (m : M α) (f : α → M β) : M β := fun S => match m S with
  | .ok a S' => f a S'
  | .exc c ns l S' => .exc c ns l S'
  | .stuck => .stuck
def M.stuck {α : Type} : M α := fun _ => .stuck
instance : Monad M where
  pure := M.pure
  bind := M.bind
def M.opt {α : Type} : Option α → M α
  | some a => M.pure a
  | none => M.stuck

def M.noX {α : Type} (m : M α) : M α := fun S => match m S with
  | .ok a S' => .ok a S'
  | _ => .stuck
/-! ### views -/
def itemsR (S : Store) : R → Option (List R)
  | .dat (.lst l) => some (l.map .dat)
  | .dat (.tup l) => some (l.map .dat)
  | .own k => match S[k]? with
    | some (.lst rs) => some rs
    | some (.tup rs) => some rs
    | _ => none
  | _ => none
def intsR : List R → Option (List Int)
  | [] => some []
  | .dat (.int i) :: r => (intsR r).map (i :: ·)
  | _ => none
def blsR : List R → Option (List Bool)
  | [] => some []
  | .dat (.bl i) :: r => (blsR r).map (i :: ·)
  | _ => none
def datsR : List R → Option (List D)
  | [] => some []
  | .dat d :: r => (datsR r).map (d :: ·)
  | _ => none
/-- a list that is made: data, or a cell -/
def mkL (m : Bool) (rs : List R) : M R := fun S => match m, datsR rs with
  | false, some ds => .ok (.dat (.lst ds)) S
  | _, _ => .ok (.own S.length) (S ++ [.lst rs])
def mkT (rs : List R) : M R := fun S => match datsR rs with
  | some ds => .ok (.dat (.tup ds)) S
  | none => .ok (.own S.length) (S ++ [.tup rs])
mutual
def py : D → Option PyData
  | .non => some .none
  | .bl b => some (.bool b)
  | .int i => some (.int i)
  | .str s => some (.str s)
  | .tup l => (pys l).map .tuple
  | .lst l => (pys l).map .list
  | .slst _ => none
  | .obj _ _ _ => none
def pys : List D → Option (List PyData)
  | [] => some []
  | d :: l => match py d, pys l with
    | some x, some xs => some (x :: xs)
    | _, _ => none
end
/-- == -/
def eqD (S : Store) (a b : R) : Option Bool := match a, b with
  | .dat (.int i), .dat (.int j) => some (decide (i = j))
  | .dat (.bl i), .dat (.bl j) => some (decide (i = j))
  | .dat (.str i), .dat (.str j) => some (decide (i = j))
  | .dat .non, .dat (.int _) => some false
  | .dat (.int _), .dat .non => some false
  | a, b => match toD 0 S 8 a, toD 0 S 8 b with
    | some d, some e => (match py d, py e with
      | some x, some y => if SeqAt.shaped x = true ∧ SeqAt.shaped y = true then some (PyData.eqv x y) else none
      | _, _ => none)
    | _, _ => none
def small (n : Nat) : Bool := decide (n ≤ 1000000)
def isTup : Store → R → Bool
  | _, .dat (.tup _) => true
  | S, .own k => match S[k]? with
    | some (.tup _) => true
    | _ => false
  | _, _ => false
/-- the items of a list, not of a tuple -/
def itemsL (S : Store) (r : R) : Option (List R) := if isTup S r = true then none else itemsR S r
def catL (m : Bool) (a b : R) : M R := fun S => match itemsL S a, itemsL S b with
  | some xs, some ys => if small (xs.length + ys.length) = true then mkL m (xs ++ ys) S else .stuck
  | _, _ => .stuck
def repL (m : Bool) (a : R) (k : Int) : M R := fun S => match itemsL S a with
  | some xs => if small (xs.length * k.toNat) = true ∧ k ≤ 1000000 ∧ -1000000 ≤ k then mkL m (List.replicate k.toNat xs).flatten S else .stuck
  | none => .stuck
def mulOk (i j : Int) : Bool := decide (i.natAbs.log2 + j.natAbs.log2 < 1000000)
def divOk (j : Int) : Bool := decide (0 < j ∧ j.natAbs.log2 < 9000)
def powOk (i j : Int) : Bool := decide (0 ≤ j ∧ (Builtin.Int.intBits i : Int) * j ≤ 2 ^ 27)
def binR (m : Bool) (op : Bop) (a b : R) : M R := match op, a, b with
  | .add, .dat (.int i), .dat (.int j) => M.pure (.dat (.int (i + j)))
  | .sub, .dat (.int i), .dat (.int j) => M.pure (.dat (.int (i - j)))
  | .mul, .dat (.int i), .dat (.int j) => if mulOk i j = true then M.pure (.dat (.int (i * j))) else M.stuck
  | .fdiv, .dat (.int i), .dat (.int j) => if divOk j = true then M.pure (.dat (.int (i / j))) else M.stuck
  | .mod, .dat (.int i), .dat (.int j) => if 0 < j then M.pure (.dat (.int (i % j))) else M.stuck
  | .pow, .dat (.int i), .dat (.int j) => if powOk i j = true then M.pure (.dat (.int (i ^ j.toNat))) else M.stuck
  | .add, a, b => catL m a b
  | .mul, a, .dat (.int k) => repL m a k
  | _, _, _ => M.stuck
def cmpR (op : Cop) (a b : R) : M R := fun S => match op, a, b with
  | .lt, .dat (.int i), .dat (.int j) => .ok (.dat (.bl (decide (i < j)))) S
  | .le, .dat (.int i), .dat (.int j) => .ok (.dat (.bl (decide (i ≤ j)))) S
  | .gt, .dat (.int i), .dat (.int j) => .ok (.dat (.bl (decide (j < i)))) S
  | .ge, .dat (.int i), .dat (.int j) => .ok (.dat (.bl (decide (j ≤ i)))) S
  | .eq, a, b => (match eqD S a b with
    | some c => .ok (.dat (.bl c)) S
    | none => .stuck)
  | .ne, a, b => (match eqD S a b with
    | some c => .ok (.dat (.bl (!c))) S
    | none => .stuck)
  | _, _, _ => .stuck
def atR (rs : List R) (i : Int) : Option R := atI rs i
def ixR (a i : R) : M R := fun S => match i, itemsR S a with
  | .dat (.int i), some rs => (match atR rs i with
    | some r => .ok r S
    | none => .stuck)
  | _, _ => .stuck
def cutR {α : Type} (xs : List α) (lo hi : Option Int) : List α := (xs.drop (HT.sIx xs.length 0 lo)).take (HT.sIx xs.length xs.length hi - HT.sIx xs.length 0 lo)
def slR (m : Bool) (a : R) (lo hi : Option Int) : M R := fun S => match a with
  | .dat (.slst l) => .ok (.dat (.lst (cutR l lo hi))) S
  | a => match itemsL S a with
    | some rs => mkL m (cutR rs lo hi) S
    | none => .stuck
def lookA {α : Type} (f : Str) : List Str → List α → Option α
  | n :: ns, d :: ds => if n = f then some d else lookA f ns ds
  | _, _ => none
def attrR (r : R) (c f : Str) : M R := fun S => match r with
  | .dat (.obj c' ns l) => if c' = c then (match lookA f ns l with
    | some d => .ok (.dat d) S
    | none => .stuck) else .stuck
  | .own k => (match S[k]? with
    | some (.obj c' ns rs) => if c' = c then (match lookA f ns rs with
      | some r => .ok r S
      | none => .stuck) else .stuck
    | _ => .stuck)
  | _ => .stuck
def maxI : List Int → Int
  | [] => 0
  | x :: xs => xs.foldl max x
def minI : List Int → Int
  | [] => 0
  | x :: xs => xs.foldl min x
def biR (m : Bool) (f : Bf) (rs : List R) : M R := fun S => match f, rs with
  | .int, [.dat (.int i)] => .ok (.dat (.int i)) S
  | .int, [.dat (.bl b)] => .ok (.dat (.int (if b then 1 else 0))) S
  | .abs, [.dat (.int i)] => .ok (.dat (.int (if i < 0 then -i else i))) S
  | .max, [.dat (.int i), .dat (.int j)] => .ok (.dat (.int (max i j))) S
  | .min, [.dat (.int i), .dat (.int j)] => .ok (.dat (.int (min i j))) S
  | .len, [a] => (match itemsR S a with
    | some xs => .ok (.dat (.int xs.length)) S
    | none => .stuck)
  | .sum, [a] => (match (itemsR S a).bind intsR with
    | some xs => .ok (.dat (.int xs.sum)) S
    | none => .stuck)
  | .max, [a] => (match (itemsL S a).bind intsR with
    | some (x :: xs) => .ok (.dat (.int (maxI (x :: xs)))) S
    | _ => .stuck)
  | .min, [a] => (match (itemsL S a).bind intsR with
    | some (x :: xs) => .ok (.dat (.int (minI (x :: xs)))) S
    | _ => .stuck)
  | .all, [a] => (match (itemsL S a).bind blsR with
    | some xs => .ok (.dat (.bl (xs.all id))) S
    | none => .stuck)
  | .tuple, [a] => if isTup S a = true then .ok a S else (match itemsR S a with
      | some xs => mkT xs S
      | none => .stuck)
  | .list, [a] => (match itemsR S a with
    | some xs => mkL m xs S
    | none => .stuck)
  | _, _ => .stuck
def gcdR (lcm : Bool) (a b : R) : M R := fun S => match a, b with
  | .dat (.int i), .dat (.int j) => if lcm then (if decide (i.natAbs.log2 < 9000 ∧ j.natAbs.log2 < 9000) then .ok (.dat (.int (Nat.lcm i.natAbs j.natAbs))) S else .stuck)
    else .ok (.dat (.int (Nat.gcd i.natAbs j.natAbs))) S
  | _, _ => .stuck
/-- the methods of lists that stand in a cell -/
def lmR (o : R) (n : Lm) (rs : List R) : M R := fun S => match o with
  | .own k => (match S[k]? with
    | some (.lst xs) => (match n, rs with
      | .pop, [] => (match xs[xs.length - 1]? with
          | some y => .ok y (S.set k (.lst xs.dropLast))
          | none => .stuck)
      | .append, [r] => if small xs.length = true then .ok (.dat .non) (S.set k (.lst (xs ++ [r]))) else .stuck
      | .pop, [.dat (.int i)] => if i = 0 then (match xs with
              | y :: ys => .ok y (S.set k (.lst ys))
              | [] => .stuck) else .stuck
      | _, _ => .stuck)
    | _ => .stuck)
  | _ => .stuck
def lmRecv (o : R) : M Unit := fun S => match o with
  | .own k => (match S[k]? with
    | some (.lst _) => .ok () S
    | _ => .stuck)
  | _ => .stuck
def tyR (S : Store) : R → Option BTy
  | .dat (.int _) => some .int
  | .dat (.bl _) => some .bool
  | .dat (.str _) => some .str
  | .dat (.lst _) => some .list
  | .dat (.tup _) => some .tuple
  | .own k => match S[k]? with
    | some (.lst _) => some .list
    | some (.tup _) => some .tuple
    | _ => none
  | _ => none
def isTy (t T : BTy) : Bool := decide (t = T) || (decide (t = .bool) && decide (T = .int))
/-! ### items, targets -/
inductive Itm where
  | one (r : R)
  | tup (rs : List R)
abbrev Gd := List (Nat × Cell)
open Classical in
/-- the lists that are walked stand as they stood -/
noncomputable def gdOk (S : Store) (g : Gd) : Bool := decide (∀ q ∈ g, S[q.1]? = some q.2)
def setM : List (Nat × Str × Pos) → List R → Env → Option Env
  | [], [], ρ => some ρ
  | q :: l, r :: rs, ρ => setM l rs (ρ.set q.1 (some r))
  | _, _, _ => none
def bindT (t : IT) (x : Itm) (ρ : Env) (S : Store) : Option Env := match t, x with
  | .one i _ _, .one r => some (ρ.set i (some r))
  | .many l _ _, .tup rs => setM l rs ρ
  | .many l _ _, .one (.dat (.tup ds)) => setM l (ds.map .dat) ρ
  | .many l _ _, .one (.own k) => (match S[k]? with
    | some (.tup rs) => setM l rs ρ
    | _ => none)
  | _, _ => none
def guardR (S : Store) : R → Gd
  | .own k => match S[k]? with
    | some c => [(k, c)]
    | none => []
  | _ => []
def wipeE (ρ : Env) : List Nat → Env
  | [] => ρ
  | v :: vs => (wipeE ρ vs).set v none
/-! ### calls -/
structure Calls where
  fn : Nat → List R → M R
  sub : Str → Str → Option Bool
  xf : Str → Str → Bool
  ins : Str → Str → Option Bool
/-- names of built-in types: an instance's class has none of them -/
def bNames : List Str := ["int", "bool", "str", "list", "tuple", "NoneType"]
def tyN (S : Store) : R → Option Str
  | .dat (.obj c _ _) => if c ∈ bNames then none else some c
  | .dat .non => some "NoneType"
  | .dat d => (tyR S (.dat d)).map BTy.x
  | .own k => (match S[k]? with
    | some (.obj c _ _) => if c ∈ bNames then none else some c
    | _ => (tyR S (.own k)).map BTy.x)
  | _ => none
def pick (pm : List Nat) (rs : List R) : Option (List R) := pm.mapM fun i => rs[i]?
noncomputable def lcLoop (g : Gd) (f : Itm → M (List R)) : List Itm → M (List R)
  | [] => fun S => if gdOk S g = true then .ok [] S else .stuck
  | x :: xs => M.bind (f x) fun a => M.bind (lcLoop g f xs) fun b => M.pure (a ++ b)
end MP
set_option Elab.async false
set_option linter.all false
set_option maxRecDepth 100000
set_option maxHeartbeats 4000000
/-! MPEval: what the code evaluates to. -/
namespace MP
open PySem PySem.Spec PyProof.Rows L2
noncomputable section
def truB : R → M Bool
  | .dat (.bl b) => M.pure b
  | _ => M.stuck
def optI : List R → M (Option Int)
  | [] => M.pure none
  | [.dat (.int i)] => M.pure (some i)
  | _ => M.stuck
def getV (ρ : Env) (i : Nat) : M R := match ρ[i]? with
  | some (some (.dat d)) => M.pure (.dat d)
  | some (some (.own k)) => M.pure (.own k)
  | _ => M.stuck
/-- isinstance(x, C), C an own class -/
def isCR (C : Calls) (r : R) (c : Str) : M R := fun S => match tyN S r with
  | some n => (match C.ins n c with
    | some b => .ok (.dat (.bl b)) S
    | none => .stuck)
  | none => .stuck
def isTR (r : R) (T : BTy) : M R := fun S => match r with
  | .dat .non => .ok (.dat (.bl false)) S
  | r => (match tyR S r with
    | some t => .ok (.dat (.bl (isTy t T))) S
    | none => .stuck)
def xIsR (C : Calls) (ρ : Env) (i : Nat) (c : Str) : M R := match ρ[i]? with
  | some (some (.exc c' _ _)) => (match C.sub c' c with
    | some b => M.pure (.dat (.bl b))
    | none => M.stuck)
  | _ => M.stuck
def xAtR (C : Calls) (ρ : Env) (i : Nat) (f : Str) : M R := match ρ[i]? with
  | some (some (.exc c ns l)) => if C.xf c f = true then (match lookA f ns l with
    | some d => M.pure (.dat d)
    | none => M.stuck) else M.stuck
  | _ => M.stuck
/-- a new instance, its __init__ -/
def makeR (C : Calls) (m : Bool) (f : Nat) (c : Str) (rs : List R) : M R := fun S => match C.fn f (.own S.length :: rs) (S ++ [.obj c [] []]) with
  | .ok (.dat .non) S' => if m = true then .ok (.own S.length) S' else
      (if (S'.take S.length).all (Cell.below S.length) = true ∧ S.length ≤ S'.length then (match toD S.length S' 8 (.own S.length) with
        | some d => .ok (.dat d) (S'.take S.length)
        | none => .stuck) else .stuck)
  | .exc c' ns l S' => .exc c' ns l S'
  | _ => .stuck
/-- an instance's method -/
def methR (C : Calls) (f : Nat) (c : Str) (rs : List R) : M R := fun S => match rs with
  | .dat (.obj c' _ _) :: _ => if c' = c then C.fn f rs S else .stuck
  | .own k :: _ => (match S[k]? with
    | some (.obj c' _ _) => if c' = c then C.fn f rs S else .stuck
    | _ => .stuck)
  | _ => .stuck
/-- an instance of the class -/
def objR {α : Type} (c : Str) (x : R) (m : M α) : M α := fun S => match x with
  | .dat (.obj c' _ _) => if c' = c then m S else .stuck
  | .own k => (match S[k]? with
    | some (.obj c' _ _) => if c' = c then m S else .stuck
    | _ => .stuck)
  | _ => .stuck
def zipI : List R → List R → List Itm
  | a :: as, b :: bs => .tup [a, b] :: zipI as bs
  | _, _ => []
def zipI3 : List R → List R → List R → List Itm
  | a :: as, b :: bs, c :: cs => .tup [a, b, c] :: zipI3 as bs cs
  | _, _, _ => []
def enumI : Nat → List R → List Itm
  | _, [] => []
  | n, a :: as => .tup [.dat (.int n), a] :: enumI (n + 1) as
def rngI (lo : Int) : Nat → List Itm
  | 0 => []
  | n + 1 => .one (.dat (.int lo)) :: rngI (lo + 1) n
def rngOk (i : Int) : Bool := decide (-1000000 ≤ i ∧ i ≤ 1000000)
def walkR (r : R) : M (List R) := fun S => match r, itemsR S r with
  | .dat (.lst _), some rs => .ok rs S
  | .dat (.tup _), some rs => .ok rs S
  | .own k, some rs => .ok rs S
  | _, _ => .stuck
def lcTurn (t : IT) (g : Gd) (cond : Env → M Bool) (el : Env → M (List R)) (ρ : Env) (x : Itm) : M (List R) := fun S =>
  if gdOk S g = true then (match bindT t x ρ S with
    | some ρ' => M.noX (M.bind (cond ρ') fun b => if b = true then el ρ' else M.pure []) S
    | none => .stuck) else .stuck
/-- what a comprehension has made -/
def lcOut (m : Bool) (l : List R) : M R := if small l.length = true then mkL m l else M.stuck
/-- x in xs: flat things (numbers, texts, truth values, None) -/
def flatD : D → Bool
  | .non => true
  | .bl _ => true
  | .int _ => true
  | .str _ => true
  | _ => false
def eqF : D → D → Option Bool
  | .int i, .int j => some (decide (i = j))
  | .str i, .str j => some (decide (i = j))
  | _, _ => none
/-- of one kind: numbers, or texts -/
def inF (x : D) : List R → Option Bool
  | [] => some false
  | .dat y :: r => (match eqF x y, inF x r with
    | some b, some c => some (b || c)
    | _, _ => none)
  | _ => none
def inR (n : Bool) (x y : R) : M R := fun S => match x, itemsR S y with
  | .dat d, some rs => if flatD d = true then (match inF d rs with
    | some b => .ok (.dat (.bl (if n then !b else b))) S
    | none => .stuck) else .stuck
  | _, _ => .stuck
/-- an instance of the class, without an attribute of its own of that name -/
def recvR (c n : Str) (x : R) : M Unit := fun S => match x with
  | .dat (.obj c' ns _) => if c' = c ∧ n ∉ ns then .ok () S else .stuck
  | .own k => (match S[k]? with
    | some (.obj c' ns _) => if c' = c ∧ n ∉ ns then .ok () S else .stuck
    | _ => .stuck)
  | _ => .stuck
def intsD (ds : List Int) : List R := ds.map fun i => .dat (.int i)
mutual
def evE (C : Calls) : IE → Env → M R
  | .var i _ _, ρ => getV ρ i
  | .int i _ _, _ => M.pure (.dat (.int i))
  | .bl b _ _, _ => M.pure (.dat (.bl b))
  | .non _ _, _ => M.pure (.dat .non)
  | .str s _ _, _ => M.pure (.dat (.str s))
  | .gint i _ _, _ => M.pure (.dat (.int i))
  | .bin m op a b _, ρ => M.bind (evE C a ρ) fun x => M.bind (evE C b ρ) fun y => binR m op x y
  | .neg a _, ρ => M.bind (evE C a ρ) fun x => match x with
    | .dat (.int i) => M.pure (.dat (.int (-i)))
    | _ => M.stuck
  | .cmp op a b _, ρ => M.bind (evE C a ρ) fun x => M.bind (evE C b ρ) fun y => cmpR op x y
  | .isN n a _ _ _, ρ => M.bind (evE C a ρ) fun x => match x with
    | .dat .non => M.pure (.dat (.bl (!n)))
    | .dat _ => M.pure (.dat (.bl n))
    | _ => M.stuck
  | .not a _, ρ => M.bind (M.bind (evE C a ρ) truB) fun b => M.pure (.dat (.bl (!b)))
  | .and a r _, ρ => match r with
    | .nil => evE C a ρ
    | .cons _ _ => M.bind (M.bind (evE C a ρ) truB) fun b => if b = true then evAnd C r ρ else M.pure (.dat (.bl false))
  | .or a r _, ρ => match r with
    | .nil => evE C a ρ
    | .cons _ _ => M.bind (M.bind (evE C a ρ) truB) fun b => if b = true then M.pure (.dat (.bl true)) else evOr C r ρ
  | .ifx c a b _, ρ => M.bind (M.bind (evE C c ρ) truB) fun t => if t = true then evE C a ρ else evE C b ρ
  | .lst m es _, ρ => M.bind (evEs C es ρ) (mkL m)
  | .tup es _ _, ρ => M.bind (evEs C es ρ) mkT
  | .ix a i _, ρ => M.bind (evE C a ρ) fun x => M.bind (evE C i ρ) fun y => ixR x y
  | .sl m a lo hi _ _, ρ => M.bind (evE C a ρ) fun x => M.bind (M.bind (evEs C lo ρ) optI) fun l => M.bind (M.bind (evEs C hi ρ) optI) fun h => slR m x l h
  | .attr a c f _, ρ => M.bind (evE C a ρ) fun x => attrR x c f
  | .call f _ a es _ _, ρ => M.bind (evE C a ρ) fun x => M.bind (evEs C es ρ) fun xs => C.fn f (x :: xs)
  | .callK f _ a es kw pm _ _, ρ => M.bind (evE C a ρ) fun x => M.bind (evEs C es ρ) fun xs => M.bind (evKs C kw ρ) fun ys => match pick pm (x :: xs ++ ys) with
    | some zs => C.fn f zs
    | none => M.stuck
  | .callKK f _ kw pm _ _, ρ => M.bind (evKs C kw ρ) fun ys => match pick pm ys with
    | some zs => C.fn f zs
    | none => M.stuck
  | .bi m f a es _ _, ρ => M.bind (evE C a ρ) fun x => M.bind (evEs C es ρ) fun xs => biR m f (x :: xs)
  | .gcd l a b _ _, ρ => M.bind (evE C a ρ) fun x => M.bind (evE C b ρ) fun y => gcdR l x y
  | .make m f c a es _ _, ρ => M.bind (evE C a ρ) fun x => M.bind (evEs C es ρ) fun xs => makeR C m f c (x :: xs)
  | .meth f c o n es _ _, ρ => M.bind (evE C o ρ) fun x => M.bind (recvR c n x) fun _ => M.bind (evEs C es ρ) fun xs => C.fn f (x :: xs)
  | .callD f _ a es ds _ _, ρ => M.bind (evE C a ρ) fun x => M.bind (evEs C es ρ) fun xs => C.fn f (x :: xs ++ intsD ds)
  | .makeD m f c a es ds _ _, ρ => M.bind (evE C a ρ) fun x => M.bind (evEs C es ρ) fun xs => makeR C m f c (x :: xs ++ intsD ds)
  | .opm f c _ a b _, ρ => M.bind (evE C a ρ) fun x => M.bind (evE C b ρ) fun y => objR c y (methR C f c [x, y])
  | .prop f c o _ _, ρ => M.bind (evE C o ρ) fun x => M.noX (methR C f c [x])
  | .chain op op2 a b c _, ρ => M.bind (evE C a ρ) fun x => M.bind (evE C b ρ) fun y => M.bind (M.bind (cmpR op x y) truB) fun t => if t = true then M.bind (evE C c ρ) fun z => cmpR op2 y z else M.pure (.dat (.bl false))
  | .inn n a b _, ρ => M.bind (evE C a ρ) fun x => M.bind (evE C b ρ) fun y => inR n x y
  | .lmeth o n es _ _, ρ => M.bind (evE C o ρ) fun x => M.bind (lmRecv x) fun _ => M.bind (evEs C es ρ) fun xs => lmR x n xs
  | .isT a T _ _ _, ρ => M.bind (evE C a ρ) fun x => isTR x T
  | .isC a c _ _ _, ρ => M.bind (evE C a ρ) fun x => isCR C x c
  | .xIs i _ c _ _ _ _, ρ => xIsR C ρ i c
  | .xAt i _ f _ _, ρ => xAtR C ρ i f
  | .lc m e t it cs own _ _, ρ => M.bind (evII C it ρ) fun q => M.bind (lcLoop q.2 (lcTurn t q.2 (fun ρ' => evTs C cs ρ') (fun ρ' => M.bind (evE C e ρ') fun r => M.pure [r]) (wipeE ρ (own.map (·.2)))) q.1) (lcOut m)
  | .lc2 m e t it cs t2 it2 cs2 own vs2 _ _, ρ => M.bind (evII C it ρ) fun q =>
      M.bind (lcLoop q.2 (lcTurn t q.2 (fun ρ' => evTs C cs ρ') (fun ρ' => M.bind (evII C it2 ρ') fun q2 =>
        lcLoop q2.2 (lcTurn t2 q2.2 (fun ρ2 => evTs C cs2 ρ2) (fun ρ2 => M.bind (evE C e ρ2) fun r => M.pure [r]) (wipeE ρ' vs2)) q2.1) (wipeE ρ (own.map (·.2)))) q.1) (lcOut m)
def evEs (C : Calls) : IEs → Env → M (List R)
  | .nil, _ => M.pure []
  | .cons e r, ρ => M.bind (evE C e ρ) fun x => M.bind (evEs C r ρ) fun xs => M.pure (x :: xs)
def evKs (C : Calls) : IKs → Env → M (List R)
  | .nil, _ => M.pure []
  | .cons _ e _ r, ρ => M.bind (evE C e ρ) fun x => M.bind (evKs C r ρ) fun xs => M.pure (x :: xs)
/-- the rest of and, or: values -/
def evAnd (C : Calls) : IEs → Env → M R
  | .nil, _ => M.stuck
  | .cons e r, ρ => match r with
    | .nil => evE C e ρ
    | .cons _ _ => M.bind (M.bind (evE C e ρ) truB) fun b => if b = true then evAnd C r ρ else M.pure (.dat (.bl false))
def evOr (C : Calls) : IEs → Env → M R
  | .nil, _ => M.stuck
  | .cons e r, ρ => match r with
    | .nil => evE C e ρ
    | .cons _ _ => M.bind (M.bind (evE C e ρ) truB) fun b => if b = true then M.pure (.dat (.bl true)) else evOr C r ρ
/-- a comprehension's ifs: none or one -/
def evTs (C : Calls) : IEs → Env → M Bool
  | .nil, _ => M.pure true
  | .cons e r, ρ => match r with
    | .nil => M.bind (evE C e ρ) truB
    | .cons _ _ => M.stuck
def evII (C : Calls) : II → Env → M (List Itm × Gd)
  | .of e, ρ => M.bind (evE C e ρ) fun x => M.bind (walkR x) fun rs => fun S => .ok (rs.map .one, guardR S x) S
  | .rng1 a _ _, ρ => M.bind (evE C a ρ) fun x => match x with
    | .dat (.int i) => if rngOk i = true then M.pure (rngI 0 i.toNat, []) else M.stuck
    | _ => M.stuck
  | .rng2 a b _ _, ρ => M.bind (evE C a ρ) fun x => M.bind (evE C b ρ) fun y => match x, y with
    | .dat (.int i), .dat (.int j) => if rngOk i = true ∧ rngOk j = true then M.pure (rngI i (j - i).toNat, []) else M.stuck
    | _, _ => M.stuck
  | .enum a _ _, ρ => M.bind (evE C a ρ) fun x => M.bind (walkR x) fun rs => fun S => if isTup S x = true then .stuck else .ok (enumI 0 rs, guardR S x) S
  | .zip a b _ _, ρ => M.bind (evE C a ρ) fun x => M.bind (evE C b ρ) fun y => M.bind (walkR x) fun rs => M.bind (walkR y) fun qs => fun S => .ok (zipI rs qs, guardR S x ++ guardR S y) S
  | .zip3 a b c _ _, ρ => M.bind (evE C a ρ) fun x => M.bind (evE C b ρ) fun y => M.bind (evE C c ρ) fun z => M.bind (walkR x) fun rs => M.bind (walkR y) fun qs => M.bind (walkR z) fun ts => fun S =>
      .ok (zipI3 rs qs ts, guardR S x ++ guardR S y ++ guardR S z) S
end

/-! ### statements -/
inductive Fl where
  | next | brk | cont
  | ret (r : R)
inductive SRes where
  | go (f : Fl) (ρ : Env) (S : Store)
  | exc (c : Str) (ns : List Str) (l : List D) (ρ : Env) (S : Store)
  | stuck
def SRes.of {α : Type} (ρ : Env) (r : Res α) (k : α → Store → SRes) : SRes := match r with
  | .ok a S => k a S
  | .exc c ns l S => .exc c ns l ρ S
  | .stuck => .stuck
def forL (t : IT) (g : Gd) (body : Env → Store → SRes) : List Itm → Env → Store → SRes
  | [], ρ, S => if gdOk S g = true then .go .next ρ S else .stuck
  | x :: xs, ρ, S => if gdOk S g = true then (match bindT t x ρ S with
    | some ρ1 => (match body ρ1 S with
      | .go .next ρ2 S2 => forL t g body xs ρ2 S2
      | .go .cont ρ2 S2 => forL t g body xs ρ2 S2
      | .go .brk ρ2 S2 => .go .next ρ2 S2
      | .go (.ret r) ρ2 S2 => .go (.ret r) ρ2 S2
      | .exc c ns l ρ2 S2 => .exc c ns l ρ2 S2
      | .stuck => .stuck)
    | none => .stuck) else .stuck
def whileN (c : Env → M Bool) (body : Env → Store → SRes) : Nat → Env → Store → Option SRes
  | 0, _, _ => none
  | n + 1, ρ, S => match c ρ S with
    | .ok true S1 => (match body ρ S1 with
      | .go .next ρ2 S2 => whileN c body n ρ2 S2
      | .go .cont ρ2 S2 => whileN c body n ρ2 S2
      | .go .brk ρ2 S2 => some (.go .next ρ2 S2)
      | .go (.ret r) ρ2 S2 => some (.go (.ret r) ρ2 S2)
      | .exc c ns l ρ2 S2 => some (.exc c ns l ρ2 S2)
      | .stuck => some .stuck)
    | .ok false S1 => some (.go .next ρ S1)
    | .exc c ns l S1 => some (.exc c ns l ρ S1)
    | .stuck => some .stuck
open Classical in
def whileX (c : Env → M Bool) (body : Env → Store → SRes) (ρ : Env) (S : Store) : SRes :=
  if h : ∃ n r, whileN c body n ρ S = some r then h.choose_spec.choose else .stuck
/-- a store by index, a field -/
def setIxR (a i v : R) : M Unit := fun S => match a, i with
  | .own k, .dat (.int i) => (match S[k]? with
    | some (.lst rs) => (match ixN rs.length i with
      | some j => .ok () (S.set k (.lst (rs.set j v)))
      | none => .stuck)
    | _ => .stuck)
  | _, _ => .stuck
def putN (f : Str) (v : R) : List Str → List R → List Str × List R
  | n :: ns, r :: rs => if n = f then (n :: ns, v :: rs) else (n :: (putN f v ns rs).1, r :: (putN f v ns rs).2)
  | ns, rs => (ns ++ [f], rs ++ [v])
def setAtR (o : R) (c f : Str) (v : R) : M Unit := fun S => match o with
  | .own k => (match S[k]? with
    | some (.obj c' ns rs) => if c' = c ∧ ns.length < 900 then .ok () (S.set k (.obj c (putN f v ns rs).1 (putN f v ns rs).2)) else .stuck
    | _ => .stuck)
  | _ => .stuck
/-- an exception's fields: each kept as it is, or by way of the module's own def _kept (here: numbers alone) -/
structure XC where
  fs : List (Str × Bool)
def kept1 (k : Bool) (r : R) : M R := if k = true then (match r with
    | .dat (.int i) => M.pure (.dat (.int i))
    | _ => M.stuck) else M.pure r
def keptAll : List (Str × Bool) → List R → M (List D)
  | [], [] => M.pure []
  | k :: ks, r :: rs => M.bind (kept1 k.2 r) fun x => match x with
    | .dat d => M.bind (keptAll ks rs) fun ds => M.pure (d :: ds)
    | _ => M.stuck
  | _, _ => M.stuck
structure CallsX extends Calls where
  xc : Str → Option XC
def raiseR (C : CallsX) (c : Str) (rs : List R) : M Unit := match C.xc c with
  | some X => M.bind (keptAll X.fs rs) fun ds => fun S => .exc c (X.fs.map (·.1)) ds S
  | none => M.stuck
def dropX (ρ : Env) : Env := ρ.map fun r => match r with
  | some (.exc _ _ _) => none
  | r => r
mutual
def evS (C : CallsX) : IS → Env → Store → SRes
  | .asg t e _, ρ, S => SRes.of ρ (evE C.toCalls e ρ S) fun r S1 => (match bindT t (.one r) ρ S1 with
    | some ρ1 => .go .next ρ1 S1
    | none => .stuck)
  | .aug i _ op e _ _, ρ, S => SRes.of ρ ((M.bind (getV ρ i) fun x => M.bind (evE C.toCalls e ρ) fun y => match x, y with
      | .dat (.int _), .dat (.int _) => binR false op x y
      | _, _ => M.stuck) S) fun r S1 => .go .next (ρ.set i (some r)) S1
  | .setIx a i e _ _, ρ, S => SRes.of ρ ((M.bind (evE C.toCalls e ρ) fun v => M.bind (evE C.toCalls a ρ) fun x => M.bind (evE C.toCalls i ρ) fun y => setIxR x y v) S) fun _ S1 => .go .next ρ S1
  | .setAt o c f e _ _, ρ, S => SRes.of ρ ((M.bind (evE C.toCalls e ρ) fun v => M.bind (evE C.toCalls o ρ) fun x => setAtR x c f v) S) fun _ S1 => .go .next ρ S1
  | .expr e _, ρ, S => SRes.of ρ (evE C.toCalls e ρ S) fun _ S1 => .go .next ρ S1
  | .ret e _, ρ, S => SRes.of ρ (evE C.toCalls e ρ S) fun r S1 => .go (.ret r) ρ S1
  | .ite c a b _, ρ, S => SRes.of ρ ((M.bind (evE C.toCalls c ρ) truB) S) fun t S1 => if t = true then evSs C a ρ S1 else evSs C b ρ S1
  | .for_ t it b _, ρ, S => SRes.of ρ (evII C.toCalls it ρ S) fun q S1 => forL t q.2 (fun ρ' S' => evSs C b ρ' S') q.1 ρ S1
  | .while_ c b _, ρ, S => whileX (fun ρ' => M.bind (evE C.toCalls c ρ') truB) (fun ρ' S' => evSs C b ρ' S') ρ S
  | .raise c _ a _ _ _, ρ, S => match C.xc c with
    | none => .stuck
    | some _ => SRes.of ρ ((M.bind (evEs C.toCalls a ρ) fun rs => raiseR C c rs) S) fun _ _ => .stuck
  | .pass _, ρ, S => .go .next ρ S
  | .brk _, ρ, S => .go .brk ρ S
  | .cont _, ρ, S => .go .cont ρ S
  | .try1 b c i _ s _ _ h _, ρ, S => match evSs C b ρ S with
    | .exc c' ns l ρ1 S1 => (match C.sub c' c with
      | some true => (match evSs C s (ρ1.set i (some (.exc c' ns l))) S1 with
        | .go f ρ2 S2 => .go f ((dropX ρ2).set i none) S2
        | _ => .stuck)
      | _ => .stuck)
    | r => r
def evSs (C : CallsX) : ISs → Env → Store → SRes
  | .nil, ρ, S => .go .next ρ S
  | .cons s r, ρ, S => match evS C s ρ S with
    | .go .next ρ1 S1 => evSs C r ρ1 S1
    | x => x
end
/-! ### functions -/
structure Fn where
  name : Str
  np : Nat
  N : List Str
  sc : Scope
  body : ISs
structure Tab where
  fns : List Fn
  sub : Str → Str → Option Bool
  xf : Str → Str → Bool
  xc : Str → Option XC
  ins : Str → Str → Option Bool
/-- a call's end: the cells that were made are given up -/
def sealR (m : Nat) (r : R) (S : Store) : Res R := if (S.take m).all (Cell.below m) = true ∧ m ≤ S.length then (match r with
    | .own k => if k < m then .ok (.own k) (S.take m) else (match toD m S 8 (.own k) with
      | some d => .ok (.dat d) (S.take m)
      | none => .stuck)
    | .dat d => .ok (.dat d) (S.take m)
    | _ => .stuck) else .stuck
def sealS (m : Nat) : SRes → Res R
  | .go (.ret r) _ S => sealR m r S
  | .go .next _ S => sealR m (.dat .non) S
  | .exc c ns l _ S => if (S.take m).all (Cell.below m) = true ∧ m ≤ S.length then .exc c ns l (S.take m) else .stuck
  | _ => .stuck
def start (F : Fn) (rs : List R) : Env := rs.map some ++ List.replicate (F.N.length - rs.length) none
def runF (C : CallsX) (F : Fn) (rs : List R) : M R := fun S => if rs.length = F.np then sealS S.length (evSs C F.body (start F rs) S) else .stuck
def callN (T : Tab) : Nat → Nat → List R → M R
  | 0, _, _ => M.stuck
  | n + 1, f, rs => match T.fns[f]? with
    | some F => runF ⟨⟨callN T n, T.sub, T.xf, T.ins⟩, T.xc⟩ F rs
    | none => M.stuck
def Tab.C (T : Tab) (n : Nat) : CallsX := ⟨⟨callN T n, T.sub, T.xf, T.ins⟩, T.xc⟩
end
end MP
set_option Elab.async false
set_option linter.all false
set_option maxRecDepth 100000
set_option maxHeartbeats 4000000
/-! MPRules: the hand layer's rules, told of the evaluation. -/
namespace MP
open PySem PySem.Spec PyProof.Rows L2

/-- an exception's own dict holds its fields -/
def ExcD (K : PySem.W.Frag) (w : Wd) (ns : List Str) (l : List D) (d : Option Addr) : Prop :=
  (ns = [] ∧ d = none) ∨ ∃ dd fs, d = some dd ∧ ¬ w.Live dd ∧ w.H dd = some (.xd fs) ∧ ∀ f x, lookA f ns l = some x → ∃ v, fs.lookup f = some v ∧ Rep K w x v
theorem ExcD.mono {K : PySem.W.Frag} {w w' : Wd} {ns : List Str} {l : List D} {d : Option Addr} (x : Mono w w') (h : ExcD K w ns l d) : ExcD K w' ns l d := by
  rcases h with h | ⟨dd, fs, e, nl, hd, hf⟩
  · exact .inl h
  · refine .inr ⟨dd, fs, e, (x.keep _ _ nl hd).1, (x.keep _ _ nl hd).2, fun f y hy => ?_⟩
    obtain ⟨v, h1, h2⟩ := hf f y hy
    exact ⟨v, h1, Rep.imp x.keep _ _ h2⟩
theorem ExcD.dict {K : PySem.W.Frag} {w : Wd} {ns : List Str} {l : List D} {d : Option Addr} (h : ExcD K w ns l d) : d = none ∨ ∃ dd fs, d = some dd ∧ w.H dd = some (.xd fs) := by
  rcases h with h | ⟨dd, fs, e, nl, hd, hf⟩
  · exact .inl h.2
  · exact .inr ⟨dd, fs, e, hd⟩
def Hop {α β : Type} (K : PySem.W.Frag) (rel : Wd → α → β → Prop) (E : XK) (w : Wd) (Q : β → Hp → Prop) : Res α → Prop
  | .ok a S' => ∀ w' v, Ext w w' → SR K w' S' → rel w' a v → Q v w'.H
  | .exc c ns l S' => ∀ w' d, Ext w w' → SR K w' S' → ExcD K w' ns l d → E (.ref (He.ga K c)) d w'.H
  | .stuck => False
section
variable {K : PySem.W.Frag} {α β γ δ : Type} {r1 : Wd → α → β → Prop} {r2 : Wd → γ → δ → Prop} {E : XK} {w w1 : Wd} {Q : δ → Hp → Prop} {Q1 : β → Hp → Prop} {m : M α} {f : α → M γ} {S : Store}
theorem Hop.ext {x : Res γ} (e : Ext w w1) (h : Hop K r2 E w Q x) : Hop K r2 E w1 Q x := by
  cases x with
  | ok a S' => exact fun w' v x s r => h w' v (e.trans x) s r
  | exc c ns l S' => exact fun w' d x s r => h w' d (e.trans x) s r
  | stuck => exact h
theorem Hop.bind (h : Hop K r2 E w Q (M.bind m f S)) (k : ∀ w1 a v S1, Ext w w1 → SR K w1 S1 → r1 w1 a v → Hop K r2 E w1 Q (f a S1) → Q1 v w1.H) : Hop K r1 E w Q1 (m S) := by
  unfold M.bind at h
  cases e : m S with
  | ok a S1 =>
    rw [e] at h
    exact fun w1 v x s r => k w1 a v S1 x s r (Hop.ext x h)
  | exc c ns l S1 =>
    rw [e] at h
    exact h
  | stuck =>
    rw [e] at h
    exact h
end
theorem bind_assoc {α β γ : Type} (m : M α) (f : α → M β) (g : β → M γ) : M.bind (M.bind m f) g = M.bind m fun a => M.bind (f a) g := by
  funext S
  unfold M.bind
  cases m S <;> rfl
theorem pure_bind {α β : Type} (a : α) (f : α → M β) : M.bind (M.pure a) f = f a := rfl

abbrev XR := Wd → Str → List Str → List D → V → Prop
def RelX (K : PySem.W.Frag) (xr : XR) (w : Wd) : R → V → Prop
  | .exc c ns l, v => xr w c ns l v
  | .dat d, v => Rel K w (.dat d) v
  | .own k, v => Rel K w (.own k) v
structure EnvR (K : PySem.W.Frag) (xr : XR) (w : Wd) (σ : St) (ρ : MP.Env) : Prop where
  len : ρ.length = σ.length
  get : ∀ (i : Nat) (r : R), ρ[i]? = some (some r) → ∃ v, σ[i]? = some (some v) ∧ RelX K xr w r v
def XR.Ok (xr : XR) : Prop := ∀ w w' c ns l v, Mono w w' → xr w c ns l v → xr w' c ns l v
theorem RelX.mono {K : PySem.W.Frag} {xr : XR} {w w' : Wd} (hx : xr.Ok) (x : Mono w w') : ∀ {r : R} {v : V}, RelX K xr w r v → RelX K xr w' r v
  | .exc _ _ _, _, h => hx _ _ _ _ _ _ x h
  | .dat _, _, h => Rel.mono (K := K) (r := .dat _) x h
  | .own _, _, h => Rel.mono (K := K) (r := .own _) x h
theorem Rel.toX {K : PySem.W.Frag} {xr : XR} {w : Wd} : ∀ {r : R} {v : V}, Rel K w r v → RelX K xr w r v
  | .exc _ _ _, _, h => h.elim
  | .dat _, _, h => h
  | .own _, _, h => h
section
variable {K : PySem.W.Frag} {xr : XR} {w w' : Wd} {σ : St} {ρ : MP.Env}
theorem EnvR.mono (e : EnvR K xr w σ ρ) (hx : xr.Ok) (x : Mono w w') : EnvR K xr w' σ ρ :=
  ⟨e.len, fun i r h => let ⟨v, h1, h2⟩ := e.get i r h; ⟨v, h1, h2.mono hx x⟩⟩
theorem EnvR.ext (e : EnvR K xr w σ ρ) (hx : xr.Ok) (x : Ext w w') : EnvR K xr w' σ ρ := e.mono hx x.mono
theorem EnvR.set {i : Nat} {r : R} {v : V} (e : EnvR K xr w σ ρ) (h : RelX K xr w r v) : EnvR K xr w (σ.set i (some v)) (ρ.set i (some r)) := by
  refine ⟨by rw [List.length_set, List.length_set]; exact e.len, fun j q hq => ?_⟩
  by_cases hj : i = j
  · subst hj
    by_cases hl : i < ρ.length
    · rw [List.getElem?_set_self hl] at hq
      cases hq
      exact ⟨v, by rw [List.getElem?_set_self (by rw [← e.len]; exact hl)], h⟩
    · rw [List.getElem?_eq_none (by rw [List.length_set]; omega)] at hq
      cases hq
  · rw [List.getElem?_set_ne hj] at hq
    obtain ⟨u, h1, h2⟩ := e.get j q hq
    exact ⟨u, by rw [List.getElem?_set_ne hj]; exact h1, h2⟩
theorem EnvR.unset {i : Nat} (e : EnvR K xr w σ ρ) : EnvR K xr w (σ.set i none) (ρ.set i none) := by
  refine ⟨by rw [List.length_set, List.length_set]; exact e.len, fun j q hq => ?_⟩
  by_cases hj : i = j
  · subst hj
    by_cases hl : i < ρ.length
    · rw [List.getElem?_set_self hl] at hq
      cases hq
    · rw [List.getElem?_eq_none (by rw [List.length_set]; omega)] at hq
      cases hq
  · rw [List.getElem?_set_ne hj] at hq
    obtain ⟨u, h1, h2⟩ := e.get j q hq
    exact ⟨u, by rw [List.getElem?_set_ne hj]; exact h1, h2⟩
theorem EnvR.wipe (e : EnvR K xr w σ ρ) : ∀ vs : List Nat, EnvR K xr w (L2.wipe σ vs) (wipeE ρ vs)
  | [] => e
  | v :: vs => (EnvR.wipe e vs).unset
end

def EOk (X : Cx) (xr : XR) (W : WX) (e : Expr) (m : MP.Env → M R) : Prop :=
  ∃ t, PE X e t ∧ ∀ σ w S ρ Q, EnvR X.K xr w σ ρ → SR X.K w S → Hop X.K (Rel X.K) (WE W σ) w Q (m ρ S) → t σ w.H Q
def TOk (X : Cx) (xr : XR) (W : WX) (e : Expr) (m : MP.Env → M Bool) : Prop :=
  ∃ t, PT X e t ∧ ∀ σ w S ρ Q, EnvR X.K xr w σ ρ → SR X.K w S → Hop X.K (fun _ b v => b = v) (WE W σ) w Q (m ρ S) → t σ w.H Q
def AOk (X : Cx) (xr : XR) (W : WX) (es : List Expr) (m : MP.Env → M (List R)) : Prop :=
  ∃ t, PA X es t ∧ ∀ σ w S ρ Q, EnvR X.K xr w σ ρ → SR X.K w S → Hop X.K (Rels X.K) (WE W σ) w Q (m ρ S) → t σ w.H Q

section
variable {X : Cx} {xr : XR} {W : WX} {a b : Expr} {ma mb : MP.Env → M R} {pos : Pos}
theorem hop_pure {α β : Type} {rel : Wd → α → β → Prop} {K : PySem.W.Frag} {E : XK} {w : Wd} {Q : β → Hp → Prop} {a : α} {v : β} {S : Store} (h : Hop K rel E w Q (M.pure a S)) (s : SR K w S) (r : rel w a v) : Q v w.H := h w v (Ext.refl w) s r
/-! ### names, constants -/
theorem e_var {i : Nat} {x : Str} (hN : X.N[i]? = some x) (hv : Vis X.env.scope x) (hd : (x == ("__debug__" : Str)) = false) (hcd : (x == ("__classdict__" : Str)) = false) : EOk X xr W (.Name x pos) (fun ρ => getV ρ i) := by
  refine ⟨_, pe_var hN hv hd hcd, fun σ w S ρ Q er sr h => ?_⟩
  unfold getV at h
  dsimp only at h
  cases e : ρ[i]? with
  | none => rw [e] at h; exact h.elim
  | some o =>
    cases o with
    | none => rw [e] at h; exact h.elim
    | some r =>
      obtain ⟨v, h1, h2⟩ := er.get i r e
      rw [e] at h
      cases r with
      | dat d => exact ⟨v, h1, hop_pure h sr h2⟩
      | own k => exact ⟨v, h1, hop_pure h sr h2⟩
      | exc c ns l => exact h.elim
theorem e_int {i : Int} {j : Nat} : EOk X xr W (.Constant (.int i) j pos) (fun _ => M.pure (.dat (.int i))) := ⟨_, pe_int, fun σ w S ρ Q er sr h => hop_pure h sr rfl⟩
theorem e_bl {i : Bool} {j : Nat} : EOk X xr W (.Constant (.bool i) j pos) (fun _ => M.pure (.dat (.bl i))) := ⟨_, pe_bl, fun σ w S ρ Q er sr h => hop_pure h sr rfl⟩
theorem e_non {j : Nat} : EOk X xr W (.Constant .none j pos) (fun _ => M.pure (.dat .non)) := ⟨_, pe_non, fun σ w S ρ Q er sr h => hop_pure h sr rfl⟩
theorem e_str {s : Str} {j : Nat} : EOk X xr W (.Constant (.str s) j pos) (fun _ => M.pure (.dat (.str s))) := ⟨_, pe_str, fun σ w S ρ Q er sr h => hop_pure h sr rfl⟩
theorem e_gint {x : Str} {i : Int} (hg : Gl X x) (hm : ∃ t, X.mg x = some (.int i t)) (hd : (x == ("__debug__" : Str)) = false) : EOk X xr W (.Name x pos) (fun _ => M.pure (.dat (.int i))) := by
  obtain ⟨t, hm⟩ := hm
  exact ⟨_, pe_glob (v := .int i) hg hm ⟨t, rfl⟩ hd, fun σ w S ρ Q er sr h => hop_pure h sr rfl⟩

/-! ### two operands -/
theorem e_bin2 {op : Operator} {r : R2} {f : R → R → M R} (hx : xr.Ok) (ho : OpR X (binaryOp op) r)
    (hr : ∀ w S x y u v E Q, SR X.K w S → Rel X.K w x u → Rel X.K w y v → Hop X.K (Rel X.K) E w Q (f x y S) → r u v w.H Q) (ha : EOk X xr W a ma) (hb : EOk X xr W b mb) :
    EOk X xr W (.BinOp a op b pos) (fun ρ => M.bind (ma ρ) fun x => M.bind (mb ρ) fun y => f x y) := by
  obtain ⟨ta, pa, qa⟩ := ha
  obtain ⟨tb, pb, qb⟩ := hb
  refine ⟨_, pe_op ho pa pb, fun σ w S ρ Q er sr h => qa σ w S ρ _ er sr (h.bind fun w1 x u S1 e1 s1 rx h1 => qb σ w1 S1 ρ _ (er.ext hx e1) s1 (h1.bind fun w2 y v S2 e2 s2 ry h2 => ?_))⟩
  exact hr w2 S2 x y u v _ Q s2 (rx.ext e2) ry h2
theorem e_cmp2 {op : CmpOp} {r : R2} {f : R → R → M R} (hx : xr.Ok) (ho : OpR X (compareOp op) r) (hm : behindInMarks op b = false)
    (hr : ∀ w S x y u v E Q, SR X.K w S → Rel X.K w x u → Rel X.K w y v → Hop X.K (Rel X.K) E w Q (f x y S) → r u v w.H Q) (ha : EOk X xr W a ma) (hb : EOk X xr W b mb) :
    EOk X xr W (.Compare a [op] [b] pos) (fun ρ => M.bind (ma ρ) fun x => M.bind (mb ρ) fun y => f x y) := by
  obtain ⟨ta, pa, qa⟩ := ha
  obtain ⟨tb, pb, qb⟩ := hb
  refine ⟨_, pe_cmpR ho pa pb hm, fun σ w S ρ Q er sr h => qa σ w S ρ _ er sr (h.bind fun w1 x u S1 e1 s1 rx h1 => qb σ w1 S1 ρ _ (er.ext hx e1) s1 (h1.bind fun w2 y v S2 e2 s2 ry h2 => ?_))⟩
  exact hr w2 S2 x y u v _ Q s2 (rx.ext e2) ry h2
theorem t_cmp2 {op : CmpOp} {r : R2} {f : R → R → M R} (hx : xr.Ok) (ho : OpR X (compareOp op) r) (hm : behindInMarks op b = false)
    (hr : ∀ w S x y u v E Q, SR X.K w S → Rel X.K w x u → Rel X.K w y v → Hop X.K (Rel X.K) E w Q (f x y S) → r u v w.H Q) (ha : EOk X xr W a ma) (hb : EOk X xr W b mb) :
    TOk X xr W (.Compare a [op] [b] pos) (fun ρ => M.bind (M.bind (ma ρ) fun x => M.bind (mb ρ) fun y => f x y) truB) := by
  obtain ⟨ta, pa, qa⟩ := ha
  obtain ⟨tb, pb, qb⟩ := hb
  refine ⟨_, pt_cmpR ho pa pb hm, fun σ w S ρ Q er sr h => ?_⟩
  dsimp only at h
  rw [bind_assoc] at h
  refine qa σ w S ρ _ er sr (h.bind fun w1 x u S1 e1 s1 rx h1 => ?_)
  rw [bind_assoc] at h1
  refine qb σ w1 S1 ρ _ (er.ext hx e1) s1 (h1.bind fun w2 y v S2 e2 s2 ry h2 => ?_)
  refine hr w2 S2 x y u v (WE W σ) _ s2 (rx.ext e2) ry (h2.bind (r1 := Rel X.K) fun w3 z zv S3 e3 s3 rz h3 => ?_)
  cases z with
  | dat d =>
    cases d with
    | bl c => exact ⟨c, rz, hop_pure h3 s3 rfl⟩
    | _ => exact h3.elim
  | _ => exact h3.elim
theorem OpR.or {f : Value → Value → Sem Value} {r r' : R2} (h : OpR X f r) (h' : OpR X f r') : OpR X f (fun x y H Q => r x y H Q ∨ r' x y H Q) := by
  intro pins s σ H x y v u Q I rx ry q
  rcases q with q | q
  · exact h pins s σ H x y v u Q I rx ry q
  · exact h' pins s σ H x y v u Q I rx ry q
/-- a value as a test -/
theorem t_val (ha : EOk X xr W a ma) (he : ∀ whole, isTrue a X.env whole = (do let v ← whole; standAt a.pos; holding [v] (truthy v))) : TOk X xr W a (fun ρ => M.bind (ma ρ) truB) := by
  obtain ⟨ta, pa, qa⟩ := ha
  refine ⟨_, pt_val pa he, fun σ w S ρ Q er sr h => qa σ w S ρ _ er sr (h.bind fun w1 z zv S1 e1 s1 rz h1 => ?_)⟩
  cases z with
  | dat d =>
    cases d with
    | bl c => exact ⟨c, rz, hop_pure h1 s1 rfl⟩
    | _ => exact h1.elim
  | _ => exact h1.elim
theorem e_isN {n : Bool} {k : Nat} {p1 : Pos} (ha : EOk X xr W a ma) : EOk X xr W (.Compare a [if n then .IsNot else .Is] [.Constant .none k p1] pos) (fun ρ => M.bind (ma ρ) fun x => match x with
    | .dat .non => M.pure (.dat (.bl (!n)))
    | .dat _ => M.pure (.dat (.bl n))
    | _ => M.stuck) := by
  obtain ⟨ta, pa, qa⟩ := ha
  have key : ∀ (x : R) (v : V) (w : Wd) (S : Store) (E : XK) (Q : VK), SR X.K w S → Rel X.K w x v → Hop X.K (Rel X.K) E w Q ((match x with
    | .dat .non => M.pure (.dat (.bl (!n)))
    | .dat _ => M.pure (.dat (.bl n))
    | _ => M.stuck : M R) S) → Q (.bl (if n then !decide (v = .non) else decide (v = .non))) w.H := by
    intro x v w S E Q s r h
    cases x with
    | dat d =>
      cases d with
      | non =>
        have e : v = .non := r
        subst e
        have q := hop_pure (v := V.bl (!n)) h s rfl
        cases n <;> exact q
      | bl b =>
        have e : v = .bl b := r
        subst e
        have q := hop_pure (v := V.bl n) h s rfl
        cases n <;> exact q
      | int b =>
        have e : v = .int b := r
        subst e
        have q := hop_pure (v := V.bl n) h s rfl
        cases n <;> exact q
      | str b =>
        have e : v = .str b := r
        subst e
        have q := hop_pure (v := V.bl n) h s rfl
        cases n <;> exact q
      | tup l =>
        obtain ⟨p, vs, e, _⟩ := r
        subst e
        have q := hop_pure (v := V.bl n) h s rfl
        cases n <;> exact q
      | lst l =>
        obtain ⟨p, vs, e, _⟩ := r
        subst e
        have q := hop_pure (v := V.bl n) h s rfl
        cases n <;> exact q
      | slst l =>
        obtain ⟨p, vs, e, _⟩ := r
        subst e
        have q := hop_pure (v := V.bl n) h s rfl
        cases n <;> exact q
      | obj c ns l =>
        obtain ⟨p, dx, fs, e, _⟩ := r
        subst e
        have q := hop_pure (v := V.bl n) h s rfl
        cases n <;> exact q
    | own k => exact h.elim
    | exc c ns l => exact h.elim
  cases n with
  | false => exact ⟨_, pe_cmp (pc_isN pa), fun σ w S ρ Q er sr h => qa σ w S ρ _ er sr (h.bind fun w1 x v S1 e1 s1 rx h1 => key x v w1 S1 _ Q s1 rx h1)⟩
  | true => exact ⟨_, pe_cmp (pc_notN pa), fun σ w S ρ Q er sr h => qa σ w S ρ _ er sr (h.bind fun w1 x v S1 e1 s1 rx h1 => key x v w1 S1 _ Q s1 rx h1)⟩
theorem e_neg (ha : EOk X xr W a ma) : EOk X xr W (.UnaryOp .USub a pos) (fun ρ => M.bind (ma ρ) fun x => match x with
    | .dat (.int i) => M.pure (.dat (.int (-i)))
    | _ => M.stuck) := by
  obtain ⟨ta, pa, qa⟩ := ha
  refine ⟨_, pe_un un_neg pa, fun σ w S ρ Q er sr h => qa σ w S ρ _ er sr (h.bind fun w1 x v S1 e1 s1 rx h1 => ?_)⟩
  cases x with
  | dat d =>
    cases d with
    | int i => exact ⟨i, rx, hop_pure h1 s1 rfl⟩
    | _ => exact h1.elim
  | _ => exact h1.elim
/-! ### not, and, or, if -/
theorem t_not {m : MP.Env → M Bool} (ha : TOk X xr W a m) : TOk X xr W (.UnaryOp .Not a pos) (fun ρ => M.bind (M.bind (m ρ) fun b => M.pure (.dat (.bl (!b)))) truB) := by
  obtain ⟨ta, pa, qa⟩ := ha
  refine ⟨_, pt_not pa, fun σ w S ρ Q er sr h => ?_⟩
  dsimp only at h
  rw [bind_assoc] at h
  refine qa σ w S ρ _ er sr (h.bind fun w1 b v S1 e1 s1 rb h1 => ?_)
  have e : b = v := rb
  subst e
  exact hop_pure (rel := fun _ b v => b = v) h1 s1 rfl
end
end MP
set_option Elab.async false
set_option linter.all false
set_option maxRecDepth 100000
set_option maxHeartbeats 4000000
/-! MPLists: lists, tuples, what is read off them. -/
namespace MP
open PySem PySem.Spec PyProof.Rows L2
section
variable {K : PySem.W.Frag} {w w' : Wd} {S : Store}
theorem Rels.length : ∀ {rs : List R} {vs : List V}, Rels K w rs vs → rs.length = vs.length
  | [], _, h => by
    have e : _ = [] := h
    rw [e]
    rfl
  | _ :: _, _, ⟨v, r, e, _, h2⟩ => by
    rw [e, List.length_cons, List.length_cons, Rels.length h2]
theorem Rels.get : ∀ {rs : List R} {vs : List V} {i : Nat} {r : R}, Rels K w rs vs → rs[i]? = some r → ∃ v, vs[i]? = some v ∧ Rel K w r v
  | [], _, i, _, _, e => by simp at e
  | _ :: _, _, 0, _, ⟨v, r, e, h1, h2⟩, q => by
    simp at q
    subst q e
    exact ⟨v, rfl, h1⟩
  | _ :: _, _, i + 1, _, ⟨v, r, e, h1, h2⟩, q => by
    subst e
    obtain ⟨u, e1, e2⟩ := Rels.get (i := i) h2 (by simpa using q)
    exact ⟨u, by simpa using e1, e2⟩
theorem Rels.append : ∀ {rs qs : List R} {vs us : List V}, Rels K w rs vs → Rels K w qs us → Rels K w (rs ++ qs) (vs ++ us)
  | [], _, _, _, h, q => by
    have e : _ = [] := h
    rw [e]
    exact q
  | _ :: _, _, _, _, ⟨v, r, e, h1, h2⟩, q => by
    subst e
    exact ⟨v, _, rfl, h1, Rels.append h2 q⟩
theorem Rels.take : ∀ {rs : List R} {vs : List V} (n : Nat), Rels K w rs vs → Rels K w (rs.take n) (vs.take n)
  | _, _, 0, _ => by simp [Rels]
  | [], _, n + 1, h => by
    have e : _ = [] := h
    rw [e]
    exact rfl
  | _ :: _, _, n + 1, ⟨v, r, e, h1, h2⟩ => by
    subst e
    exact ⟨v, _, rfl, h1, Rels.take n h2⟩
theorem Rels.drop : ∀ {rs : List R} {vs : List V} (n : Nat), Rels K w rs vs → Rels K w (rs.drop n) (vs.drop n)
  | _, _, 0, h => h
  | [], _, n + 1, h => by
    have e : _ = [] := h
    rw [e]
    exact rfl
  | _ :: _, _, n + 1, ⟨v, r, e, h1, h2⟩ => by
    subst e
    exact Rels.drop n h2
theorem Rels.set {r : R} {v : V} (q : Rel K w r v) : ∀ {rs : List R} {vs : List V} (i : Nat), Rels K w rs vs → Rels K w (rs.set i r) (vs.set i v)
  | [], _, i, h => by
    have e : _ = [] := h
    rw [e]
    exact rfl
  | _ :: _, _, 0, ⟨_, u, e, h1, h2⟩ => by
    subst e
    exact ⟨v, u, rfl, q, h2⟩
  | _ :: _, _, i + 1, ⟨_, u, e, h1, h2⟩ => by
    subst e
    exact ⟨_, _, rfl, h1, Rels.set q i h2⟩
theorem Rels.dropLast {rs : List R} {vs : List V} (h : Rels K w rs vs) : Rels K w rs.dropLast vs.dropLast := by
  rw [List.dropLast_eq_take, List.dropLast_eq_take, ← h.length]
  exact h.take _
theorem Rels.rep {rs : List R} {vs : List V} (h : Rels K w rs vs) : ∀ n : Nat, Rels K w (List.replicate n rs).flatten (List.replicate n vs).flatten
  | 0 => rfl
  | n + 1 => by
    rw [List.replicate_succ, List.replicate_succ, List.flatten_cons, List.flatten_cons]
    exact h.append (Rels.rep h n)
theorem Rels.one {r : R} {v : V} (h : Rel K w r v) : Rels K w [r] [v] := ⟨v, [], rfl, h, rfl⟩
theorem Rels.dats : ∀ {rs : List R} {ds : List D} {vs : List V}, datsR rs = some ds → Rels K w rs vs → Reps K w ds vs
  | [], ds, vs, e, h => by
    cases e
    exact h
  | .dat d :: r, ds, vs, e, ⟨v, u, e1, h1, h2⟩ => by
    obtain ⟨ds', e2, e3⟩ := Option.map_eq_some_iff.mp (show (datsR r).map (d :: ·) = some ds from e)
    subst e3
    exact ⟨v, u, e1, h1, Rels.dats e2 h2⟩
  | .own _ :: _, _, _, e, _ => by cases e
  | .exc _ _ _ :: _, _, _, e, _ => by cases e
theorem Reps.dat : ∀ {ds : List D} {vs : List V}, Reps K w ds vs → Rels K w (ds.map R.dat) vs
  | [], _, h => h
  | _ :: _, _, ⟨v, u, e, h1, h2⟩ => ⟨v, u, e, h1, Reps.dat h2⟩
theorem Rels.ints : ∀ {rs : List R} {ns : List Int} {vs : List V}, intsR rs = some ns → Rels K w rs vs → vs = ns.map V.int
  | [], ns, vs, e, h => by
    cases e
    exact h
  | .dat (.int i) :: r, ns, vs, e, ⟨v, u, e1, h1, h2⟩ => by
    obtain ⟨ns', e2, e3⟩ := Option.map_eq_some_iff.mp (show (intsR r).map (i :: ·) = some ns from e)
    subst e3 e1
    have e4 : v = .int i := h1
    rw [e4, Rels.ints e2 h2]
    rfl
  | .dat .non :: _, _, _, e, _ => by cases e
  | .dat (.bl _) :: _, _, _, e, _ => by cases e
  | .dat (.str _) :: _, _, _, e, _ => by cases e
  | .dat (.tup _) :: _, _, _, e, _ => by cases e
  | .dat (.lst _) :: _, _, _, e, _ => by cases e
  | .dat (.slst _) :: _, _, _, e, _ => by cases e
  | .dat (.obj _ _ _) :: _, _, _, e, _ => by cases e
  | .own _ :: _, _, _, e, _ => by cases e
  | .exc _ _ _ :: _, _, _, e, _ => by cases e
theorem Rels.bls : ∀ {rs : List R} {ns : List Bool} {vs : List V}, blsR rs = some ns → Rels K w rs vs → vs = ns.map V.bl
  | [], ns, vs, e, h => by
    cases e
    exact h
  | .dat (.bl i) :: r, ns, vs, e, ⟨v, u, e1, h1, h2⟩ => by
    obtain ⟨ns', e2, e3⟩ := Option.map_eq_some_iff.mp (show (blsR r).map (i :: ·) = some ns from e)
    subst e3 e1
    have e4 : v = .bl i := h1
    rw [e4, Rels.bls e2 h2]
    rfl
  | .dat .non :: _, _, _, e, _ => by cases e
  | .dat (.int _) :: _, _, _, e, _ => by cases e
  | .dat (.str _) :: _, _, _, e, _ => by cases e
  | .dat (.tup _) :: _, _, _, e, _ => by cases e
  | .dat (.lst _) :: _, _, _, e, _ => by cases e
  | .dat (.slst _) :: _, _, _, e, _ => by cases e
  | .dat (.obj _ _ _) :: _, _, _, e, _ => by cases e
  | .own _ :: _, _, _, e, _ => by cases e
  | .exc _ _ _ :: _, _, _, e, _ => by cases e
/-- what has items -/
theorem items_ok (s : SR K w S) {x : R} {v : V} {rs : List R} (r : Rel K w x v) (h : itemsR S x = some rs) :
    ∃ a vs, v = .ref a ∧ (w.H a = some (.lst vs) ∨ w.H a = some (.tup vs)) ∧ vs.length ≤ sizeLine ∧ Rels K w rs vs := by
  cases x with
  | dat d =>
    cases d with
    | lst l =>
      obtain ⟨a, vs, e, n, h1, hz, h2⟩ := r
      cases h
      exact ⟨a, vs, e, .inl h1, hz, h2.dat⟩
    | tup l =>
      obtain ⟨a, vs, e, n, h1, hz, h2⟩ := r
      cases h
      exact ⟨a, vs, e, .inr h1, hz, h2.dat⟩
    | _ => cases h
  | own k =>
    obtain ⟨hk, e⟩ := r
    obtain ⟨c, hc, hr⟩ := s.get hk
    have h : (match S[k]? with
      | some (.lst rs) => some rs
      | some (.tup rs) => some rs
      | _ => none) = some rs := h
    rw [hc] at h
    cases c with
    | lst qs =>
      cases h
      obtain ⟨vs, h1, hz, h2⟩ := hr
      exact ⟨_, vs, e, .inl h1, hz, h2⟩
    | tup qs =>
      cases h
      obtain ⟨vs, h1, hz, h2⟩ := hr
      exact ⟨_, vs, e, .inr h1, hz, h2⟩
    | obj c ns qs => cases h
  | exc c ns l => cases h
/-- .. and is no tuple -/
theorem items_lst (s : SR K w S) {x : R} {v : V} {rs : List R} (r : Rel K w x v) (h0 : itemsL S x = some rs) :
    ∃ a vs, v = .ref a ∧ w.H a = some (.lst vs) ∧ vs.length ≤ sizeLine ∧ Rels K w rs vs := by
  unfold itemsL at h0
  by_cases ht : isTup S x = true
  · rw [if_pos ht] at h0
    cases h0
  · rw [if_neg ht] at h0
    obtain ⟨a, vs, e, q, hz, h2⟩ := items_ok s r h0
    refine ⟨a, vs, e, ?_, hz, h2⟩
    rcases q with q | q
    · exact q
    · exfalso
      apply ht
      cases x with
      | dat d =>
        cases d with
        | lst l =>
          obtain ⟨b, us, e2, _, h3, _⟩ := r
          rw [e] at e2
          cases e2
          rw [q] at h3
          cases h3
        | tup l => rfl
        | _ => cases h0
      | own k =>
        obtain ⟨hk, e2⟩ := r
        obtain ⟨c, hc, hr⟩ := s.get hk
        rw [e] at e2
        cases e2
        show (match S[k]? with
          | some (.tup _) => true
          | _ => false) = true
        rw [hc]
        cases c with
        | lst qs =>
          obtain ⟨us, h3, _⟩ := hr
          rw [q] at h3
          cases h3
        | tup qs => rfl
        | obj c ns qs =>
          obtain ⟨dx, fs, h3, _⟩ := hr
          rw [q] at h3
          cases h3
      | exc c ns l => cases h0
theorem items_sq (s : SR K w S) {x : R} {v : V} {rs : List R} (r : Rel K w x v) (h : itemsR S x = some rs) :
    ∃ a vs, v = .ref a ∧ (SqL K w.H a vs ∨ SqT K w.H a vs) ∧ vs.length ≤ sizeLine ∧ Rels K w rs vs := by
  obtain ⟨a, vs, e, q, hz, h2⟩ := items_ok s r h
  refine ⟨a, vs, e, ?_, hz, h2⟩
  rcases q with q | q
  · exact .inl (.of q)
  · exact .inr (.of q)
/-- a new list -/
theorem mkL_ok {m : Bool} {rs : List R} {vs : List V} {E : XK} {Q : VK} (s : SR K w S) (hz : vs.length ≤ sizeLine) (h2 : Rels K w rs vs) (h : Hop K (Rel K) E w Q (mkL m rs S)) (p : Addr) (hp : w.H p = none) : Q (.ref p) (upd w.H p (.lst vs)) := by
  have dat : ∀ ds, datsR rs = some ds → Hop K (Rel K) E w Q (.ok (.dat (.lst ds)) S) → Q (.ref p) (upd w.H p (.lst vs)) := fun ds hd h => by
    have x := ext_new (o := .lst vs) s hp
    exact h (w.new p (.lst vs)) (.ref p) x (s.new hp) ⟨p, vs, rfl, nlive_new s hp, new_same, hz, (Rels.dats hd h2).ext x⟩
  have cel : Hop K (Rel K) E w Q (.ok (.own S.length) (S ++ [.lst rs])) → Q (.ref p) (upd w.H p (.lst vs)) := fun h => by
    have x := ext_push (o := .lst vs) s hp
    have s' := s.push (o := .lst vs) (c := .lst rs) hp ⟨vs, upd_same, hz, h2.ext x⟩
    exact h (w.push p (.lst vs)) (.ref p) x s' ⟨by show S.length < w.n + 1; rw [s.n]; exact Nat.lt_succ_self _, by rw [← s.n]; exact congrArg V.ref push_p.symm⟩
  unfold mkL at h
  cases m with
  | true => exact cel h
  | false =>
    cases e : datsR rs with
    | none =>
      rw [e] at h
      exact cel h
    | some ds =>
      rw [e] at h
      exact dat ds e h
theorem mkT_ok {rs : List R} {vs : List V} {E : XK} {Q : VK} (s : SR K w S) (hz : vs.length ≤ sizeLine) (h2 : Rels K w rs vs) (h : Hop K (Rel K) E w Q (mkT rs S)) (p : Addr) (hp : w.H p = none) : Q (.ref p) (upd w.H p (.tup vs)) := by
  unfold mkT at h
  cases e : datsR rs with
  | none =>
    rw [e] at h
    have x := ext_push (o := .tup vs) s hp
    have s' := s.push (o := .tup vs) (c := .tup rs) hp ⟨vs, upd_same, hz, h2.ext x⟩
    exact h (w.push p (.tup vs)) (.ref p) x s' ⟨by show S.length < w.n + 1; rw [s.n]; exact Nat.lt_succ_self _, by rw [← s.n]; exact congrArg V.ref push_p.symm⟩
  | some ds =>
    rw [e] at h
    have x := ext_new (o := .tup vs) s hp
    exact h (w.new p (.tup vs)) (.ref p) x (s.new hp) ⟨p, vs, rfl, nlive_new s hp, new_same, hz, (Rels.dats e h2).ext x⟩
theorem line_small {n : Nat} (h : small n = true) : n ≤ 1000000 := of_decide_eq_true h
theorem line_eq : sizeLine = 16777216 := sizeLine_eq

/-! ### operators -/
variable {X : Cx}
theorem dat_int {i : Int} {v : V} (r : Rel K w (.dat (.int i)) v) : v = .int i := r
/-- + -/
theorem binadd_ok (m : Bool) : ∀ (w : Wd) (S : Store) (x y : R) (u v : V) (E : XK) (Q : VK), SR X.K w S → Rel X.K w x u → Rel X.K w y v → Hop X.K (Rel X.K) E w Q (binR m .add x y S) →
    (rI0 (fun i j => .int (i + j)) u v w.H Q ∨ rCat u v w.H Q) := by
  intro w S x y u v E Q s rx ry h
  have cat : Hop X.K (Rel X.K) E w Q (catL m x y S) → rCat u v w.H Q := fun h => by
    unfold catL at h
    cases ex : itemsL S x with
    | none =>
      rw [ex] at h
      exact h.elim
    | some xs =>
      cases ey : itemsL S y with
      | none =>
        rw [ex, ey] at h
        exact h.elim
      | some ys =>
        rw [ex, ey] at h
        have hh : Hop X.K (Rel X.K) E w Q (if small (xs.length + ys.length) = true then mkL m (xs ++ ys) S else .stuck) := h
        obtain ⟨a, vs, e1, h1, z1, q1⟩ := items_lst s rx ex
        obtain ⟨b, us, e2, h2, z2, q2⟩ := items_lst s ry ey
        by_cases hs : small (xs.length + ys.length) = true
        · rw [if_pos hs] at hh
          have l1 := q1.length
          have l2 := q2.length
          have l3 := line_small hs
          have l4 := line_eq
          have z : vs.length + us.length ≤ sizeLine := by omega
          exact ⟨a, b, vs, us, e1, e2, h1, h2, z, fun p hp => mkL_ok s (by rw [List.length_append]; exact z) (q1.append q2) hh p hp⟩
        · rw [if_neg hs] at hh
          exact hh.elim
  cases x with
  | dat d =>
    cases d with
    | int i =>
      cases y with
      | dat e =>
        cases e with
        | int j => exact .inl ⟨i, j, rx, ry, hop_pure h s rfl⟩
        | _ => exact .inr (cat h)
      | _ => exact .inr (cat h)
    | _ => exact .inr (cat h)
  | _ => exact .inr (cat h)
theorem mulOk_ok {i j : Int} (h : mulOk i j = true) : CMulW i j := by
  unfold mulOk at h
  have z := of_decide_eq_true h
  exact z
theorem divOk_ok {j : Int} (i : Int) (h : divOk j = true) : CDivW i j := by
  unfold divOk at h
  have z := of_decide_eq_true h
  exact z
def CPowW (i j : Int) : Prop := 0 ≤ j ∧ (Builtin.Int.intBits i : Int) * j ≤ 2 ^ 27
theorem powOk_ok {i j : Int} (h : powOk i j = true) : CPowW i j := by
  unfold powOk at h
  have z := of_decide_eq_true h
  exact z
/-- * of ints, of a list -/
theorem op_mulAny : OpR X (binaryOp .Mult) (fun x y H Q => rI CMulW (fun i j => .int (i * j)) x y H Q ∨ rRep x y H Q) := OpR.or op_mulW op_rep
theorem op_addAny : OpR X (binaryOp .Add) (fun x y H Q => rI0 (fun i j => .int (i + j)) x y H Q ∨ rCat x y H Q) := OpR.or op_add op_cat
theorem binmul_ok (m : Bool) : ∀ (w : Wd) (S : Store) (x y : R) (u v : V) (E : XK) (Q : VK), SR X.K w S → Rel X.K w x u → Rel X.K w y v → Hop X.K (Rel X.K) E w Q (binR m .mul x y S) →
    (rI CMulW (fun i j => .int (i * j)) u v w.H Q ∨ rRep u v w.H Q) := by
  intro w S x y u v E Q s rx ry h
  have rep : ∀ k : Int, y = .dat (.int k) → Hop X.K (Rel X.K) E w Q (repL m x k S) → rRep u v w.H Q := fun k hy h => by
    unfold repL at h
    cases ex : itemsL S x with
    | none =>
      rw [ex] at h
      exact h.elim
    | some xs =>
      rw [ex] at h
      have hh : Hop X.K (Rel X.K) E w Q (if small (xs.length * k.toNat) = true ∧ k ≤ 1000000 ∧ -1000000 ≤ k then mkL m (List.replicate k.toNat xs).flatten S else .stuck) := h
      obtain ⟨a, vs, e1, h1, z1, q1⟩ := items_lst s rx ex
      by_cases hs : small (xs.length * k.toNat) = true ∧ k ≤ 1000000 ∧ -1000000 ≤ k
      · rw [if_pos hs] at hh
        have l1 := q1.length
        have l3 := line_small hs.1
        have l4 := line_eq
        have z : vs.length * k.toNat ≤ sizeLine := by rw [← l1]; omega
        refine ⟨a, k, vs, e1, by rw [hy] at ry; exact ry, h1, by omega, by omega, z, fun p hp => mkL_ok s ?_ (q1.rep _) hh p hp⟩
        rw [List.length_flatten, List.map_replicate, List.sum_replicate_nat, Nat.mul_comm]
        exact z
      · rw [if_neg hs] at hh
        exact hh.elim
  cases y with
  | dat e =>
    cases e with
    | int j =>
      cases x with
      | dat d =>
        cases d with
        | int i =>
          have hh : Hop X.K (Rel X.K) E w Q ((if mulOk i j = true then M.pure (.dat (.int (i * j))) else M.stuck : M R) S) := h
          by_cases hm : mulOk i j = true
          · rw [if_pos hm] at hh
            exact .inl ⟨i, j, rx, ry, mulOk_ok hm, hop_pure hh s rfl⟩
          · rw [if_neg hm] at hh
            exact hh.elim
        | _ => exact .inr (rep j rfl h)
      | _ => exact .inr (rep j rfl h)
    | _ =>
      cases x with
      | dat d => cases d <;> exact h.elim
      | _ => exact h.elim
  | _ =>
    cases x with
    | dat d => cases d <;> exact h.elim
    | _ => exact h.elim
/-- the ops of ints alone -/
theorem bin_int {op : Bop} {C : Int → Int → Prop} {g : Int → Int → Int} {m : Bool} (hn : ∀ x y, (∀ i j, x = .dat (.int i) → y ≠ .dat (.int j)) → binR m op x y = M.stuck)
    (hi : ∀ i j S, binR m op (.dat (.int i)) (.dat (.int j)) S ≠ .stuck → C i j ∧ binR m op (.dat (.int i)) (.dat (.int j)) S = .ok (.dat (.int (g i j))) S) :
    ∀ (w : Wd) (S : Store) (x y : R) (u v : V) (E : XK) (Q : VK), SR X.K w S → Rel X.K w x u → Rel X.K w y v → Hop X.K (Rel X.K) E w Q (binR m op x y S) → rI C (fun i j => .int (g i j)) u v w.H Q := by
  intro w S x y u v E Q s rx ry h
  have key : ∀ i j, x = .dat (.int i) → y = .dat (.int j) → rI C (fun i j => .int (g i j)) u v w.H Q := fun i j ex ey => by
    rw [ex] at rx h
    rw [ey] at ry h
    have ns : binR m op (.dat (.int i)) (.dat (.int j)) S ≠ .stuck := fun z => by
      rw [z] at h
      exact h
    obtain ⟨c, e⟩ := hi i j S ns
    rw [e] at h
    exact ⟨i, j, rx, ry, c, h w (.int (g i j)) (Ext.refl w) s rfl⟩
  by_cases hx : ∃ i, x = .dat (.int i)
  · obtain ⟨i, ex⟩ := hx
    by_cases hy : ∃ j, y = .dat (.int j)
    · obtain ⟨j, ey⟩ := hy
      exact key i j ex ey
    · rw [hn x y fun _ j _ ey => hy ⟨j, ey⟩] at h
      exact h.elim
  · rw [hn x y fun i _ ex => absurd ⟨i, ex⟩ hx] at h
    exact h.elim
theorem notint {α : Prop} {x y : R} (h : ∀ i j, x = .dat (.int i) → y ≠ .dat (.int j)) {i j : Int} (ex : x = .dat (.int i)) (ey : y = .dat (.int j)) : α := absurd ey (h i j ex)
theorem binsub_ok (m : Bool) : ∀ (w : Wd) (S : Store) (x y : R) (u v : V) (E : XK) (Q : VK), SR X.K w S → Rel X.K w x u → Rel X.K w y v → Hop X.K (Rel X.K) E w Q (binR m .sub x y S) → rI (fun _ _ => True) (fun i j => .int (i - j)) u v w.H Q :=
  bin_int (fun x y hn => by
    cases x with
    | dat d => cases d with
      | int i => cases y with
        | dat e => cases e with
          | int j => exact notint hn rfl rfl
          | _ => rfl
        | _ => rfl
      | _ => rfl
    | _ => rfl) fun i j S _ => ⟨trivial, rfl⟩
theorem bindiv_ok (m : Bool) : ∀ (w : Wd) (S : Store) (x y : R) (u v : V) (E : XK) (Q : VK), SR X.K w S → Rel X.K w x u → Rel X.K w y v → Hop X.K (Rel X.K) E w Q (binR m .fdiv x y S) → rI CDivW (fun i j => .int (i / j)) u v w.H Q :=
  bin_int (fun x y hn => by
    cases x with
    | dat d => cases d with
      | int i => cases y with
        | dat e => cases e with
          | int j => exact notint hn rfl rfl
          | _ => rfl
        | _ => rfl
      | _ => rfl
    | _ => rfl) fun i j S hs => by
      have hh : (if divOk j = true then M.pure (.dat (.int (i / j))) else M.stuck : M R) S ≠ .stuck := hs
      by_cases hm : divOk j = true
      · exact ⟨divOk_ok i hm, by show (if divOk j = true then M.pure (.dat (.int (i / j))) else M.stuck : M R) S = _; rw [if_pos hm]; rfl⟩
      · rw [if_neg hm] at hh
        exact absurd rfl hh
theorem binmod_ok (m : Bool) : ∀ (w : Wd) (S : Store) (x y : R) (u v : V) (E : XK) (Q : VK), SR X.K w S → Rel X.K w x u → Rel X.K w y v → Hop X.K (Rel X.K) E w Q (binR m .mod x y S) → rI (fun _ j => 0 < j) (fun i j => .int (i % j)) u v w.H Q :=
  bin_int (fun x y hn => by
    cases x with
    | dat d => cases d with
      | int i => cases y with
        | dat e => cases e with
          | int j => exact notint hn rfl rfl
          | _ => rfl
        | _ => rfl
      | _ => rfl
    | _ => rfl) fun i j S hs => by
      have hh : (if 0 < j then M.pure (.dat (.int (i % j))) else M.stuck : M R) S ≠ .stuck := hs
      by_cases hm : 0 < j
      · exact ⟨hm, by show (if 0 < j then M.pure (.dat (.int (i % j))) else M.stuck : M R) S = _; rw [if_pos hm]; rfl⟩
      · rw [if_neg hm] at hh
        exact absurd rfl hh
theorem op_powW : OpR X (binaryOp .Pow) (rI CPowW fun i j => .int (i ^ j.toNat)) := opI fun _ _ _ _ _ _ _ hc q => pow_int hc.1 hc.2 q
theorem binpow_ok (m : Bool) : ∀ (w : Wd) (S : Store) (x y : R) (u v : V) (E : XK) (Q : VK), SR X.K w S → Rel X.K w x u → Rel X.K w y v → Hop X.K (Rel X.K) E w Q (binR m .pow x y S) → rI CPowW (fun i j => .int (i ^ j.toNat)) u v w.H Q :=
  bin_int (fun x y hn => by
    cases x with
    | dat d => cases d with
      | int i => cases y with
        | dat e => cases e with
          | int j => exact notint hn rfl rfl
          | _ => rfl
        | _ => rfl
      | _ => rfl
    | _ => rfl) fun i j S hs => by
      have hh : (if powOk i j = true then M.pure (.dat (.int (i ^ j.toNat))) else M.stuck : M R) S ≠ .stuck := hs
      by_cases hm : powOk i j = true
      · exact ⟨powOk_ok hm, by show (if powOk i j = true then M.pure (.dat (.int (i ^ j.toNat))) else M.stuck : M R) S = _; rw [if_pos hm]; rfl⟩
      · rw [if_neg hm] at hh
        exact absurd rfl hh
theorem rI_I0 {g : Int → Int → V} {x y : V} {H : Hp} {Q : VK} (h : rI (fun _ _ => True) g x y H Q) : rI0 g x y H Q := by
  obtain ⟨i, j, e1, e2, _, q⟩ := h
  exact ⟨i, j, e1, e2, q⟩
/-! ### == -/
mutual
theorem dp_of : ∀ (d : D) (v : V) (x : PyData), Rep K w d v → py d = some x → Dp K w.H v x
  | .non, v, x, r, e => by
    cases e
    have e1 : v = .non := r
    subst e1
    exact .non
  | .bl b, v, x, r, e => by
    cases e
    have e1 : v = .bl b := r
    subst e1
    exact .bl b
  | .int b, v, x, r, e => by
    cases e
    have e1 : v = .int b := r
    subst e1
    exact .int b
  | .str b, v, x, r, e => by
    cases e
    have e1 : v = .str b := r
    subst e1
    exact .str b
  | .tup l, v, x, r, e => by
    obtain ⟨a, vs, e1, _, h1, _, h2⟩ := r
    obtain ⟨xs, e2, e3⟩ := Option.map_eq_some_iff.mp (show (pys l).map PyData.tuple = some x from e)
    subst e1 e3
    exact .tup (.of h1) (dps_of l vs xs h2 e2)
  | .lst l, v, x, r, e => by
    obtain ⟨a, vs, e1, _, h1, _, h2⟩ := r
    obtain ⟨xs, e2, e3⟩ := Option.map_eq_some_iff.mp (show (pys l).map PyData.list = some x from e)
    subst e1 e3
    exact .lst (.of h1) (dps_of l vs xs h2 e2)
  | .slst _, _, _, _, e => by cases e
  | .obj _ _ _, _, _, _, e => by cases e
theorem dps_of : ∀ (l : List D) (vs : List V) (xs : List PyData), Reps K w l vs → pys l = some xs → DpAll K w.H vs xs
  | [], vs, xs, r, e => by
    cases e
    have e1 : vs = [] := r
    subst e1
    exact .nil
  | d :: l, vs, xs, r, e => by
    obtain ⟨v, u, e1, h1, h2⟩ := r
    subst e1
    have e' : (match py d, pys l with
      | some x, some xs => some (x :: xs)
      | _, _ => none) = some xs := e
    cases e2 : py d with
    | none => rw [e2] at e'; cases e'
    | some y =>
      cases e3 : pys l with
      | none => rw [e2, e3] at e'; cases e'
      | some ys =>
        rw [e2, e3] at e'
        cases e'
        exact .cons (dp_of d v y h1 e2) (dps_of l u ys h2 e3)
end
/-- what == tells, as the hand layer's two rules have it -/
theorem eqD_ok (s : SR K w S) {x y : R} {u v : V} {c : Bool} (rx : Rel K w x u) (ry : Rel K w y v) (h : eqD S x y = some c) :
    (scal u v = true ∧ decide (u = v) = c) ∨ ∃ d e, Dp K w.H u d ∧ Dp K w.H v e ∧ SeqAt.shaped d = true ∧ SeqAt.shaped e = true ∧ PyData.eqv d e = c := by
  have gen : (match toD 0 S 8 x, toD 0 S 8 y with
    | some d, some e => (match py d, py e with
      | some x, some y => if SeqAt.shaped x = true ∧ SeqAt.shaped y = true then some (PyData.eqv x y) else none
      | _, _ => none)
    | _, _ => none) = some c → ∃ d e, Dp K w.H u d ∧ Dp K w.H v e ∧ SeqAt.shaped d = true ∧ SeqAt.shaped e = true ∧ PyData.eqv d e = c := fun h => by
    cases e1 : toD 0 S 8 x with
    | none => rw [e1] at h; cases h
    | some d =>
      cases e2 : toD 0 S 8 y with
      | none => rw [e1, e2] at h; cases h
      | some e =>
        rw [e1, e2] at h
        have h : (match py d, py e with
          | some x, some y => if SeqAt.shaped x = true ∧ SeqAt.shaped y = true then some (PyData.eqv x y) else none
          | _, _ => none) = some c := h
        cases e3 : py d with
        | none => rw [e3] at h; cases h
        | some a =>
          cases e4 : py e with
          | none => rw [e3, e4] at h; cases h
          | some b =>
            rw [e3, e4] at h
            have h : (if SeqAt.shaped a = true ∧ SeqAt.shaped b = true then some (PyData.eqv a b) else none) = some c := h
            by_cases hs : SeqAt.shaped a = true ∧ SeqAt.shaped b = true
            · rw [if_pos hs] at h
              have p1 := dp_of d u a (toD_ok s (Nat.zero_le _) 8 x d u e1 rx) e3
              have p2 := dp_of e v b (toD_ok s (Nat.zero_le _) 8 y e v e2 ry) e4
              exact ⟨a, b, p1, p2, hs.1, hs.2, Option.some.inj h⟩
            · rw [if_neg hs] at h
              cases h
  have fin : ∀ {b : Bool}, scal u v = true → decide (u = v) = b → some b = some c → (scal u v = true ∧ decide (u = v) = c) := fun h1 h2 h3 => ⟨h1, h2.trans (Option.some.inj h3)⟩
  cases x with
  | dat d =>
    cases d with
    | int i =>
      have e1 : u = .int i := rx
      subst e1
      cases y with
      | dat e =>
        cases e with
        | int j =>
          have e2 : v = .int j := ry
          subst e2
          exact .inl (fin rfl (by simp) h)
        | non =>
          have e2 : v = .non := ry
          subst e2
          exact .inl (fin rfl (by simp) h)
        | _ => exact .inr (gen h)
      | _ => exact .inr (gen h)
    | bl i =>
      have e1 : u = .bl i := rx
      subst e1
      cases y with
      | dat e =>
        cases e with
        | bl j =>
          have e2 : v = .bl j := ry
          subst e2
          exact .inl (fin rfl (by simp) h)
        | _ => exact .inr (gen h)
      | _ => exact .inr (gen h)
    | str i =>
      have e1 : u = .str i := rx
      subst e1
      cases y with
      | dat e =>
        cases e with
        | str j =>
          have e2 : v = .str j := ry
          subst e2
          exact .inl (fin rfl (by simp) h)
        | _ => exact .inr (gen h)
      | _ => exact .inr (gen h)
    | non =>
      have e1 : u = .non := rx
      subst e1
      cases y with
      | dat e =>
        cases e with
        | int j =>
          have e2 : v = .int j := ry
          subst e2
          exact .inl (fin rfl (by simp) h)
        | _ => exact .inr (gen h)
      | _ => exact .inr (gen h)
    | _ => exact .inr (gen h)
  | _ => exact .inr (gen h)
theorem op_eqAny (hu : X.A.units + 64 < cLine) : OpR X (compareOp .Eq) (fun x y H Q => rEq x y H Q ∨ rEqD X.K x y H Q) := OpR.or op_eq (op_eqD hu)
theorem op_neAny (hu : X.A.units + 64 < cLine) : OpR X (compareOp .NotEq) (fun x y H Q => rNe x y H Q ∨ rNeD X.K x y H Q) := OpR.or op_ne (op_neD hu)
theorem cmpeq_ok : ∀ (w : Wd) (S : Store) (x y : R) (u v : V) (E : XK) (Q : VK), SR X.K w S → Rel X.K w x u → Rel X.K w y v → Hop X.K (Rel X.K) E w Q (cmpR .eq x y S) → (rEq u v w.H Q ∨ rEqD X.K u v w.H Q) := by
  intro w S x y u v E Q s rx ry h
  have hh : Hop X.K (Rel X.K) E w Q (match eqD S x y with
    | some c => .ok (.dat (.bl c)) S
    | none => .stuck) := by
    unfold cmpR at h
    cases x with
    | dat d => cases d <;> exact h
    | _ => exact h
  cases e : eqD S x y with
  | none => rw [e] at hh; exact hh.elim
  | some c =>
    rw [e] at hh
    have q := hh w (.bl c) (Ext.refl w) s rfl
    rcases eqD_ok s rx ry e with ⟨h1, h2⟩ | ⟨d, e, h1, h2, h3, h4, h5⟩
    · exact .inl ⟨h1, by rw [h2]; exact q⟩
    · exact .inr ⟨d, e, h1, h2, h3, h4, by rw [h5]; exact q⟩
theorem cmpne_ok : ∀ (w : Wd) (S : Store) (x y : R) (u v : V) (E : XK) (Q : VK), SR X.K w S → Rel X.K w x u → Rel X.K w y v → Hop X.K (Rel X.K) E w Q (cmpR .ne x y S) → (rNe u v w.H Q ∨ rNeD X.K u v w.H Q) := by
  intro w S x y u v E Q s rx ry h
  have hh : Hop X.K (Rel X.K) E w Q (match eqD S x y with
    | some c => .ok (.dat (.bl (!c))) S
    | none => .stuck) := by
    unfold cmpR at h
    cases x with
    | dat d => cases d <;> exact h
    | _ => exact h
  cases e : eqD S x y with
  | none => rw [e] at hh; exact hh.elim
  | some c =>
    rw [e] at hh
    have q := hh w (.bl (!c)) (Ext.refl w) s rfl
    rcases eqD_ok s rx ry e with ⟨h1, h2⟩ | ⟨d, e, h1, h2, h3, h4, h5⟩
    · exact .inl ⟨h1, by rw [h2]; exact q⟩
    · exact .inr ⟨d, e, h1, h2, h3, h4, by rw [h5]; exact q⟩
/-- <, <=, >, >= -/
theorem cmp_int {op : Cop} {g : Int → Int → Bool} (hn : ∀ x y S, (∀ i j, x = .dat (.int i) → y ≠ .dat (.int j)) → cmpR op x y S = .stuck) (hi : ∀ i j S, cmpR op (.dat (.int i)) (.dat (.int j)) S = .ok (.dat (.bl (g i j))) S) :
    ∀ (w : Wd) (S : Store) (x y : R) (u v : V) (E : XK) (Q : VK), SR X.K w S → Rel X.K w x u → Rel X.K w y v → Hop X.K (Rel X.K) E w Q (cmpR op x y S) → rI0 (fun i j => .bl (g i j)) u v w.H Q := by
  intro w S x y u v E Q s rx ry h
  by_cases hx : ∃ i j, x = .dat (.int i) ∧ y = .dat (.int j)
  · obtain ⟨i, j, ex, ey⟩ := hx
    rw [ex] at rx h
    rw [ey] at ry h
    rw [hi] at h
    exact ⟨i, j, rx, ry, h w (.bl (g i j)) (Ext.refl w) s rfl⟩
  · rw [hn x y S fun i j ex ey => hx ⟨i, j, ex, ey⟩] at h
    exact h.elim
theorem cmpR_n (op : Cop) (h1 : op ≠ .eq) (h2 : op ≠ .ne) (x y : R) (S : Store) (hn : ∀ i j, x = .dat (.int i) → y ≠ .dat (.int j)) : cmpR op x y S = .stuck := by
  cases op with
  | eq => exact absurd rfl h1
  | ne => exact absurd rfl h2
  | _ =>
    cases x with
    | dat d => cases d with
      | int i => cases y with
        | dat e => cases e with
          | int j => exact absurd rfl (hn i j rfl)
          | _ => rfl
        | _ => rfl
      | _ => rfl
    | _ => rfl
end
end MP
set_option Elab.async false
set_option linter.all false
set_option maxRecDepth 100000
set_option maxHeartbeats 4000000
/-! MPBuilt: subscripts, fields, built-in functions, methods of lists. -/
namespace MP
open PySem PySem.Spec PyProof.Rows L2
section
variable {K : PySem.W.Frag} {w w' : Wd} {S : Store} {X : Cx}
theorem ixAny : IxR X (fun x y H Q => rIxL X.K x y H Q ∨ rIxT X.K x y H Q) := ix_list.or ix_tup
theorem Rels.at {rs : List R} {vs : List V} {i : Int} {r : R} (h : Rels K w rs vs) (e : atI rs i = some r) : ∃ v, atI vs i = some v ∧ Rel K w r v := by
  unfold atI at e ⊢
  rw [h.length] at e
  cases q : ixN vs.length i with
  | none => rw [q] at e; cases e
  | some j =>
    rw [q] at e
    obtain ⟨v, e1, e2⟩ := h.get (show rs[j]? = some r from e)
    exact ⟨v, e1, e2⟩
theorem ix_ok : ∀ (w : Wd) (S : Store) (x y : R) (u v : V) (E : XK) (Q : VK), SR X.K w S → Rel X.K w x u → Rel X.K w y v → Hop X.K (Rel X.K) E w Q (ixR x y S) → (rIxL X.K u v w.H Q ∨ rIxT X.K u v w.H Q) := by
  intro w S x y u v E Q s rx ry h
  unfold ixR at h
  cases y with
  | dat d =>
    cases d with
    | int i =>
      cases e : itemsR S x with
      | none => rw [e] at h; exact h.elim
      | some rs =>
        rw [e] at h
        have hh : Hop X.K (Rel X.K) E w Q (match atR rs i with
          | some r => .ok r S
          | none => .stuck) := h
        obtain ⟨a, vs, e1, q, hz, h2⟩ := items_ok s rx e
        cases e2 : atR rs i with
        | none => rw [e2] at hh; exact hh.elim
        | some r =>
          rw [e2] at hh
          obtain ⟨z, e3, e4⟩ := h2.at e2
          have fin := hh w z (Ext.refl w) s e4
          rcases q with q | q
          · exact .inl ⟨a, vs, i, z, e1, ry, .of q, e3, fin⟩
          · exact .inr ⟨a, vs, i, z, e1, ry, .of q, e3, fin⟩
    | _ => exact h.elim
  | _ => exact h.elim
theorem Rels.cut' {rs : List R} {vs : List V} (h : Rels K w rs vs) (lo hi : Option Int) : Rels K w (cutR rs lo hi) (cutV vs lo hi) := by
  unfold cutR cutV
  rw [h.length]
  exact (h.drop _).take _
theorem Reps.toRels {ds : List D} {vs : List V} : Rels K w (ds.map R.dat) vs → Reps K w ds vs := by
  induction ds generalizing vs with
  | nil => exact id
  | cons d l ih => exact fun ⟨v, u, e, h1, h2⟩ => ⟨v, u, e, h1, ih h2⟩
theorem cut_map {α β : Type} (f : α → β) (l : List α) (lo hi : Option Int) : cutR (l.map f) lo hi = (cutR l lo hi).map f := by
  unfold cutR
  rw [List.length_map, List.map_take, List.map_drop]
theorem sl_ok (m : Bool) (lo hi : Option Int) : ∀ (w : Wd) (S : Store) (x : R) (u : V) (E : XK) (Q : VK), SR X.K w S → Rel X.K w x u → Hop X.K (Rel X.K) E w Q (slR m x lo hi S) → rSlL X.K u lo hi w.H Q := by
  intro w S x u E Q s rx h
  have gen : Hop X.K (Rel X.K) E w Q (match itemsL S x with
    | some rs => mkL m (cutR rs lo hi) S
    | none => .stuck) → rSlL X.K u lo hi w.H Q := fun h => by
    cases e : itemsL S x with
    | none => rw [e] at h; exact h.elim
    | some rs =>
      rw [e] at h
      obtain ⟨a, vs, e1, q, hz, h2⟩ := items_lst s rx e
      exact ⟨a, vs, e1, .of q, fun p hp => mkL_ok s (Nat.le_trans (cutV_length _ _ _) hz) (h2.cut' lo hi) h p hp⟩
  cases x with
  | dat d =>
    cases d with
    | slst l =>
      obtain ⟨a, vs, e1, q, hz, h2⟩ := rx
      have h2' := (Reps.dat h2).cut' lo hi
      rw [cut_map] at h2'
      refine ⟨a, vs, e1, ?_, fun p hp => ?_⟩
      · rcases q with ⟨_, q | ⟨o, q⟩⟩ | q
        · exact .inl (.inl q)
        · exact .inl (.inr ⟨o, q⟩)
        · exact .inr q
      · have x := ext_new (o := .lst (cutV vs lo hi)) s hp
        exact h (w.new p (.lst (cutV vs lo hi))) (.ref p) x (s.new hp) ⟨p, _, rfl, nlive_new s hp, new_same, Nat.le_trans (cutV_length _ _ _) hz, (Reps.toRels h2').ext x⟩
    | _ => exact gen h
  | _ => exact gen h
/-! ### fields -/
theorem lookup_at : ∀ {fs : List (Str × V)} {j : Nat} {f : Str} {v : V}, (fs.map (·.1))[j]? = some f → (fs.map (·.1)).Nodup → (fs.map (·.2))[j]? = some v → fs.lookup f = some v
  | [], j, _, _, h, _, _ => by simp at h
  | (g, x) :: r, 0, f, v, h, _, h2 => by
    simp at h h2
    subst h h2
    simp [List.lookup]
  | (g, x) :: r, j + 1, f, v, h, nd, h2 => by
    rw [List.map_cons, List.nodup_cons] at nd
    have h' : (r.map (·.1))[j]? = some f := by simpa using h
    have h2' : (r.map (·.2))[j]? = some v := by simpa using h2
    have ne : f ≠ g := fun e => nd.1 (by rw [← e]; exact List.mem_of_getElem? h')
    rw [lookup_put, if_neg ne]
    exact lookup_at h' nd.2 h2'
/-! ### built-in functions -/
theorem cr_sumT (hc : X.calm = true) : CallR X (.builtin "sum") (fun vs H Q => ∃ (a : Addr) (ns : List Int), vs = [V.ref a] ∧ SqT X.K H a (ns.map V.int) ∧ Q (.int ns.sum) H) := by
  intro pins s σ H vs us Q I r h
  obtain ⟨a, ns, rfl, hs, q⟩ := h
  obtain ⟨its, rv, hl, _⟩ := I.tuple hs
  rw [Vals.ref1 r]
  have hi : IntsAre its ns := rv.ints
  obtain ⟨xs, ex⟩ := hi.allInts.items
  have hn : numsOf (intItems xs).toList = ns := by rw [← ex]; exact hi.numsOf
  rw [nums_intItems] at hn
  have ht : s.heap.IsTuple a (intItems xs) := by
    rw [← ex]
    exact hl
  refine PySem.W.ktm_sumG (I.ok.hd hc) ht fun h' tk t' hk => ⟨.int ns.sum, H, I.kept hk, ⟨t', ?_⟩, q⟩
  rw [preSum_eq, List.take_of_length_le (by simp), hn]
theorem cr_sumAny (hc : X.calm = true) : CallR X (.builtin "sum") (fun vs H Q => rSum X.K vs H Q ∨ ∃ (a : Addr) (ns : List Int), vs = [V.ref a] ∧ SqT X.K H a (ns.map V.int) ∧ Q (.int ns.sum) H) := CallR.or (cr_sum hc) (cr_sumT hc)
theorem log_wide {n : Nat} (h : n.log2 < 9000) : (max 1 n).log2 / 30 + 1 ≤ 450 := by
  have : (max 1 n).log2 < 9000 := by
    rcases Nat.le_total 1 n with q | q
    · rw [Nat.max_eq_right q]; exact h
    · rw [Nat.max_eq_left q]; decide
  omega
theorem log_max {n m : Nat} (h : n.log2 < 9000) (h' : m.log2 < 9000) : (max n m).log2 / 30 + 1 ≤ 450 := by
  have : (max n m).log2 < 9000 := by
    rcases Nat.le_total n m with q | q
    · rw [Nat.max_eq_right q]; exact h'
    · rw [Nat.max_eq_left q]; exact h
  omega
theorem lt_log {n k : Nat} (h : n.log2 < k) : n < 2 ^ k := by
  by_cases e : n = 0
  · rw [e]; exact Nat.two_pow_pos k
  · exact (Nat.log2_lt e).mp h
theorem cr_lcm : CallR X (.builtin "math.lcm") (fun vs H Q => ∃ a b : Int, vs = [.int a, .int b] ∧ a.natAbs.log2 < 9000 ∧ b.natAbs.log2 < 9000 ∧ Q (.int ((Nat.lcm a.natAbs b.natAbs : Nat) : Int)) H) := by
  intro pins s σ H vs us Q I r h
  obtain ⟨a, b, rfl, ha, hb, q⟩ := h
  obtain ⟨t, u, rfl⟩ := Vals.int2 r
  have e1 : (Nat.lcm 1 a.natAbs).lcm b.natAbs = Nat.lcm a.natAbs b.natAbs := by rw [Nat.lcm_one_left]
  have hz : ((((Nat.lcm 1 a.natAbs).lcm b.natAbs : Nat) : Int)).natAbs.log2 < bitsLine := by
    rw [e1, Int.natAbs_natCast]
    have l1 := lt_log ha
    have l2 := lt_log hb
    have l3 : Nat.lcm a.natAbs b.natAbs < 2 ^ 18000 := by
      have : Nat.lcm a.natAbs b.natAbs ≤ a.natAbs * b.natAbs := by
        unfold Nat.lcm
        exact Nat.div_le_self _ _
      refine Nat.lt_of_le_of_lt this ?_
      have : a.natAbs * b.natAbs < 2 ^ 9000 * 2 ^ 9000 := Nat.mul_lt_mul_of_lt_of_le l1 (Nat.le_of_lt l2) (Nat.two_pow_pos _)
      rw [← Nat.pow_add] at this
      exact this
    have l4 : (Nat.lcm a.natAbs b.natAbs).log2 < 18000 := by
      by_cases e0 : Nat.lcm a.natAbs b.natAbs = 0
      · rw [e0]; decide
      · exact (Nat.log2_lt e0).mpr l3
    show (Nat.lcm a.natAbs b.natAbs).log2 < 2 ^ 27
    omega
  have g := PySem.W.mg_run_lcm a t b u (Nat.not_lt.mpr (log_wide ha)) (Nat.not_lt.mpr (log_max ha hb)) hz
  refine PySem.call_function_meets PySem.W.MGF.kind_lcm PySem.W.MGF.plain_lcm PySem.W.MGF.entry_lcm (PySem.W.MGF.args_lcm _ _) g.meets ?_
  exact ⟨.int _, H, I.tok _, ⟨_, by rw [e1]⟩, q⟩
end
end MP
set_option Elab.async false
set_option linter.all false
set_option maxRecDepth 100000
set_option maxHeartbeats 4000000
/-! MPExpr: each form of expression. -/
namespace MP
open PySem PySem.Spec PyProof.Rows L2
section
variable {X : Cx} {xr : XR} {W : WX} {a b e : Expr} {es : List Expr} {ma mb : MP.Env → M R} {ms : MP.Env → M (List R)} {pos p p0 p1 p2 : Pos}
/-! ### argument lists -/
theorem a_nil : AOk X xr W [] (fun _ => M.pure []) := ⟨_, pa_nil, fun σ w S ρ Q er sr h => hop_pure h sr rfl⟩
theorem a_cons (hx : xr.Ok) (ha : EOk X xr W e ma) (hr : AOk X xr W es ms) (hs : starEach (e :: es) X.env = (false, eval e X.env) :: starEach es X.env) :
    AOk X xr W (e :: es) (fun ρ => M.bind (ma ρ) fun x => M.bind (ms ρ) fun xs => M.pure (x :: xs)) := by
  obtain ⟨ta, pa, qa⟩ := ha
  obtain ⟨ts, ps, qs⟩ := hr
  refine ⟨_, pa_cons pa ps hs, fun σ w S ρ Q er sr h => qa σ w S ρ _ er sr (h.bind fun w1 x u S1 e1 s1 rx h1 => qs σ w1 S1 ρ _ (er.ext hx e1) s1 (h1.bind fun w2 xs us S2 e2 s2 rs h2 => ?_))⟩
  exact hop_pure h2 s2 ⟨u, us, rfl, rx.ext e2, rs⟩
/-! ### displays -/
theorem e_lst (m : Bool) (hs : AOk X xr W es ms) (hl : ∀ ρ S rs S', ms ρ S = .ok rs S' → rs.length ≤ 1000) : EOk X xr W (.List es pos) (fun ρ => M.bind (ms ρ) (mkL m)) := by
  obtain ⟨ts, ps, qs⟩ := hs
  refine ⟨_, pe_lst ps, fun σ w S ρ Q er sr h => ?_⟩
  have h' : Hop X.K (Rel X.K) (WE W σ) w Q (M.bind (M.bind (ms ρ) fun rs => fun S' => if rs.length ≤ 1000 then .ok rs S' else .stuck) (mkL m) S) := by
    have e : M.bind (M.bind (ms ρ) fun rs => fun S' => if rs.length ≤ 1000 then Res.ok rs S' else .stuck) (mkL m) S = M.bind (ms ρ) (mkL m) S := by
      unfold M.bind
      cases q : ms ρ S with
      | ok rs S' =>
        have := hl ρ S rs S' q
        simp only [if_pos this]
      | _ => rfl
    rw [e]
    exact h
  rw [bind_assoc] at h'
  refine qs σ w S ρ _ er sr (h'.bind fun w1 rs us S1 e1 s1 rr h1 => ?_)
  unfold M.bind at h1
  by_cases hz : rs.length ≤ 1000
  · simp only [if_pos hz] at h1
    have l := rr.length
    have z : us.length ≤ sizeLine := by
      have := line_eq
      omega
    exact ⟨z, fun q hq => mkL_ok s1 z rr h1 q hq⟩
  · simp only [if_neg hz] at h1
    exact h1.elim
theorem e_tup {k : Nat} (hs : AOk X xr W es ms) (hl : ∀ ρ S rs S', ms ρ S = .ok rs S' → rs.length ≤ 1000) : EOk X xr W (.Tuple es k pos) (fun ρ => M.bind (ms ρ) mkT) := by
  obtain ⟨ts, ps, qs⟩ := hs
  refine ⟨_, pe_tup ps, fun σ w S ρ Q er sr h => ?_⟩
  have h' : Hop X.K (Rel X.K) (WE W σ) w Q (M.bind (M.bind (ms ρ) fun rs => fun S' => if rs.length ≤ 1000 then .ok rs S' else .stuck) mkT S) := by
    have e : M.bind (M.bind (ms ρ) fun rs => fun S' => if rs.length ≤ 1000 then Res.ok rs S' else .stuck) mkT S = M.bind (ms ρ) mkT S := by
      unfold M.bind
      cases q : ms ρ S with
      | ok rs S' =>
        have := hl ρ S rs S' q
        simp only [if_pos this]
      | _ => rfl
    rw [e]
    exact h
  rw [bind_assoc] at h'
  refine qs σ w S ρ _ er sr (h'.bind fun w1 rs us S1 e1 s1 rr h1 => ?_)
  unfold M.bind at h1
  by_cases hz : rs.length ≤ 1000
  · simp only [if_pos hz] at h1
    have l := rr.length
    have z : us.length ≤ sizeLine := by
      have := line_eq
      omega
    exact ⟨z, fun q hq => mkT_ok s1 z rr h1 q hq⟩
  · simp only [if_neg hz] at h1
    exact h1.elim
/-! ### subscripts -/
theorem e_ix (hx : xr.Ok) (hs : PlainIx b) (ha : EOk X xr W a ma) (hb : EOk X xr W b mb) : EOk X xr W (.Subscript a b pos) (fun ρ => M.bind (ma ρ) fun x => M.bind (mb ρ) fun y => ixR x y) := by
  obtain ⟨ta, pa, qa⟩ := ha
  obtain ⟨tb, pb, qb⟩ := hb
  refine ⟨_, pe_ix ixAny pa pb hs, fun σ w S ρ Q er sr h => qa σ w S ρ _ er sr (h.bind fun w1 x u S1 e1 s1 rx h1 => qb σ w1 S1 ρ _ (er.ext hx e1) s1 (h1.bind fun w2 y v S2 e2 s2 ry h2 => ?_))⟩
  exact ix_ok w2 S2 x y u v _ Q s2 (rx.ext e2) ry h2
def POk (X : Cx) (xr : XR) (W : WX) (o : Option Expr) (m : MP.Env → M (Option Int)) : Prop :=
  ∃ t, PO X o t ∧ ∀ σ w S ρ Q, EnvR X.K xr w σ ρ → SR X.K w S → Hop X.K (fun _ a v => a = v) (WE W σ) w Q (m ρ S) → t σ w.H Q
theorem o_none : POk X xr W none (fun _ => M.pure none) := ⟨_, po_none, fun σ w S ρ Q er sr h => hop_pure (rel := fun _ a v => a = v) h sr rfl⟩
theorem o_some (ha : EOk X xr W a ma) : POk X xr W (some a) (fun ρ => M.bind (ma ρ) fun x => optI [x]) := by
  obtain ⟨ta, pa, qa⟩ := ha
  refine ⟨_, po_some pa, fun σ w S ρ Q er sr h => qa σ w S ρ _ er sr (h.bind fun w1 x u S1 e1 s1 rx h1 => ?_)⟩
  cases x with
  | dat d =>
    cases d with
    | int i => exact ⟨i, rx, hop_pure (rel := fun _ a v => a = v) h1 s1 rfl⟩
    | _ => exact h1.elim
  | _ => exact h1.elim
theorem e_sl (m : Bool) (hx : xr.Ok) {lo hi : Option Expr} {ml mh : MP.Env → M (Option Int)} (ha : EOk X xr W a ma) (hl : POk X xr W lo ml) (hh : POk X xr W hi mh) :
    EOk X xr W (.Subscript a (.Slice lo hi none p2) pos) (fun ρ => M.bind (ma ρ) fun x => M.bind (ml ρ) fun l => M.bind (mh ρ) fun h => slR m x l h) := by
  obtain ⟨ta, pa, qa⟩ := ha
  obtain ⟨tl, pl, ql⟩ := hl
  obtain ⟨th, ph, qh⟩ := hh
  refine ⟨_, pe_slice sl_list pa pl ph, fun σ w S ρ Q er sr h => qa σ w S ρ _ er sr (h.bind fun w1 x u S1 e1 s1 rx h1 => ql σ w1 S1 ρ _ (er.ext hx e1) s1 (h1.bind fun w2 l l' S2 e2 s2 rl h2 =>
    qh σ w2 S2 ρ _ ((er.ext hx e1).ext hx e2) s2 (h2.bind fun w3 r r' S3 e3 s3 rr h3 => ?_)))⟩
  have el : l = l' := rl
  have eh : r = r' := rr
  subst el eh
  exact sl_ok m l r w3 S3 x u _ Q s3 ((rx.ext e2).ext e3) h3
/-! ### calls of built-ins -/
theorem e_bi {id : String} {x : Str} {r : List V → Hp → VK → Prop} {f : List R → M R} (hx : xr.Ok) (hc : CallR X (.builtin id) r) (hg : Gl X x) (hm : X.mg x = none) (hv : bootBuiltins x = some (.builtin id)) (hn : x ≠ "__name__") (hdb : (x == ("__debug__" : Str)) = false)
    (he : starEach (e :: es) X.env = (false, eval e X.env) :: starEach es X.env) (hpl : (backTo pos (starEach es X.env)).any (·.1) = false) (ha : EOk X xr W e ma) (hs : AOk X xr W es ms)
    (hr : ∀ w S xs vs E Q, SR X.K w S → Rels X.K w xs vs → Hop X.K (Rel X.K) E w Q (f xs S) → r vs w.H Q) :
    EOk X xr W (.Call (.Name x p) (e :: es) [] pos) (fun ρ => M.bind (ma ρ) fun x => M.bind (ms ρ) fun xs => f (x :: xs)) := by
  obtain ⟨ta, pa, qa⟩ := ha
  obtain ⟨ts, ps, qs⟩ := hs
  refine ⟨_, pe_callB hc hg hm hv (pa_cons pa ps he) hn hdb he hpl, fun σ w S ρ Q er sr h => qa σ w S ρ _ er sr (h.bind fun w1 x u S1 e1 s1 rx h1 => qs σ w1 S1 ρ _ (er.ext hx e1) s1 (h1.bind fun w2 xs us S2 e2 s2 rs h2 => ?_))⟩
  exact hr w2 S2 (x :: xs) (u :: us) _ Q s2 ⟨u, us, rfl, rx.ext e2, rs⟩ h2
theorem e_biT {id : String} {x : Str} {r : List V → Hp → VK → Prop} {f : List R → M R} (hx : xr.Ok) (hc : CallR X (.type id) r) (hg : Gl X x) (hm : X.mg x = none) (hv : bootBuiltins x = some (.type id)) (hn : x ≠ "__name__") (hdb : (x == ("__debug__" : Str)) = false)
    (he : starEach (e :: es) X.env = (false, eval e X.env) :: starEach es X.env) (hpl : (backTo pos (starEach es X.env)).any (·.1) = false) (ha : EOk X xr W e ma) (hs : AOk X xr W es ms)
    (hr : ∀ w S xs vs E Q, SR X.K w S → Rels X.K w xs vs → Hop X.K (Rel X.K) E w Q (f xs S) → r vs w.H Q) :
    EOk X xr W (.Call (.Name x p) (e :: es) [] pos) (fun ρ => M.bind (ma ρ) fun x => M.bind (ms ρ) fun xs => f (x :: xs)) := by
  obtain ⟨ta, pa, qa⟩ := ha
  obtain ⟨ts, ps, qs⟩ := hs
  refine ⟨_, pe_callTy hc hg hm hv (pa_cons pa ps he) hn hdb he hpl, fun σ w S ρ Q er sr h => qa σ w S ρ _ er sr (h.bind fun w1 x u S1 e1 s1 rx h1 => qs σ w1 S1 ρ _ (er.ext hx e1) s1 (h1.bind fun w2 xs us S2 e2 s2 rs h2 => ?_))⟩
  exact hr w2 S2 (x :: xs) (u :: us) _ Q s2 ⟨u, us, rfl, rx.ext e2, rs⟩ h2
theorem hop_ok {α β : Type} {rel : Wd → α → β → Prop} {K : PySem.W.Frag} {E : XK} {w : Wd} {Q : β → Hp → Prop} {a : α} {v : β} {S : Store} (h : Hop K rel E w Q (.ok a S)) (s : SR K w S) (r : rel w a v) : Q v w.H := h w v (Ext.refl w) s r
theorem one_of {K : PySem.W.Frag} {w : Wd} {x : R} {xs : List R} {vs : List V} (h : Rels K w (x :: xs) vs) : ∃ v us, vs = v :: us ∧ Rel K w x v ∧ Rels K w xs us := h
theorem nil_of {K : PySem.W.Frag} {w : Wd} {vs : List V} (h : Rels K w [] vs) : vs = [] := h
theorem intsR_cons {x : R} {xs : List R} {ns : List Int} (h : intsR (x :: xs) = some ns) : ∃ i is, ns = i :: is := by
  cases x with
  | dat d =>
    cases d with
    | int i =>
      obtain ⟨is, _, e⟩ := Option.map_eq_some_iff.mp (show (intsR xs).map (i :: ·) = some ns from h)
      exact ⟨i, is, e.symm⟩
    | _ => cases h
  | _ => cases h
/-- len -/
theorem len_ok (m : Bool) : ∀ (w : Wd) (S : Store) (xs : List R) (vs : List V) (E : XK) (Q : VK), SR X.K w S → Rels X.K w xs vs → Hop X.K (Rel X.K) E w Q (biR m .len xs S) → (∃ p ys, vs = [.ref p] ∧ (SqL X.K w.H p ys ∨ SqT X.K w.H p ys) ∧ Q (.int ys.length) w.H) := by
  intro w S xs vs E Q s r h
  match xs, r, h with
  | [], _, h => exact h.elim
  | [x], r, h =>
    obtain ⟨v, us, e1, r1, r2⟩ := one_of r
    have e2 := nil_of r2
    subst e1 e2
    have hh : Hop X.K (Rel X.K) E w Q (match itemsR S x with
      | some xs => .ok (.dat (.int xs.length)) S
      | none => .stuck) := h
    cases e : itemsR S x with
    | none => rw [e] at hh; exact hh.elim
    | some rs =>
      rw [e] at hh
      obtain ⟨a, ys, e3, q, hz, h2⟩ := items_sq s r1 e
      exact ⟨a, ys, by rw [e3], q, hop_ok hh s (by rw [← h2.length]; rfl)⟩
  | _ :: _ :: _, _, h => exact h.elim
theorem sum_ok (m : Bool) : ∀ (w : Wd) (S : Store) (xs : List R) (vs : List V) (E : XK) (Q : VK), SR X.K w S → Rels X.K w xs vs → Hop X.K (Rel X.K) E w Q (biR m .sum xs S) →
    (rSum X.K vs w.H Q ∨ ∃ (a : Addr) (ns : List Int), vs = [V.ref a] ∧ SqT X.K w.H a (ns.map V.int) ∧ Q (.int ns.sum) w.H) := by
  intro w S xs vs E Q s r h
  match xs, r, h with
  | [], _, h => exact h.elim
  | [x], r, h =>
    obtain ⟨v, us, e1, r1, r2⟩ := one_of r
    have e2 := nil_of r2
    subst e1 e2
    have hh : Hop X.K (Rel X.K) E w Q (match (itemsR S x).bind intsR with
      | some xs => .ok (.dat (.int xs.sum)) S
      | none => .stuck) := h
    cases e : itemsR S x with
    | none => rw [e] at hh; exact hh.elim
    | some rs =>
      cases e4 : intsR rs with
      | none =>
        rw [e] at hh
        simp only [Option.bind_some, e4] at hh
        exact hh.elim
      | some ns =>
        rw [e] at hh
        simp only [Option.bind_some, e4] at hh
        obtain ⟨a, ys, e3, q, hz, h2⟩ := items_sq s r1 e
        have e5 := h2.ints e4
        subst e5
        rcases q with q | q
        · exact .inl ⟨a, ns, by rw [e3], q, hop_ok hh s rfl⟩
        · exact .inr ⟨a, ns, by rw [e3], q, hop_ok hh s rfl⟩
  | _ :: _ :: _, _, h => exact h.elim
theorem abs_ok (m : Bool) : ∀ (w : Wd) (S : Store) (xs : List R) (vs : List V) (E : XK) (Q : VK), SR X.K w S → Rels X.K w xs vs → Hop X.K (Rel X.K) E w Q (biR m .abs xs S) → (∃ i, vs = [.int i] ∧ Q (.int (if i < 0 then -i else i)) w.H) := by
  intro w S xs vs E Q s r h
  match xs, r, h with
  | [], _, h => exact h.elim
  | [x], r, h =>
    obtain ⟨v, us, e1, r1, r2⟩ := one_of r
    have e2 := nil_of r2
    subst e1 e2
    cases x with
    | dat d =>
      cases d with
      | int i =>
        have e3 : v = .int i := r1
        subst e3
        exact ⟨i, rfl, hop_ok h s rfl⟩
      | _ => exact h.elim
    | _ => exact h.elim
  | x :: _ :: _, _, h =>
    cases x with
    | dat d => cases d <;> exact h.elim
    | _ => exact h.elim
theorem int_ok (m : Bool) : ∀ (w : Wd) (S : Store) (xs : List R) (vs : List V) (E : XK) (Q : VK), SR X.K w S → Rels X.K w xs vs → Hop X.K (Rel X.K) E w Q (biR m .int xs S) → ((∃ i, vs = [.int i] ∧ Q (.int i) w.H) ∨ ∃ k, vs = [.bl k] ∧ Q (.int (if k then 1 else 0)) w.H) := by
  intro w S xs vs E Q s r h
  match xs, r, h with
  | [], _, h => exact h.elim
  | [x], r, h =>
    obtain ⟨v, us, e1, r1, r2⟩ := one_of r
    have e2 := nil_of r2
    subst e1 e2
    cases x with
    | dat d =>
      cases d with
      | int i =>
        have e3 : v = .int i := r1
        subst e3
        exact .inl ⟨i, rfl, hop_ok h s rfl⟩
      | bl i =>
        have e3 : v = .bl i := r1
        subst e3
        exact .inr ⟨i, rfl, hop_ok h s rfl⟩
      | _ => exact h.elim
    | _ => exact h.elim
  | x :: _ :: _, _, h =>
    cases x with
    | dat d => cases d <;> exact h.elim
    | _ => exact h.elim
theorem foldl_max (l : List Int) : ∀ a : Int, l.foldl max a = a ∨ l.foldl max a ∈ l := by
  induction l with
  | nil => exact fun a => .inl rfl
  | cons x l ih =>
    intro a
    rw [List.foldl_cons]
    rcases ih (max a x) with h | h
    · rw [h]
      rcases Int.le_total a x with q | q
      · rw [Int.max_eq_right q]; exact .inr List.mem_cons_self
      · rw [Int.max_eq_left q]; exact .inl rfl
    · exact .inr (List.mem_cons_of_mem _ h)
theorem foldl_max_le (l : List Int) : ∀ a : Int, a ≤ l.foldl max a ∧ ∀ y ∈ l, y ≤ l.foldl max a := by
  induction l with
  | nil => exact fun a => ⟨Int.le_refl _, fun y h => absurd h (by simp)⟩
  | cons x l ih =>
    intro a
    rw [List.foldl_cons]
    obtain ⟨h1, h2⟩ := ih (max a x)
    refine ⟨Int.le_trans (Int.le_max_left a x) h1, fun y hy => ?_⟩
    rcases List.mem_cons.mp hy with e | e
    · rw [e]; exact Int.le_trans (Int.le_max_right a x) h1
    · exact h2 y e
theorem foldl_min (l : List Int) : ∀ a : Int, l.foldl min a = a ∨ l.foldl min a ∈ l := by
  induction l with
  | nil => exact fun a => .inl rfl
  | cons x l ih =>
    intro a
    rw [List.foldl_cons]
    rcases ih (min a x) with h | h
    · rw [h]
      rcases Int.le_total a x with q | q
      · rw [Int.min_eq_left q]; exact .inl rfl
      · rw [Int.min_eq_right q]; exact .inr List.mem_cons_self
    · exact .inr (List.mem_cons_of_mem _ h)
theorem foldl_min_le (l : List Int) : ∀ a : Int, l.foldl min a ≤ a ∧ ∀ y ∈ l, l.foldl min a ≤ y := by
  induction l with
  | nil => exact fun a => ⟨Int.le_refl _, fun y h => absurd h (by simp)⟩
  | cons x l ih =>
    intro a
    rw [List.foldl_cons]
    obtain ⟨h1, h2⟩ := ih (min a x)
    refine ⟨Int.le_trans h1 (Int.min_le_left a x), fun y hy => ?_⟩
    rcases List.mem_cons.mp hy with e | e
    · rw [e]; exact Int.le_trans h1 (Int.min_le_right a x)
    · exact h2 y e
theorem max_mem {l : List Int} {m : Int} (hm : m ∈ l) (hb : ∀ y ∈ l, y ≤ m) : maxI l = m := by
  cases l with
  | nil => cases hm
  | cons x l =>
    obtain ⟨h1, h2⟩ := foldl_max_le l x
    have up : m ≤ maxI (x :: l) := by
      rcases List.mem_cons.mp hm with e | e
      · rw [e]; exact h1
      · exact h2 m e
    have dn : maxI (x :: l) ≤ m := by
      rcases foldl_max l x with e | e
      · show l.foldl max x ≤ m
        rw [e]; exact hb x List.mem_cons_self
      · exact hb _ (List.mem_cons_of_mem _ e)
    exact Int.le_antisymm dn up
theorem min_mem {l : List Int} {m : Int} (hm : m ∈ l) (hb : ∀ y ∈ l, m ≤ y) : minI l = m := by
  cases l with
  | nil => cases hm
  | cons x l =>
    obtain ⟨h1, h2⟩ := foldl_min_le l x
    have up : minI (x :: l) ≤ m := by
      rcases List.mem_cons.mp hm with e | e
      · rw [e]; exact h1
      · exact h2 m e
    have dn : m ≤ minI (x :: l) := by
      rcases foldl_min l x with e | e
      · show m ≤ l.foldl min x
        rw [e]; exact hb x List.mem_cons_self
      · exact hb _ (List.mem_cons_of_mem _ e)
    exact Int.le_antisymm up dn
theorem cr_maxAny (hc : X.calm = true) : CallR X (.builtin "max") (fun xs H Q => (∃ i j, xs = [.int i, .int j] ∧ Q (.int (if j > i then j else i)) H) ∨ rMax X.K xs H Q) := CallR.or (call_max2 hc) (cr_max hc)
theorem cr_minAny (hc : X.calm = true) : CallR X (.builtin "min") (fun xs H Q => (∃ i j, xs = [.int i, .int j] ∧ Q (.int (if j < i then j else i)) H) ∨ rMin X.K xs H Q) := CallR.or (call_min2 hc) (cr_min hc)
theorem max_ok (m : Bool) : ∀ (w : Wd) (S : Store) (xs : List R) (vs : List V) (E : XK) (Q : VK), SR X.K w S → Rels X.K w xs vs → Hop X.K (Rel X.K) E w Q (biR m .max xs S) →
    ((∃ i j, vs = [.int i, .int j] ∧ Q (.int (if j > i then j else i)) w.H) ∨ rMax X.K vs w.H Q) := by
  intro w S xs vs E Q s r h
  match xs, r, h with
  | [], _, h => exact h.elim
  | [x], r, h =>
    obtain ⟨v, us, e1, r1, r2⟩ := one_of r
    have e2 := nil_of r2
    subst e1 e2
    have hh : Hop X.K (Rel X.K) E w Q (match (itemsL S x).bind intsR with
      | some (x :: xs) => .ok (.dat (.int (maxI (x :: xs)))) S
      | _ => .stuck) := by
      cases x with
      | dat d => cases d <;> exact h
      | _ => exact h
    cases e : itemsL S x with
    | none => rw [e] at hh; exact hh.elim
    | some rs =>
      cases e4 : intsR rs with
      | none =>
        rw [e] at hh
        simp only [Option.bind_some, e4] at hh
        exact hh.elim
      | some ns =>
        rw [e] at hh
        simp only [Option.bind_some, e4] at hh
        cases ns with
        | nil => exact hh.elim
        | cons n ns =>
          obtain ⟨a, ys, e3, q, hz, h2⟩ := items_lst s r1 e
          have e5 := h2.ints e4
          subst e5
          exact .inr ⟨a, n :: ns, by rw [e3], .of q, by simp, fun k hk hb => by rw [← max_mem hk hb]; exact hop_ok hh s rfl⟩
  | [x, y], r, h =>
    obtain ⟨v, us, e1, r1, r2⟩ := one_of r
    obtain ⟨v2, us2, e3, r3, r4⟩ := one_of r2
    have e2 := nil_of r4
    subst e1 e3 e2
    cases x with
    | dat d =>
      cases d with
      | int i =>
        cases y with
        | dat e =>
          cases e with
          | int j =>
            have e3 : v = .int i := r1
            have e4 : v2 = .int j := r3
            subst e3 e4
            have q : Q (.int (max i j)) w.H := hop_ok h s rfl
            refine .inl ⟨i, j, rfl, ?_⟩
            have e : (if j > i then j else i) = max i j := by
              by_cases z : j > i
              · rw [if_pos z]; omega
              · rw [if_neg z]; omega
            rw [e]
            exact q
          | _ => exact h.elim
        | _ => exact h.elim
      | _ => exact h.elim
    | _ => exact h.elim
  | x :: y :: _ :: _, _, h =>
    cases x with
    | dat d =>
      cases d with
      | int i =>
        cases y with
        | dat d => cases d <;> exact h.elim
        | _ => exact h.elim
      | _ => exact h.elim
    | _ => exact h.elim
theorem min_ok (m : Bool) : ∀ (w : Wd) (S : Store) (xs : List R) (vs : List V) (E : XK) (Q : VK), SR X.K w S → Rels X.K w xs vs → Hop X.K (Rel X.K) E w Q (biR m .min xs S) →
    ((∃ i j, vs = [.int i, .int j] ∧ Q (.int (if j < i then j else i)) w.H) ∨ rMin X.K vs w.H Q) := by
  intro w S xs vs E Q s r h
  match xs, r, h with
  | [], _, h => exact h.elim
  | [x], r, h =>
    obtain ⟨v, us, e1, r1, r2⟩ := one_of r
    have e2 := nil_of r2
    subst e1 e2
    have hh : Hop X.K (Rel X.K) E w Q (match (itemsL S x).bind intsR with
      | some (x :: xs) => .ok (.dat (.int (minI (x :: xs)))) S
      | _ => .stuck) := by
      cases x with
      | dat d => cases d <;> exact h
      | _ => exact h
    cases e : itemsL S x with
    | none => rw [e] at hh; exact hh.elim
    | some rs =>
      cases e4 : intsR rs with
      | none =>
        rw [e] at hh
        simp only [Option.bind_some, e4] at hh
        exact hh.elim
      | some ns =>
        rw [e] at hh
        simp only [Option.bind_some, e4] at hh
        cases ns with
        | nil => exact hh.elim
        | cons n ns =>
          obtain ⟨a, ys, e3, q, hz, h2⟩ := items_lst s r1 e
          have e5 := h2.ints e4
          subst e5
          exact .inr ⟨a, n :: ns, by rw [e3], .of q, by simp, fun k hk hb => by rw [← min_mem hk hb]; exact hop_ok hh s rfl⟩
  | [x, y], r, h =>
    obtain ⟨v, us, e1, r1, r2⟩ := one_of r
    obtain ⟨v2, us2, e3, r3, r4⟩ := one_of r2
    have e2 := nil_of r4
    subst e1 e3 e2
    cases x with
    | dat d =>
      cases d with
      | int i =>
        cases y with
        | dat e =>
          cases e with
          | int j =>
            have e3 : v = .int i := r1
            have e4 : v2 = .int j := r3
            subst e3 e4
            have q : Q (.int (min i j)) w.H := hop_ok h s rfl
            refine .inl ⟨i, j, rfl, ?_⟩
            have e : (if j < i then j else i) = min i j := by
              by_cases z : j < i
              · rw [if_pos z]; omega
              · rw [if_neg z]; omega
            rw [e]
            exact q
          | _ => exact h.elim
        | _ => exact h.elim
      | _ => exact h.elim
    | _ => exact h.elim
  | x :: y :: _ :: _, _, h =>
    cases x with
    | dat d =>
      cases d with
      | int i =>
        cases y with
        | dat d => cases d <;> exact h.elim
        | _ => exact h.elim
      | _ => exact h.elim
    | _ => exact h.elim
theorem all_ok (m : Bool) : ∀ (w : Wd) (S : Store) (xs : List R) (vs : List V) (E : XK) (Q : VK), SR X.K w S → Rels X.K w xs vs → Hop X.K (Rel X.K) E w Q (biR m .all xs S) → rAll X.K vs w.H Q := by
  intro w S xs vs E Q s r h
  match xs, r, h with
  | [], _, h => exact h.elim
  | [x], r, h =>
    obtain ⟨v, us, e1, r1, r2⟩ := one_of r
    have e2 := nil_of r2
    subst e1 e2
    have hh : Hop X.K (Rel X.K) E w Q (match (itemsL S x).bind blsR with
      | some xs => .ok (.dat (.bl (xs.all id))) S
      | none => .stuck) := h
    cases e : itemsL S x with
    | none => rw [e] at hh; exact hh.elim
    | some rs =>
      cases e4 : blsR rs with
      | none =>
        rw [e] at hh
        simp only [Option.bind_some, e4] at hh
        exact hh.elim
      | some ns =>
        rw [e] at hh
        simp only [Option.bind_some, e4] at hh
        obtain ⟨a, ys, e3, q, hz, h2⟩ := items_lst s r1 e
        have e5 := h2.bls e4
        subst e5
        exact ⟨a, ns, by rw [e3], .of q, hop_ok hh s rfl⟩
  | _ :: _ :: _, _, h => exact h.elim
theorem list_ok (m : Bool) : ∀ (w : Wd) (S : Store) (xs : List R) (vs : List V) (E : XK) (Q : VK), SR X.K w S → Rels X.K w xs vs → Hop X.K (Rel X.K) E w Q (biR m .list xs S) → (∃ p ys, vs = [.ref p] ∧ (SqL X.K w.H p ys ∨ SqT X.K w.H p ys) ∧ ∀ l, w.H l = none → Q (.ref l) (upd w.H l (.lst ys))) := by
  intro w S xs vs E Q s r h
  match xs, r, h with
  | [], _, h => exact h.elim
  | [x], r, h =>
    obtain ⟨v, us, e1, r1, r2⟩ := one_of r
    have e2 := nil_of r2
    subst e1 e2
    have hh : Hop X.K (Rel X.K) E w Q (match itemsR S x with
      | some xs => mkL m xs S
      | none => .stuck) := h
    cases e : itemsR S x with
    | none => rw [e] at hh; exact hh.elim
    | some rs =>
      rw [e] at hh
      obtain ⟨a, ys, e3, q, hz, h2⟩ := items_sq s r1 e
      exact ⟨a, ys, by rw [e3], q, fun l hl => mkL_ok s hz h2 hh l hl⟩
  | _ :: _ :: _, _, h => exact h.elim
theorem tuple_ok (m : Bool) : ∀ (w : Wd) (S : Store) (xs : List R) (vs : List V) (E : XK) (Q : VK), SR X.K w S → Rels X.K w xs vs → Hop X.K (Rel X.K) E w Q (biR m .tuple xs S) →
    (∃ p ys, vs = [.ref p] ∧ ((SqL X.K w.H p ys ∧ ∀ l, w.H l = none → Q (.ref l) (upd w.H l (.tup ys))) ∨ (SqT X.K w.H p ys ∧ Q (.ref p) w.H))) := by
  intro w S xs vs E Q s r h
  match xs, r, h with
  | [], _, h => exact h.elim
  | [x], r, h =>
    obtain ⟨v, us, e1, r1, r2⟩ := one_of r
    have e2 := nil_of r2
    subst e1 e2
    have hh : Hop X.K (Rel X.K) E w Q (if isTup S x = true then .ok x S else (match itemsR S x with
      | some xs => mkT xs S
      | none => .stuck)) := h
    by_cases ht : isTup S x = true
    · rw [if_pos ht] at hh
      have it : ∃ rs, itemsR S x = some rs := by
        cases x with
        | dat d => cases d with
          | tup l => exact ⟨_, rfl⟩
          | _ => cases ht
        | own k =>
          have ht' : (match S[k]? with
            | some (.tup _) => true
            | _ => false) = true := ht
          cases e : S[k]? with
          | none => rw [e] at ht'; cases ht'
          | some c =>
            rw [e] at ht'
            cases c with
            | tup rs => exact ⟨rs, by unfold itemsR; simp only [e]⟩
            | _ => cases ht'
        | exc c ns l => cases ht
      obtain ⟨rs, e⟩ := it
      obtain ⟨a, ys, e3, q, hz, h2⟩ := items_ok s r1 e
      have q2 : w.H a = some (.tup ys) := by
        rcases q with q | q
        · exfalso
          cases x with
          | dat d => cases d with
            | tup l =>
              obtain ⟨b, us, e4, _, h3, _⟩ := r1
              rw [e3] at e4
              cases e4
              rw [q] at h3
              cases h3
            | _ => cases ht
          | own k =>
            have ht' : (match S[k]? with
              | some (.tup _) => true
              | _ => false) = true := ht
            obtain ⟨hk, e4⟩ := r1
            obtain ⟨c, hc, hr⟩ := s.get hk
            rw [hc] at ht'
            rw [e3] at e4
            cases e4
            cases c with
            | tup rs =>
              obtain ⟨us, h3, _⟩ := hr
              rw [q] at h3
              cases h3
            | _ => cases ht'
          | exc c ns l => cases ht
        · exact q
      exact ⟨a, ys, by rw [e3], .inr ⟨.of q2, hop_ok hh s (by rw [← e3]; exact r1)⟩⟩
    · rw [if_neg ht] at hh
      cases e : itemsR S x with
      | none => rw [e] at hh; exact hh.elim
      | some rs =>
        rw [e] at hh
        have e0 : itemsL S x = some rs := by unfold itemsL; rw [if_neg ht]; exact e
        obtain ⟨a, ys, e3, q, hz, h2⟩ := items_lst s r1 e0
        exact ⟨a, ys, by rw [e3], .inl ⟨.of q, fun l hl => mkT_ok s hz h2 hh l hl⟩⟩
  | _ :: _ :: _, _, h => exact h.elim
end
end MP
set_option Elab.async false
set_option linter.all false
set_option maxRecDepth 100000
set_option maxHeartbeats 4000000
/-! MPCall: fields, methods of lists, isinstance, calls. -/
namespace MP
open PySem PySem.Spec PyProof.Rows L2
section
variable {K : PySem.W.Frag} {w w' : Wd}
theorem look_dat : ∀ {ns : List Str} {l : List D} {fs : List (Str × V)} {f : Str} {d : D}, lookA f ns l = some d → fs.map (·.1) = ns → Reps K w l (fs.map (·.2)) → ∃ v, fs.lookup f = some v ∧ Rep K w d v
  | [], l, fs, f, d, h, _, _ => by
    cases l <;> cases h
  | n :: ns, [], fs, f, d, h, _, _ => by cases h
  | n :: ns, x :: l, fs, f, d, h, e, r => by
    cases fs with
    | nil => cases e
    | cons q fs =>
      obtain ⟨g, v⟩ := q
      rw [List.map_cons] at e r
      injection e with e1 e2
      obtain ⟨v', u, e3, r1, r2⟩ := r
      injection e3 with e4 e5
      subst e1 e4 e5
      have h' : (if g = f then some x else lookA f ns l) = some d := h
      rw [lookup_put]
      by_cases z : g = f
      · rw [if_pos z] at h'
        cases h'
        rw [if_pos z.symm]
        exact ⟨v, rfl, r1⟩
      · rw [if_neg z] at h'
        rw [if_neg fun q => z q.symm]
        exact look_dat h' e2 r2
theorem look_rel : ∀ {ns : List Str} {l : List R} {fs : List (Str × V)} {f : Str} {d : R}, lookA f ns l = some d → fs.map (·.1) = ns → Rels K w l (fs.map (·.2)) → ∃ v, fs.lookup f = some v ∧ Rel K w d v
  | [], l, fs, f, d, h, _, _ => by
    cases l <;> cases h
  | n :: ns, [], fs, f, d, h, _, _ => by cases h
  | n :: ns, x :: l, fs, f, d, h, e, r => by
    cases fs with
    | nil => cases e
    | cons q fs =>
      obtain ⟨g, v⟩ := q
      rw [List.map_cons] at e r
      injection e with e1 e2
      obtain ⟨v', u, e3, r1, r2⟩ := r
      injection e3 with e4 e5
      subst e1 e4 e5
      have h' : (if g = f then some x else lookA f ns l) = some d := h
      rw [lookup_put]
      by_cases z : g = f
      · rw [if_pos z] at h'
        cases h'
        rw [if_pos z.symm]
        exact ⟨v, rfl, r1⟩
      · rw [if_neg z] at h'
        rw [if_neg fun q => z q.symm]
        exact look_rel h' e2 r2
end
section
variable {X : Cx} {xr : XR} {W : WX} {a b e : Expr} {es : List Expr} {ma mb : MP.Env → M R} {ms : MP.Env → M (List R)} {pos p p0 p1 p2 : Pos}
theorem attr_ok {c f : Str} (cl : Cls X.K (He.ga X.K c)) (na : NoAttr X.K (He.ga X.K c) f) : ∀ (w : Wd) (S : Store) (x : R) (u : V) (E : XK) (Q : VK), SR X.K w S → Rel X.K w x u → Hop X.K (Rel X.K) E w Q (attrR x c f S) →
    (∃ a C dx fs v, u = .ref a ∧ w.H a = some (.ins C dx fs) ∧ Cls X.K C ∧ NoAttr X.K C f ∧ fs.lookup f = some v ∧ Q v w.H) := by
  intro w S x u E Q s r h
  cases x with
  | dat d =>
    cases d with
    | obj c' ns l =>
      obtain ⟨a, dx, fs, e1, _, h1, h2, h3⟩ := r
      have hh : Hop X.K (Rel X.K) E w Q (if c' = c then (match lookA f ns l with
        | some d => .ok (.dat d) S
        | none => .stuck) else .stuck) := h
      by_cases z : c' = c
      · rw [if_pos z] at hh
        subst z
        cases q : lookA f ns l with
        | none => rw [q] at hh; exact hh.elim
        | some d =>
          rw [q] at hh
          obtain ⟨v, e2, e3⟩ := look_dat q h2 h3
          exact ⟨a, _, dx, fs, v, e1, h1, cl, na, e2, hop_ok hh s e3⟩
      · rw [if_neg z] at hh
        exact hh.elim
    | _ => exact h.elim
  | own k =>
    obtain ⟨hk, e1⟩ := r
    obtain ⟨cc, hc, hr⟩ := s.get hk
    unfold attrR at h
    cases cc with
    | obj c' ns rs =>
      obtain ⟨dx, fs, h1, h2, h3⟩ := hr
      simp only [hc] at h
      by_cases z : c' = c
      · rw [if_pos z] at h
        subst z
        cases q : lookA f ns rs with
        | none => rw [q] at h; exact h.elim
        | some d =>
          rw [q] at h
          obtain ⟨v, e2, e3⟩ := look_rel q h2 h3
          exact ⟨_, _, dx, fs, v, e1, h1, cl, na, e2, hop_ok h s e3⟩
      · rw [if_neg z] at h
        exact h.elim
    | lst rs => simp only [hc] at h; exact h.elim
    | tup rs => simp only [hc] at h; exact h.elim
  | exc c ns l => exact r.elim
theorem e_attr {c f : Str} (cl : Cls X.K (He.ga X.K c)) (na : NoAttr X.K (He.ga X.K c) f) (hb : attributeBase a f X.env (eval a X.env) = eval a X.env) (ha : EOk X xr W a ma) : EOk X xr W (.Attribute a f pos) (fun ρ => M.bind (ma ρ) fun x => attrR x c f) := by
  obtain ⟨ta, pa, qa⟩ := ha
  exact ⟨_, pe_fld pa hb, fun σ w S ρ Q er sr h => qa σ w S ρ _ er sr (h.bind fun w1 x u S1 e1 s1 rx h1 => attr_ok cl na w1 S1 x u _ Q s1 rx h1)⟩
/-! ### gcd, lcm -/
theorem e_gcd (hx : xr.Ok) {x : Str} (hg : Gl X x) (hm : X.mg x = some (.builtin "math.gcd")) (hdb : (x == ("__debug__" : Str)) = false) (he : starEach [a, b] X.env = (false, eval a X.env) :: starEach [b] X.env) (he2 : starEach [b] X.env = (false, eval b X.env) :: starEach [] X.env)
    (hpl : (backTo pos (starEach [b] X.env)).any (·.1) = false) (ha : EOk X xr W a ma) (hb : EOk X xr W b mb) : EOk X xr W (.Call (.Name x p0) [a, b] [] pos) (fun ρ => M.bind (ma ρ) fun x => M.bind (mb ρ) fun y => gcdR false x y) := by
  obtain ⟨ta, pa, qa⟩ := ha
  obtain ⟨tb, pb, qb⟩ := hb
  refine ⟨_, pe_callBfun cr_gcd hg hm (pa_cons pa (pa_cons pb pa_nil he2) he) hdb he hpl, fun σ w S ρ Q er sr h => qa σ w S ρ _ er sr (h.bind fun w1 x u S1 e1 s1 rx h1 => qb σ w1 S1 ρ _ (er.ext hx e1) s1 (h1.bind fun w2 y v S2 e2 s2 ry h2 => ?_))⟩
  cases x with
  | dat d =>
    cases d with
    | int i =>
      cases y with
      | dat d =>
        cases d with
        | int j =>
          have e3 : u = .int i := rx
          have e4 : v = .int j := ry
          subst e3 e4
          exact ⟨i, j, rfl, hop_ok h2 s2 rfl⟩
        | _ => exact h2.elim
      | _ => exact h2.elim
    | _ => exact h2.elim
  | _ => exact h2.elim
theorem e_lcm (hx : xr.Ok) {x : Str} (hg : Gl X x) (hm : X.mg x = some (.builtin "math.lcm")) (hdb : (x == ("__debug__" : Str)) = false) (he : starEach [a, b] X.env = (false, eval a X.env) :: starEach [b] X.env) (he2 : starEach [b] X.env = (false, eval b X.env) :: starEach [] X.env)
    (hpl : (backTo pos (starEach [b] X.env)).any (·.1) = false) (ha : EOk X xr W a ma) (hb : EOk X xr W b mb) : EOk X xr W (.Call (.Name x p0) [a, b] [] pos) (fun ρ => M.bind (ma ρ) fun x => M.bind (mb ρ) fun y => gcdR true x y) := by
  obtain ⟨ta, pa, qa⟩ := ha
  obtain ⟨tb, pb, qb⟩ := hb
  refine ⟨_, pe_callBfun cr_lcm hg hm (pa_cons pa (pa_cons pb pa_nil he2) he) hdb he hpl, fun σ w S ρ Q er sr h => qa σ w S ρ _ er sr (h.bind fun w1 x u S1 e1 s1 rx h1 => qb σ w1 S1 ρ _ (er.ext hx e1) s1 (h1.bind fun w2 y v S2 e2 s2 ry h2 => ?_))⟩
  cases x with
  | dat d =>
    cases d with
    | int i =>
      cases y with
      | dat d =>
        cases d with
        | int j =>
          have e3 : u = .int i := rx
          have e4 : v = .int j := ry
          subst e3 e4
          have hh : Hop X.K (Rel X.K) (WE W σ) w2 Q ((if decide (i.natAbs.log2 < 9000 ∧ j.natAbs.log2 < 9000) then .ok (.dat (.int (Nat.lcm i.natAbs j.natAbs))) S2 else .stuck : Res R)) := h2
          by_cases z : decide (i.natAbs.log2 < 9000 ∧ j.natAbs.log2 < 9000) = true
          · rw [if_pos z] at hh
            have z2 := of_decide_eq_true z
            exact ⟨i, j, rfl, z2.1, z2.2, hop_ok hh s2 rfl⟩
          · rw [if_neg z] at hh
            exact hh.elim
        | _ => exact h2.elim
      | _ => exact h2.elim
    | _ => exact h2.elim
  | _ => exact h2.elim
/-! ### methods of lists -/
theorem lm_at {K : PySem.W.Frag} {w : Wd} {S : Store} {x : R} {u : V} {E : XK} {Q : VK} {n : Lm} {rs : List R} (s : SR K w S) (r : Rel K w x u) (h : Hop K (Rel K) E w Q (lmR x n rs S)) :
    ∃ k xs vs, x = .own k ∧ k < w.n ∧ u = .ref (w.p k) ∧ S[k]? = some (.lst xs) ∧ w.H (w.p k) = some (.lst vs) ∧ vs.length ≤ sizeLine ∧ Rels K w xs vs := by
  cases x with
  | dat d => exact h.elim
  | exc c ns l => exact h.elim
  | own k =>
    obtain ⟨hk, e1⟩ := r
    obtain ⟨c, hc, hr⟩ := s.get hk
    unfold lmR at h
    cases c with
    | lst xs =>
      obtain ⟨vs, h1, hz, h2⟩ := hr
      exact ⟨k, xs, vs, rfl, hk, e1, hc, h1, hz, h2⟩
    | tup xs => simp only [hc] at h; exact h.elim
    | obj c ns xs => simp only [hc] at h; exact h.elim
theorem put_lst {K : PySem.W.Frag} {w : Wd} {S : Store} {k : Nat} {rs : List R} {vs : List V} (s : SR K w S) (hk : k < w.n) (hz : vs.length ≤ sizeLine) (h : Rels K w rs vs) : SR K (w.put k (.lst vs)) (S.set k (.lst rs)) :=
  s.put hk ⟨vs, upd_same, hz, h.ext (ext_put s hk)⟩
theorem lm_recv {K : PySem.W.Frag} {β : Type} {rel : Wd → Unit → β → Prop} {w : Wd} {S : Store} {x : R} {u : V} {E : XK} {Q : β → Hp → Prop} (s : SR K w S) (r : Rel K w x u) (h : Hop K rel E w Q (lmRecv x S)) : tyV K "list" u w.H := by
  unfold lmRecv at h
  cases x with
  | dat d => exact h.elim
  | exc c ns l => exact h.elim
  | own k =>
    obtain ⟨hk, e1⟩ := r
    obtain ⟨c, hc, hr⟩ := s.get hk
    subst e1
    cases c with
    | lst xs =>
      obtain ⟨vs, h1, _⟩ := hr
      exact .inl ⟨rfl, vs, .of h1⟩
    | tup xs => simp only [hc] at h; exact h.elim
    | obj c ns xs => simp only [hc] at h; exact h.elim
theorem lm_next {γ δ : Type} {K : PySem.W.Frag} {rel : Wd → γ → δ → Prop} {w : Wd} {S : Store} {x : R} {u : V} {E : XK} {Q : δ → Hp → Prop} {f : Unit → M γ} (s : SR K w S) (r : Rel K w x u) (h : Hop K rel E w Q (M.bind (lmRecv x) f S)) : tyV K "list" u w.H ∧ Hop K rel E w Q (f () S) := by
  have q := h.bind (r1 := fun _ (_ : Unit) (_ : Unit) => True) (Q1 := fun _ H => True) fun _ _ _ _ _ _ _ _ => trivial
  refine ⟨lm_recv s r q, ?_⟩
  unfold M.bind lmRecv at h
  cases x with
  | dat d => exact h.elim
  | exc c ns l => exact h.elim
  | own k =>
    cases e : S[k]? with
    | none => simp only [e] at h; exact h.elim
    | some c =>
      cases c with
      | lst xs => simp only [e] at h; exact h
      | tup xs => simp only [e] at h; exact h.elim
      | obj c ns xs => simp only [e] at h; exact h.elim
theorem seqIndex_zero (n : Nat) : seqIndex? 0 (n + 1) = some 0 := by
  unfold seqIndex?
  have h1 : ¬ ((0 : Int) < 0) := by omega
  simp only [if_neg h1]
  split
  · rfl
  · rename_i z
    exact absurd (by rw [Bool.and_eq_true, decide_eq_true_iff, decide_eq_true_iff]; omega) z
def LmOk (K : PySem.W.Frag) (n : Lm) (r : V → List V → Hp → VK → Prop) : Prop := ∀ (w : Wd) (S : Store) (x : R) (u : V) (rs : List R) (vs : List V) (E : XK) (Q : VK), SR K w S → Rel K w x u → Rels K w rs vs → Hop K (Rel K) E w Q (lmR x n rs S) → r u vs w.H Q
theorem append_ok {K : PySem.W.Frag} : ∀ (w : Wd) (S : Store) (x : R) (u : V) (rs : List R) (vs : List V) (E : XK) (Q : VK), SR K w S → Rel K w x u → Rels K w rs vs → Hop K (Rel K) E w Q (lmR x .append rs S) → rAppend u vs w.H Q := by
  intro w S x u rs ws E Q s r rr h
  obtain ⟨k, xs, vs, ex, hk, eu, hc, h3, hz, h4⟩ := lm_at s r h
  subst ex
  unfold lmR at h
  simp only [hc] at h
  match rs, rr, h with
  | [], _, h => exact h.elim
  | [y], ⟨v, r2, e, ry, e2⟩, h =>
    have e2' : r2 = [] := e2
    subst e2' e
    dsimp only at h
    by_cases z : small xs.length = true
    · rw [if_pos z] at h
      have l1 := h4.length
      have l2 := line_small z
      have l3 := line_eq
      refine ⟨_, vs, v, eu, rfl, h3, by omega, ?_⟩
      exact h (w.put k (.lst (vs ++ [v]))) .non (ext_put s hk) (put_lst s hk (by rw [List.length_append]; simp only [List.length_cons, List.length_nil]; omega) (h4.append (.one ry))) rfl
    · rw [if_neg z] at h
      exact h.elim
  | _ :: _ :: _, _, h => exact h.elim
theorem pop_ok {K : PySem.W.Frag} : ∀ (w : Wd) (S : Store) (x : R) (u : V) (E : XK) (Q : VK), SR K w S → Rel K w x u → Hop K (Rel K) E w Q (lmR x .pop [] S) → rPop u [] w.H Q := by
  intro w S x u E Q s r h
  obtain ⟨k, xs, vs, ex, hk, eu, hc, h3, hz, h4⟩ := lm_at s r h
  subst ex
  unfold lmR at h
  simp only [hc] at h
  have l1 := h4.length
  cases e : xs[xs.length - 1]? with
  | none => simp only [e] at h; exact h.elim
  | some y =>
    simp only [e] at h
    obtain ⟨v, e2, ry⟩ := h4.get e
    refine ⟨_, vs, v, eu, rfl, h3, by rw [← l1]; exact e2, ?_⟩
    exact h (w.put k (.lst vs.dropLast)) v (ext_put s hk) (put_lst s hk (by rw [List.length_dropLast]; omega) h4.dropLast) (ry.ext (ext_put s hk))
theorem popAt_ok {K : PySem.W.Frag} : ∀ (w : Wd) (S : Store) (x : R) (u : V) (rs : List R) (ws : List V) (E : XK) (Q : VK), SR K w S → Rel K w x u → rs ≠ [] → Rels K w rs ws → Hop K (Rel K) E w Q (lmR x .pop rs S) → rPopAt u ws w.H Q := by
  intro w S x u rs ws E Q s r ne rr h
  obtain ⟨k, xs, vs, ex, hk, eu, hc, h3, hz, h4⟩ := lm_at s r h
  subst ex
  unfold lmR at h
  simp only [hc] at h
  cases rs with
  | nil => exact (ne rfl).elim
  | cons y ys =>
    cases ys with
    | cons y2 ys =>
      cases y with
      | dat d => cases d <;> exact h.elim
      | own k => exact h.elim
      | exc c ns l => exact h.elim
    | nil =>
      obtain ⟨v, r2, e, ry, e2⟩ := rr
      have e2' : r2 = [] := e2
      subst e2' e
      cases y with
      | own k => exact h.elim
      | exc c ns l => exact h.elim
      | dat d =>
        cases d with
        | int i =>
          have ey : v = .int i := ry
          subst ey
          dsimp only at h
          by_cases z : i = 0
          · rw [if_pos z] at h
            subst z
            cases xs with
            | nil => exact h.elim
            | cons y ys =>
              obtain ⟨v, vr, e, q1, q2⟩ := h4
              subst e
              have hz' : vr.length + 1 ≤ sizeLine := hz
              refine ⟨_, _, 0, 0, v, eu, rfl, h3, by decide, by decide, ?_, rfl, ?_⟩
              · exact seqIndex_zero vr.length
              · exact h (w.put k (.lst vr)) v (ext_put s hk) (put_lst s hk (by omega) q2) (q1.ext (ext_put s hk))
          · rw [if_neg z] at h
            exact h.elim
        | _ => exact h.elim
theorem e_lm {n : Str} {m : Lm} {id : String} {r : V → List V → Hp → VK → Prop} (hx : xr.Ok) (slot : Slot "list" n id) (hty : typeOf (.builtin id) = pure (.type "method_descriptor")) (hm : MtR X id r)
    (hr : ∀ (w : Wd) (S : Store) (x : R) (u : V) (rs : List R) (vs : List V) (E : XK) (Q : VK), SR X.K w S → Rel X.K w x u → rs ≠ [] → Rels X.K w rs vs → Hop X.K (Rel X.K) E w Q (lmR x m rs S) → r u vs w.H Q)
    (hne : ∀ ρ S r S', ms ρ S = .ok r S' → r ≠ [])
    (hbase : attributeBase a n X.env (eval a X.env) = eval a X.env)
    (hfew : ((backTo pos (starEach (b :: es) X.env)).all (fun x => !x.1) && (backToKw pos (keywordEach [] X.env)).all (fun x => x.1.isSome) && decide ((b :: es).length + ([] : List Keyword).length + (if ([] : List Keyword).isEmpty then 0 else 1) < 30)) = true)
    (hline : (p1.endLine == pos.line) = true) (hs : starEach (b :: es) X.env = (false, eval b X.env) :: starEach es X.env) (hplain : (backTo pos (starEach es X.env)).any (·.1) = false) (ha : EOk X xr W a ma) (hb : AOk X xr W (b :: es) ms) :
    EOk X xr W (.Call (.Attribute a n p1) (b :: es) [] pos) (fun ρ => M.bind (ma ρ) fun x => M.bind (lmRecv x) fun _ => M.bind (ms ρ) fun ys => lmR x m ys) := by
  obtain ⟨ta, pa, qa⟩ := ha
  obtain ⟨tb, pb, qb⟩ := hb
  refine ⟨_, pe_bm PySem.F.plainAttrs_list slot hty hm pa pb hbase hfew hline hs hplain, fun σ w S ρ Q er sr h => qa σ w S ρ _ er sr (h.bind fun w1 x u S1 e1 s1 rx h1 => ?_)⟩
  obtain ⟨ty, h2⟩ := lm_next s1 rx h1
  refine ⟨ty, qb σ w1 S1 ρ _ (er.ext hx e1) s1 ?_⟩
  unfold M.bind at h2
  cases e : ms ρ S1 with
  | stuck => simp only [e] at h2; exact h2.elim
  | exc c ns l S2 => simp only [e] at h2; exact h2
  | ok rs S2 =>
    simp only [e] at h2
    exact fun w2 vs e2 s2 ry => hr w2 S2 x u rs vs _ Q s2 (rx.ext e2) (hne _ _ _ _ e) ry (h2.ext e2)
theorem e_lm0 {n : Str} {m : Lm} {id : String} {r : V → List V → Hp → VK → Prop} (slot : Slot "list" n id) (hty : typeOf (.builtin id) = pure (.type "method_descriptor")) (hm : MtR X id r)
    (hr : ∀ (w : Wd) (S : Store) (x : R) (u : V) (E : XK) (Q : VK), SR X.K w S → Rel X.K w x u → Hop X.K (Rel X.K) E w Q (lmR x m [] S) → r u [] w.H Q)
    (hbase : attributeBase a n X.env (eval a X.env) = eval a X.env)
    (hline : (p1.endLine == pos.line) = true) (ha : EOk X xr W a ma) :
    EOk X xr W (.Call (.Attribute a n p1) [] [] pos) (fun ρ => M.bind (ma ρ) fun x => M.bind (lmRecv x) fun _ => lmR x m []) := by
  obtain ⟨ta, pa, qa⟩ := ha
  refine ⟨_, pe_bm0 PySem.F.plainAttrs_list slot hty hm pa hbase hline, fun σ w S ρ Q er sr h => qa σ w S ρ _ er sr (h.bind fun w1 x u S1 e1 s1 rx h1 => ?_)⟩
  obtain ⟨ty, h2⟩ := lm_next s1 rx h1
  exact ⟨ty, hr w1 S1 x u _ Q s1 rx h2⟩
end
end MP
set_option Elab.async false
set_option linter.all false
set_option maxRecDepth 100000
set_option maxHeartbeats 4000000
/-! MPCall2: and, or, if; isinstance; calls of the text's own defs and classes. -/
namespace MP
open PySem PySem.Spec PyProof.Rows L2
def WOk (X : Cx) (xr : XR) (W : WX) (e : Expr) (m : MP.Env → M Bool) : Prop :=
  ∃ t, PW X e t ∧ ∀ σ w S ρ Q, EnvR X.K xr w σ ρ → SR X.K w S → Hop X.K (fun _ b v => b = v) (WE W σ) w Q (m ρ S) → t σ w.H Q
theorem WOk.t {X : Cx} {xr : XR} {W : WX} {e : Expr} {m : MP.Env → M Bool} (h : WOk X xr W e m) : TOk X xr W e m := by
  obtain ⟨t, p, q⟩ := h
  exact ⟨t, p.pt, q⟩
theorem hop_truB {K : PySem.W.Frag} {E : XK} {w : Wd} {Q : Bool → Hp → Prop} {S : Store} {m : M R} {P : V → Hp → Prop} (h : Hop K (fun _ b v => b = v) E w Q (M.bind m truB S)) (hp : ∀ b (w' : Wd), Q b w'.H → P (.bl b) w'.H) : Hop K (Rel K) E w P (m S) := by
  refine h.bind fun w1 r v S1 e1 s1 rr h1 => ?_
  unfold truB at h1
  cases r with
  | own k => exact h1.elim
  | exc c ns l => exact h1.elim
  | dat d =>
    cases d with
    | bl b =>
      have e : v = .bl b := rr
      subst e
      exact hp b w1 (h1 w1 b (Ext.refl _) s1 rfl)
    | _ => exact h1.elim
theorem truB_bl (b : Bool) : M.bind (M.pure (.dat (.bl b))) truB = M.pure b := rfl
section
variable {X : Cx} {xr : XR} {W : WX} {a b c e o : Expr} {es rest : List Expr} {ma mb mc : MP.Env → M R} {mt : MP.Env → M Bool} {ms : MP.Env → M (List R)} {pos p p0 p1 p2 : Pos}
/-! ### and, or -/
theorem w_one {op : BoolOp} (ha : TOk X xr W a mt) : WOk X xr W (.BoolOp op [a] pos) mt := by
  obtain ⟨t, pt, q⟩ := ha
  cases op with
  | And => exact ⟨t, pw_and1 pt, q⟩
  | Or => exact ⟨t, pw_or1 pt, q⟩
theorem w_and (hx : xr.Ok) (ha : TOk X xr W a mt) (hb : WOk X xr W (.BoolOp .And (b :: rest) pos) (fun ρ => M.bind (mb ρ) truB)) :
    WOk X xr W (.BoolOp .And (a :: b :: rest) pos) (fun ρ => M.bind (M.bind (mt ρ) fun t => if t = true then mb ρ else M.pure (.dat (.bl false))) truB) := by
  obtain ⟨t, pa, qa⟩ := ha
  obtain ⟨u, pb, qb⟩ := hb
  refine ⟨_, pw_and pa pb, fun σ w S ρ Q er sr h => ?_⟩
  dsimp only at h
  rw [bind_assoc] at h
  refine qa σ w S ρ _ er sr (h.bind fun w1 d v S1 e1 s1 rd h1 => ?_)
  have e : d = v := rd
  subst e
  cases d with
  | true => exact qb σ w1 S1 ρ Q (er.ext hx e1) s1 h1
  | false => exact h1 w1 false (Ext.refl _) s1 rfl
theorem w_or (hx : xr.Ok) (ha : TOk X xr W a mt) (hb : WOk X xr W (.BoolOp .Or (b :: rest) pos) (fun ρ => M.bind (mb ρ) truB)) :
    WOk X xr W (.BoolOp .Or (a :: b :: rest) pos) (fun ρ => M.bind (M.bind (mt ρ) fun t => if t = true then M.pure (.dat (.bl true)) else mb ρ) truB) := by
  obtain ⟨t, pa, qa⟩ := ha
  obtain ⟨u, pb, qb⟩ := hb
  refine ⟨_, pw_or pa pb, fun σ w S ρ Q er sr h => ?_⟩
  dsimp only at h
  rw [bind_assoc] at h
  refine qa σ w S ρ _ er sr (h.bind fun w1 d v S1 e1 s1 rd h1 => ?_)
  have e : d = v := rd
  subst e
  cases d with
  | true => exact h1 w1 true (Ext.refl _) s1 rfl
  | false => exact qb σ w1 S1 ρ Q (er.ext hx e1) s1 h1
/-- as values -/
theorem e_one {op : BoolOp} (ha : EOk X xr W a ma) : EOk X xr W (.BoolOp op [a] pos) ma := by
  obtain ⟨t, pt, q⟩ := ha
  exact ⟨t, pe_one pt, q⟩
theorem e_and (hx : xr.Ok) (ha : EOk X xr W a ma) (hb : EOk X xr W (.BoolOp .And (b :: rest) pos) mb) :
    EOk X xr W (.BoolOp .And (a :: b :: rest) pos) (fun ρ => M.bind (M.bind (ma ρ) truB) fun t => if t = true then mb ρ else M.pure (.dat (.bl false))) := by
  obtain ⟨t, pa, qa⟩ := ha
  obtain ⟨u, pb, qb⟩ := hb
  refine ⟨_, pe_and pa pb, fun σ w S ρ Q er sr h => ?_⟩
  refine qa σ w S ρ _ er sr (hop_truB (Q := fun d H => if d = true then u σ H Q else Q (.bl false) H) (h.bind fun w1 d v S1 e1 s1 rd h1 => ?_) fun d w1 q => ⟨d, rfl, q⟩)
  have e : d = v := rd
  subst e
  cases d with
  | true => exact qb σ w1 S1 ρ Q (er.ext hx e1) s1 h1
  | false => exact h1 w1 _ (Ext.refl _) s1 rfl
theorem e_or (hx : xr.Ok) (ha : EOk X xr W a ma) (hb : EOk X xr W (.BoolOp .Or (b :: rest) pos) mb) :
    EOk X xr W (.BoolOp .Or (a :: b :: rest) pos) (fun ρ => M.bind (M.bind (ma ρ) truB) fun t => if t = true then M.pure (.dat (.bl true)) else mb ρ) := by
  obtain ⟨t, pa, qa⟩ := ha
  obtain ⟨u, pb, qb⟩ := hb
  refine ⟨_, pe_or pa pb, fun σ w S ρ Q er sr h => ?_⟩
  refine qa σ w S ρ _ er sr (hop_truB (Q := fun d H => if d = true then Q (.bl true) H else u σ H Q) (h.bind fun w1 d v S1 e1 s1 rd h1 => ?_) fun d w1 q => ⟨d, rfl, q⟩)
  have e : d = v := rd
  subst e
  cases d with
  | true => exact h1 w1 _ (Ext.refl _) s1 rfl
  | false => exact qb σ w1 S1 ρ Q (er.ext hx e1) s1 h1
theorem e_not (ha : EOk X xr W a ma) : EOk X xr W (.UnaryOp .Not a pos) (fun ρ => M.bind (M.bind (ma ρ) truB) fun t => M.pure (.dat (.bl (!t)))) := by
  obtain ⟨t, pa, qa⟩ := ha
  refine ⟨_, pe_not pa, fun σ w S ρ Q er sr h => ?_⟩
  refine qa σ w S ρ _ er sr (hop_truB (Q := fun d H => Q (.bl (!d)) H) (h.bind fun w1 d v S1 e1 s1 rd h1 => ?_) fun d w1 q => ⟨d, rfl, q⟩)
  have e : d = v := rd
  subst e
  exact h1 w1 _ (Ext.refl _) s1 rfl
theorem e_ifx (hx : xr.Ok) (hc : TOk X xr W c mt) (ha : EOk X xr W a ma) (hb : EOk X xr W b mb) : EOk X xr W (.IfExp c a b pos) (fun ρ => M.bind (mt ρ) fun t => if t = true then ma ρ else mb ρ) := by
  obtain ⟨t, pc, qc⟩ := hc
  obtain ⟨ta, pa, qa⟩ := ha
  obtain ⟨tb, pb, qb⟩ := hb
  refine ⟨_, pe_ifExp pc pa pb, fun σ w S ρ Q er sr h => qc σ w S ρ _ er sr (h.bind fun w1 d v S1 e1 s1 rd h1 => ?_)⟩
  have e : d = v := rd
  subst e
  cases d with
  | true => exact qa σ w1 S1 ρ Q (er.ext hx e1) s1 h1
  | false => exact qb σ w1 S1 ρ Q (er.ext hx e1) s1 h1
theorem t_isN {n : Bool} {k : Nat} (ha : EOk X xr W a ma) : TOk X xr W (.Compare a [if n then .IsNot else .Is] [.Constant .none k p1] pos) (fun ρ => M.bind (M.bind (ma ρ) fun x => match x with
    | .dat .non => M.pure (.dat (.bl (!n)))
    | .dat _ => M.pure (.dat (.bl n))
    | _ => M.stuck) truB) := by
  obtain ⟨ta, pa, qa⟩ := ha
  have key : ∀ (x : R) (v : V) (w : Wd) (S : Store) (E : XK) (Q : Bool → Hp → Prop), SR X.K w S → Rel X.K w x v → Hop X.K (fun _ b v => b = v) E w Q (M.bind (match x with
    | .dat .non => M.pure (.dat (.bl (!n)))
    | .dat _ => M.pure (.dat (.bl n))
    | _ => M.stuck : M R) truB S) → Q (if n then !decide (v = .non) else decide (v = .non)) w.H := by
    intro x v w S E Q s r h
    cases x with
    | own k => exact h.elim
    | exc c ns l => exact h.elim
    | dat d =>
      have nn : ∀ {u : V}, d ≠ .non → v = u → u ≠ .non → Q (if n then !decide (v = .non) else decide (v = .non)) w.H := by
        intro u hd e hu
        subst e
        have q : Q n w.H := by cases d <;> first | exact (hd rfl).elim | exact h w n (Ext.refl _) s rfl
        rw [decide_eq_false hu]
        cases n <;> exact q
      cases d with
      | non =>
        have e : v = .non := r
        subst e
        have q : Q (!n) w.H := h w (!n) (Ext.refl _) s rfl
        cases n <;> exact q
      | bl b => exact nn (fun z => nomatch z) (show v = .bl b from r) (fun z => nomatch z)
      | int b => exact nn (fun z => nomatch z) (show v = .int b from r) (fun z => nomatch z)
      | str b => exact nn (fun z => nomatch z) (show v = .str b from r) (fun z => nomatch z)
      | tup l => obtain ⟨p, vs, e, _⟩ := r; exact nn (fun z => nomatch z) e (fun z => nomatch z)
      | lst l => obtain ⟨p, vs, e, _⟩ := r; exact nn (fun z => nomatch z) e (fun z => nomatch z)
      | slst l => obtain ⟨p, vs, e, _⟩ := r; exact nn (fun z => nomatch z) e (fun z => nomatch z)
      | obj c ns l => obtain ⟨p, dx, fs, e, _⟩ := r; exact nn (fun z => nomatch z) e (fun z => nomatch z)
  cases n with
  | false =>
    refine ⟨_, pt_cmp (pc_isN pa), fun σ w S ρ Q er sr h => ?_⟩
    dsimp only at h
    rw [bind_assoc] at h
    exact qa σ w S ρ _ er sr (h.bind fun w1 x v S1 e1 s1 rx h1 => ⟨_, rfl, key x v w1 S1 _ Q s1 rx h1⟩)
  | true =>
    refine ⟨_, pt_cmp (pc_notN pa), fun σ w S ρ Q er sr h => ?_⟩
    dsimp only at h
    rw [bind_assoc] at h
    exact qa σ w S ρ _ er sr (h.bind fun w1 x v S1 e1 s1 rx h1 => ⟨_, rfl, key x v w1 S1 _ Q s1 rx h1⟩)
/-! ### isinstance of a built-in type -/
theorem ty_at {K : PySem.W.Frag} {w : Wd} {S : Store} {x : R} {u : V} {t : BTy} (s : SR K w S) (r : Rel K w x u) (h : tyR S x = some t) : TyX K w.H u (.type t.nm) := by
  cases x with
  | exc c ns l => cases h
  | own k =>
    obtain ⟨hk, e1⟩ := r
    obtain ⟨c, hc, hr⟩ := s.get hk
    subst e1
    unfold tyR at h
    cases c with
    | obj c ns rs => simp only [hc] at h; cases h
    | lst rs =>
      simp only [hc] at h
      cases h
      obtain ⟨vs, h1, _⟩ := hr
      exact .base (.lst h1)
    | tup rs =>
      simp only [hc] at h
      cases h
      obtain ⟨vs, h1, _⟩ := hr
      exact .base (.tup h1)
  | dat d =>
    cases d with
    | non => cases h
    | slst l => cases h
    | obj c ns l => cases h
    | bl b => cases h; cases (show u = .bl b from r); exact .base (.bl b)
    | int b => cases h; cases (show u = .int b from r); exact .base (.int b)
    | str b => cases h; cases (show u = .str b from r); exact .base (.str b)
    | tup l => cases h; obtain ⟨a, vs, e, _, h1, _⟩ := r; subst e; exact .base (.tup h1)
    | lst l => cases h; obtain ⟨a, vs, e, _, h1, _⟩ := r; subst e; exact .base (.lst h1)
theorem isTy_ok {K : PySem.W.Frag} : ∀ t T : BTy, PySem.W.kitOne K (.type t.nm) (.type T.nm) = some (isTy t T) := by
  intro t T
  cases t <;> cases T <;> exact kit_ty (by decide +kernel)
theorem e_isT (T : BTy) (hg : Gl X "isinstance") (hm : X.mg "isinstance" = none) (hgT : Gl X T.x) (hmT : X.mg T.x = none)
    (he : starEach [a, .Name T.x p1] X.env = (false, eval a X.env) :: starEach [.Name T.x p1] X.env) (he2 : starEach [.Name T.x p1] X.env = (false, eval (.Name T.x p1) X.env) :: starEach [] X.env)
    (hpl : (backTo pos (starEach [.Name T.x p1] X.env)).any (·.1) = false) (ha : EOk X xr W a ma) : EOk X xr W (.Call (.Name "isinstance" p0) [a, .Name T.x p1] [] pos) (fun ρ => M.bind (ma ρ) fun x => isTR x T) := by
  obtain ⟨ta, pa, qa⟩ := ha
  have pT : PE X (.Name T.x p1) (tC (.ty T.nm)) := by
    cases T <;> exact pe_bltn hgT hmT (by first | rfl | decide +kernel) rfl (by decide) (by decide)
  refine ⟨_, pe_callB call_isi hg hm (by first | rfl | decide +kernel) (pa_cons pa (pa_cons pT pa_nil he2) he) (by decide) (by decide) he hpl, fun σ w S ρ Q er sr h => qa σ w S ρ _ er sr (h.bind fun w1 x u S1 e1 s1 rx h1 => ?_)⟩
  by_cases hn : x = .dat .non
  · subst hn
    have h1 : Hop X.K (Rel X.K) (WE W σ) w1 Q (.ok (.dat (.bl false)) S1) := h1
    have eu : u = .non := rx
    subst eu
    exact ⟨.non, .ty T.nm, _, _, _, rfl, .ty T.nm, .base .non, (by cases T <;> exact kit_ty (by decide +kernel)), hop_ok h1 s1 rfl⟩
  have eT : isTR x T S1 = (match tyR S1 x with
    | some t => .ok (.dat (.bl (isTy t T))) S1
    | none => .stuck) := by
    unfold isTR
    split
    · exact absurd rfl hn
    · rfl
  rw [eT] at h1
  cases e : tyR S1 x with
  | none => simp only [e] at h1; exact h1.elim
  | some t =>
    simp only [e] at h1
    exact ⟨u, .ty T.nm, _, _, _, rfl, .ty T.nm, ty_at s1 rx e, isTy_ok t T, hop_ok h1 s1 rfl⟩
/-! ### calls -/
variable {CX : CXT} {k : Nat} {f C : Addr} {fd : FuncData} {ps ks : List Str} {sp : Sp} {x : Str} {kws : List Keyword}
/-- what a call asks of the promise -/
def SpOk (K : PySem.W.Frag) (sp : Sp) (g : List R → M R) : Prop := ∀ (w : Wd) (S : Store) (rs : List R) (vs : List V) (Q : VK) (E : XK), SR K w S → Rels K w rs vs → Hop K (Rel K) E w Q (g rs S) → sp vs w.H Q E
theorem e_call {g : List R → M R} (hx : xr.Ok) (F : FnOk X.prog X.w X.K X.mg X.base (L2N.CX X.prog X.w) k f fd ps sp) (hs : SpOk X.K sp g) (hr : Room k X.A) (hg : Gl X x) (hm : X.mg x = some (.ref f)) (hk : PySem.W.keepIn X.K (.ref f) = true) (hb : Binds X.K fd ps [])
    (tk : L2N.Takes X W) (hdb : (x == ("__debug__" : Str)) = false) (he : starEach (a :: es) X.env = (false, eval a X.env) :: starEach es X.env) (hpl : (backTo pos (starEach es X.env)).any (·.1) = false) (ha : EOk X xr W a ma) (hes : AOk X xr W es ms) :
    EOk X xr W (.Call (.Name x p0) (a :: es) [] pos) (fun ρ => M.bind (ma ρ) fun x => M.bind (ms ρ) fun xs => g (x :: xs)) := by
  obtain ⟨ta, pa, qa⟩ := ha
  obtain ⟨ts, pss, qs⟩ := hes
  refine ⟨_, pe_callS (E := WE W) F hr hg hm hk hb (fun σ => L2N.passAt tk σ) (pa_cons pa pss he) hdb he hpl, fun σ w S ρ Q er sr h => qa σ w S ρ _ er sr (h.bind fun w1 x u S1 e1 s1 rx h1 => qs σ w1 S1 ρ _ (er.ext hx e1) s1 (h1.bind fun w2 xs us S2 e2 s2 rs h2 => ?_))⟩
  exact hs w2 S2 (x :: xs) (u :: us) Q _ s2 ⟨u, us, rfl, rx.ext e2, rs⟩ h2
theorem e_callH {g : List R → M R} (hx : xr.Ok) (F : L2H.FnH X.prog X.w X.K X.mg X.base (L2N.CX X.prog X.w) k f fd ps sp) (hs : SpOk X.K sp g) (hr : L2H.RoomH k X.A) (hc : L2H.HotC X) (hg : Gl X x) (hm : X.mg x = some (.ref f)) (hk : PySem.W.keepIn X.K (.ref f) = true) (hb : Binds X.K fd ps [])
    (tk : L2N.Takes X W) (hdb : (x == ("__debug__" : Str)) = false) (he : starEach (a :: es) X.env = (false, eval a X.env) :: starEach es X.env) (hpl : (backTo pos (starEach es X.env)).any (·.1) = false) (ha : EOk X xr W a ma) (hes : AOk X xr W es ms) :
    EOk X xr W (.Call (.Name x p0) (a :: es) [] pos) (fun ρ => M.bind (ma ρ) fun x => M.bind (ms ρ) fun xs => g (x :: xs)) := by
  obtain ⟨ta, pa, qa⟩ := ha
  obtain ⟨ts, pss, qs⟩ := hes
  refine ⟨_, L2H.pe_callH (E := WE W) F hr hc hg hm hk hb (fun σ => L2N.passAt tk σ) (pa_cons pa pss he) hdb he hpl, fun σ w S ρ Q er sr h => qa σ w S ρ _ er sr (h.bind fun w1 x u S1 e1 s1 rx h1 => qs σ w1 S1 ρ _ (er.ext hx e1) s1 (h1.bind fun w2 xs us S2 e2 s2 rs h2 => ?_))⟩
  exact hs w2 S2 (x :: xs) (u :: us) Q _ s2 ⟨u, us, rfl, rx.ext e2, rs⟩ h2
end
end MP
set_option Elab.async false
set_option linter.all false
set_option maxRecDepth 100000
set_option maxHeartbeats 4000000
/-! MPCall3: the caught exception: isinstance, fields (it may have a dict). -/
namespace MP
open PySem PySem.Spec PySem.Calls PyProof.Rows PySem.W
section
variable {prog : Program} {w : World} {A : Around} {E : Value → Shared → Prop} {s : Shared} {K : Frag} {x D : Addr} {ox : Obj} {od : Option Obj}
theorem found_class {C : Addr} {name : Str} {a g : Value} (hc : (clsIn K C).isSome = true) (ha : findIn K (.ref C) name = some (some a)) (hg : specialIn K a "__get__" = some (some g)) (ht : takesIn K a = some true) : findObj K C od name = some (.bind g a) := by
  obtain ⟨cd, hc⟩ := Option.isSome_iff_exists.mp hc
  unfold findObj
  rw [hc, Option.bind_some, ha, Option.bind_some]
  simp [hg, ht]
/-- its class, asked for by name -/
theorem exc_class {Q : Option Value → Shared → Prop} (Z : L2.ExcC K D) (X : K.In s.heap) (I : InstAt s.heap x ox D od) (h : Q (some (.ref D)) { s with toks := s.toks + 1 }) : wpAny (model prog w) A (getAttr? (.ref x) "__class__") Q E s := by
  have hf : findObj K D od "__class__" = some (.bind (.builtin "getset_descriptor.__get__") (.builtin "object.__class__")) := found_class (by obtain ⟨cd, hc, _⟩ := any_some Z.hd; rw [hc]; rfl) Z.ha Z.hn Z.ht
  obtain ⟨hp, g, d, t, os⟩ := s
  have L0 := I.type (M := model prog w)
  have L1 := looks_findIn (M := model prog w) X Z.hg
  have L2 := looks_findIn (M := model prog w) X Z.hk
  have L3 := looks_find (M := model prog w) X I hf
  have sub : Looks (model prog w) hp (isInstance (.ref x) (.type "BaseException")) true := L0.andThen (looks_subIn X Z.hs)
  have n0 : (false && onTheHeap (Value.builtin "BaseException.__getattribute__")) = false := rfl
  have n2 : (Value.builtin "BaseException.__getattribute__" == Value.builtin "object.__getattribute__") = false := by decide +kernel
  have n1 : (onTheHeap (Value.ref D) && Value.builtin "BaseException.__getattribute__" == Value.builtin "object.__getattribute__") = false := by rw [n2]; rfl
  unfold getAttr? getAttrBy? getAttrBy
  refine wpAny_bind (wpAny_mkText (wpAny_bind (wpAny_attempt (wpAny_holding (wpAny_bind (L0.at (wpAny_bind (L1.at ?_))))))))
  show wpAny _ _ (if (onTheHeap (Value.ref D) && Value.builtin "BaseException.__getattribute__" == Value.builtin "object.__getattribute__") = true then _ else _) _ _ _
  rw [n1, if_neg Bool.false_ne_true]
  unfold getAttrByItsOwn hookBefore
  refine wpAny_bind ?_
  rw [if_pos (show onTheHeap (Value.ref D) = true from rfl)]
  refine L2.at ?_
  refine wpAny_bind (wpAny_attempt (wpAny_holding ?_))
  unfold callGetattribute
  rw [n0, if_neg Bool.false_ne_true]
  unfold boundAndCalled
  rw [PySem.F.excAttr_ValueError.ga.bind (.ref x)]
  refine wpAny_bind (wpAny_pure ?_)
  show wpAny _ _ (call (.builtin "BaseException.__getattribute__") [.ref x, .str "__class__" t]) _ _ _
  refine wpAny_call (codeAny_call_builtin PySem.F.excAttr_ValueError.ga.plain PySem.F.entry_bexc_ga ?_)
  refine @check_slot (model prog w) _ _ ⟨hp, g, d, t + 1, os⟩ "BaseException.__getattribute__" "BaseException" "__getattribute__" (.ref x) [.str "__class__" t] [] _ (by decide +kernel) (by decide +kernel) sub (PySem.F.args_bexc_ga (.ref x) (.str "__class__" t)) ?_
  unfold Builtin.«object.__getattribute__»
  refine wpAny_bind (wpAny_of_eq (a := ((Value.ref x : Value), [Value.str "__class__" t])) (by first | rfl | (simp only [slotArgs]; rfl)) ?_)
  refine wpAny_bind (wpAny_pure (wpAny_bind (L0.at (wpAny_bind (L3.at ?_)))))
  show wpAny _ _ (holding [Value.builtin "object.__class__"] (call (.builtin "getset_descriptor.__get__") [.builtin "object.__class__", .ref x, .ref D]) >>= ret) _ _ _
  refine wpAny_bind (wpAny_holding (wpAny_call (class_get (s := ⟨hp, g, d, t + 1, os⟩) (ox := ox) (od := od) X I Z.hm ?_)))
  refine wpAny_pure ?_
  show wpAny _ _ (handedOut (.ref D)) _ _ _
  rw [handedOut_of (v := .ref D) rfl]
  first
    | exact wpAny_pure (wpAny_pure h)
    | exact wpAny_pure h
    | exact wpAny_pure (wpAny_bind (wpAny_pure (wpAny_pure h)))
theorem kitx_excD (Z : L2.ExcC K D) : KitX K (.ref x) (.ref D) (fun h => ∃ od, InstAt h x ox D od) where
  ty := fun _ _ _ ⟨_, I⟩ => I.type
  it := fun _ _ X _ => by
    obtain ⟨cdD, hcD, _⟩ := any_some Z.hd
    unfold clsIn at hcD
    split at hcD
    · rename_i c' d' cd' sl' ho
      intro A' Q' E' s' k q
      unfold isType loadHead
      exact wpAny_bind (wpAny_loadPart (k _ _ (X _ _ ho)) (wpAny_pure q))
    · cases hcD
  ne := fun h tp dd its n sl X htp => by
    obtain ⟨cdD, hcD, _⟩ := any_some Z.hd
    refine Bool.eq_false_iff.mpr fun q => ?_
    have e : D = tp := Value.ref.inj (beq_iff_eq.mp q)
    subst e
    unfold clsIn at hcD
    split at hcD
    · rename_i c' d' cd' sl' ho
      have z := (X _ _ ho).symm.trans htp
      cases z
    · cases hcD
  ca := fun X ⟨_, I⟩ k => exc_class Z X I k
end
end MP
namespace MP
open PySem PySem.Spec PyProof.Rows L2
/-- the exception that is held: x names it -/
def XAt (X : Cx) (xr : XR) : Prop := ∀ w c ns l v, xr w c ns l v → ∃ (a : Addr) (oe : Obj) (d : Option Addr) (X0 : Cx) (pn : List (Addr × Obj)), X = X0.suite a ((a, oe) :: pn) ∧ v = .ref a ∧ Zc (.ref (He.ga X.K c)) d oe ∧ (∃ vs, oe.data = .fields vs) ∧ ExcD X.K w ns l d
def tXIs (K : PySem.W.Frag) (i : Nat) (cv : Value) (D a : Addr) (d : Option Addr) : TE := fun σ H Q => σ[i]? = some (some (.ref a)) ∧ (d = none ∨ ∃ dd fs, d = some dd ∧ H dd = some (.xd fs)) ∧ ∃ b, PySem.W.kitOne K (.ref D) cv = some b ∧ Q (.bl b) H
theorem call_isD {X : Cx} {a D : Addr} {oe : Obj} {d : Option Addr} {pn : List (Addr × Obj)} (C : ExcC X.K D) (hz : Zc (.ref D) d oe) (hf : ∃ vs, oe.data = .fields vs) :
    CallR (X.suite a ((a, oe) :: pn)) (.builtin "isinstance") (fun xs H Q => ∃ (c : V) (cv : Value) (b : Bool), xs = [.ref a, c] ∧ (d = none ∨ ∃ dd fs, d = some dd ∧ H dd = some (.xd fs)) ∧ (∀ u, RelV c u → u = cv) ∧ PySem.W.kitOne X.K (.ref D) cv = some b ∧ Q (.bl b) H) := by
  intro pins s σ H xs us Q I r h
  obtain ⟨c, cv, b, rfl, hd, hcv, e, q⟩ := h
  obtain ⟨u1, u2, rfl, r1, r2⟩ := vals2 r
  cases (show u1 = Value.ref a from r1)
  have ec := hcv _ r2
  subst ec
  obtain ⟨hget, _⟩ := I.pin (a, oe) (List.mem_append.mpr (.inl List.mem_cons_self))
  obtain ⟨vs, hv⟩ := hf
  have J : ∃ od, PySem.W.InstAt s.heap a oe D od := by
    rcases hd with hd | ⟨dd, fs, hd, hx⟩
    · subst hd
      obtain ⟨oc, od, oda, osl⟩ := oe
      obtain ⟨h1, h2⟩ := hz
      dsimp only at h1 h2 hv
      subst h1 h2 hv
      exact ⟨none, hget, rfl, rfl, trivial⟩
    · subst hd
      have hx' : ObjOk X.prog X.w H s.heap dd (.xd fs) := I.hok dd _ hx
      obtain ⟨mA, hns, _⟩ := hx'
      obtain ⟨od, ho, _⟩ := lookIn_ns hns
      exact ⟨some od, hget, hz.1, by unfold PySem.W.notCls; rw [hv] <;> rfl, by rw [hz.2]; exact ho⟩
  exact PySem.W.kia_one (kitx_excD C) I.kIn J e (fun z => nomatch z) fun tk => ⟨.bl b, H, I.kept (t' := tk) fun _ _ z => z, rfl, q⟩
section
variable {X : Cx} {xr : XR} {W : WX} {pos p p0 p1 : Pos}
/-- isinstance(e, c): e the exception that is held; cs: what is known of the classes -/
theorem x_is {C : Calls} {i : Nat} {x c : Str} (hX : XAt X xr) (hN : X.N[i]? = some x) (hv : Vis X.env.scope x) (hd : (x == ("__debug__" : Str)) = false) (hcd : (x == ("__classdict__" : Str)) = false)
    (hg : Gl X "isinstance") (hm : X.mg "isinstance" = none) (hgc : Gl X c) (hmc : X.mg c = some (.ref (He.ga X.K c))) (hdc : (c == ("__debug__" : Str)) = false)
    (hsub : ∀ c' b, C.sub c' c = some b → ExcC X.K (He.ga X.K c') ∧ PySem.W.kitOne X.K (.ref (He.ga X.K c')) (.ref (He.ga X.K c)) = some b)
    (he : starEach [.Name x p, .Name c p1] X.env = (false, eval (.Name x p) X.env) :: starEach [.Name c p1] X.env) (he2 : starEach [.Name c p1] X.env = (false, eval (.Name c p1) X.env) :: starEach [] X.env)
    (hpl : (backTo pos (starEach [.Name c p1] X.env)).any (·.1) = false) : EOk X xr W (.Call (.Name "isinstance" p0) [.Name x p, .Name c p1] [] pos) (fun ρ => xIsR C ρ i c) := by
  by_cases hz : ∃ w ns c' l v b, xr w c' ns l v ∧ C.sub c' c = some b
  · obtain ⟨w0, ns0, c0, l0, v0, b0, hx0, hb0⟩ := hz
    obtain ⟨a, oe, d, X0, pn, rfl, ev, zc, hf, _⟩ := hX _ _ _ _ _ hx0
    have pT : PE (X0.suite a ((a, oe) :: pn)) (.Name c p1) (tC (.ref (He.ga X0.K c))) := pe_glob hgc hmc rfl hdc
    refine ⟨_, pe_callB (call_isD (hsub c0 b0 hb0).1 zc hf) hg hm (by first | rfl | decide +kernel) (pa_cons (pe_var hN hv hd hcd) (pa_cons pT pa_nil he2) he) (by decide) (by decide) he hpl, fun σ w S ρ Q er sr h => ?_⟩
    unfold xIsR at h
    cases e : ρ[i]? with
    | none => simp only [e] at h; exact h.elim
    | some o =>
      cases o with
      | none => simp only [e] at h; exact h.elim
      | some r =>
        cases r with
        | dat dd => simp only [e] at h; exact h.elim
        | own k => simp only [e] at h; exact h.elim
        | exc c' ns l =>
          simp only [e] at h
          cases e2 : C.sub c' c with
          | none => simp only [e2] at h; exact h.elim
          | some b =>
            simp only [e2] at h
            obtain ⟨v, h1, h2⟩ := er.get i _ e
            obtain ⟨a', oe', d', X0', pn', eX, ev', zc', hf', hD'⟩ := hX _ _ _ _ _ h2
            have e3 : (a, oe) = (a', oe') := by
              have q := congrArg Cx.pn eX
              exact (List.cons.inj q).1
            cases e3
            have ed : d = d' := zc.2.symm.trans zc'.2
            subst ed
            have ec : He.ga X0.K c0 = He.ga X0.K c' := by
              have q := zc.1.symm.trans zc'.1
              exact Value.ref.inj q
            refine ⟨.ref a, by rw [h1, ev'], .ref (He.ga X0.K c), .ref (He.ga X0.K c), b, rfl, hD'.dict, fun u q => q, ?_, ?_⟩
            · rw [ec]
              exact (hsub c' b e2).2
            · exact hop_pure h sr rfl
  · refine ⟨fun _ _ _ => False, ⟨fun _ _ _ _ _ _ (z : False) => z.elim⟩, fun σ w S ρ Q er sr h => hz ?_⟩
    · unfold xIsR at h
      cases e : ρ[i]? with
      | none => simp only [e] at h; exact h.elim
      | some o =>
        cases o with
        | none => simp only [e] at h; exact h.elim
        | some r =>
          cases r with
          | dat dd => simp only [e] at h; exact h.elim
          | own k => simp only [e] at h; exact h.elim
          | exc c' ns l =>
            simp only [e] at h
            cases e2 : C.sub c' c with
            | none => simp only [e2] at h; exact h.elim
            | some b =>
              obtain ⟨v, h1, h2⟩ := er.get i _ e
              exact ⟨w, ns, c', l, v, b, h2, e2⟩
/-- e.f -/
theorem x_at {C : Calls} {i : Nat} {x f : Str} (hX : XAt X xr) (hN : X.N[i]? = some x) (hv : Vis X.env.scope x) (hd : (x == ("__debug__" : Str)) = false) (hcd : (x == ("__classdict__" : Str)) = false)
    (hf : ∀ c, C.xf c f = true → XfC X.K (He.ga X.K c) ∧ PySem.W.findIn X.K (.ref (He.ga X.K c)) f = some none)
    (hb : attributeBase (.Name x p) f X.env (eval (.Name x p) X.env) = eval (.Name x p) X.env) : EOk X xr W (.Attribute (.Name x p) f pos) (fun ρ => xAtR C ρ i f) := by
  by_cases hz : ∃ w ns c' l v, xr w c' ns l v ∧ C.xf c' f = true
  · obtain ⟨w0, ns0, c0, l0, v0, hx0, hy0⟩ := hz
    obtain ⟨a, oe, d, X0, pn, rfl, ev, zc, hfl, _⟩ := hX _ _ _ _ _ hx0
    have q := hf _ hy0
    refine ⟨_, pe_xf q.1 q.2 zc hfl (pe_var hN hv hd hcd) hb, fun σ w S ρ Q er sr h => ?_⟩
    unfold xAtR at h
    cases e : ρ[i]? with
    | none => simp only [e] at h; exact h.elim
    | some o =>
      cases o with
      | none => simp only [e] at h; exact h.elim
      | some r =>
        cases r with
        | dat dd => simp only [e] at h; exact h.elim
        | own k => simp only [e] at h; exact h.elim
        | exc c' ns l =>
          simp only [e] at h
          by_cases e9 : C.xf c' f = true
          case neg => rw [if_neg e9] at h; exact h.elim
          rw [if_pos e9] at h
          cases e2 : lookA f ns l with
          | none => simp only [e2] at h; exact h.elim
          | some y =>
            simp only [e2] at h
            obtain ⟨v, h1, h2⟩ := er.get i _ e
            obtain ⟨a', oe', d', X0', pn', eX, ev', zc', hf', hD'⟩ := hX _ _ _ _ _ h2
            have e3 : (a, oe) = (a', oe') := by
              have q := congrArg Cx.pn eX
              exact (List.cons.inj q).1
            cases e3
            have ed : d = d' := zc.2.symm.trans zc'.2
            subst ed
            obtain ⟨dd, fs, e4, nl, e5, e6⟩ := hD'.resolve_left fun z => by
              have z1 := z.1
              subst z1
              cases l <;> cases e2
            obtain ⟨u, e7, e8⟩ := e6 f y e2
            exact ⟨.ref a, by rw [h1, ev'], rfl, rfl, dd, fs, u, e4, e5, e7, hop_pure (rel := Rel (X0.suite a ((a, oe) :: pn)).K) h sr e8⟩
  · refine ⟨fun _ _ _ => False, ⟨fun _ _ _ _ _ _ (z : False) => z.elim⟩, fun σ w S ρ Q er sr h => hz ?_⟩
    · unfold xAtR at h
      cases e : ρ[i]? with
      | none => simp only [e] at h; exact h.elim
      | some o =>
        cases o with
        | none => simp only [e] at h; exact h.elim
        | some r =>
          cases r with
          | dat dd => simp only [e] at h; exact h.elim
          | own k => simp only [e] at h; exact h.elim
          | exc c' ns l =>
            simp only [e] at h
            by_cases e9 : C.xf c' f = true
            · obtain ⟨v, h1, h2⟩ := er.get i _ e
              exact ⟨w, ns, c', l, v, h2, e9⟩
            · rw [if_neg e9] at h
              exact h.elim
end
end MP
set_option Elab.async false
set_option linter.all false
set_option maxRecDepth 100000
set_option maxHeartbeats 4000000
/-! MPCall4: calls with keywords; new instances. -/
namespace MP
open PySem PySem.Spec PyProof.Rows L2
theorem pick_rel {K : PySem.W.Frag} {w : Wd} {rs : List R} {vs : List V} (h : Rels K w rs vs) : ∀ {pm : List Nat} {qs : List R}, pick pm rs = some qs → ∃ us, (pm.mapM fun i => vs[i]?) = some us ∧ Rels K w qs us
  | [], qs, e => by
    cases (show some [] = some qs from e)
    exact ⟨[], rfl, rfl⟩
  | i :: pm, qs, e => by
    unfold pick at e
    rw [List.mapM_cons] at e
    cases e1 : rs[i]? with
    | none => rw [e1] at e; cases e
    | some r =>
      rw [e1] at e
      cases e2 : pm.mapM (fun i => rs[i]?) with
      | none => rw [e2] at e; cases e
      | some q2 =>
        rw [e2] at e
        cases (show some (r :: q2) = some qs from e)
        obtain ⟨v, h1, h2⟩ := h.get e1
        obtain ⟨us, h3, h4⟩ := pick_rel h (pm := pm) (qs := q2) e2
        refine ⟨v :: us, ?_, v, us, rfl, h2, h4⟩
        rw [List.mapM_cons, h1, h3]
        rfl
theorem pick_val {vs : List V} {us : List Value} (h : Vals vs us) : ∀ {pm : List Nat} {zs : List V}, (pm.mapM fun i => vs[i]?) = some zs → ∃ ws, (pm.mapM fun i => us[i]?) = some ws ∧ Vals zs ws
  | [], zs, e => by
    cases (show some [] = some zs from e)
    exact ⟨[], rfl, .nil⟩
  | i :: pm, zs, e => by
    rw [List.mapM_cons] at e
    cases e1 : vs[i]? with
    | none => rw [e1] at e; cases e
    | some r =>
      rw [e1] at e
      cases e2 : pm.mapM (fun i => vs[i]?) with
      | none => rw [e2] at e; cases e
      | some q2 =>
        rw [e2] at e
        cases (show some (r :: q2) = some zs from e)
        obtain ⟨u, h1, h2⟩ := h.get e1
        obtain ⟨ws, h3, h4⟩ := pick_val h (pm := pm) (zs := q2) e2
        refine ⟨u :: ws, ?_, .cons h2 h4⟩
        rw [List.mapM_cons, h1, h3]
        rfl
/-- how a call with n values and the keywords ks binds: in the order pm -/
def KwB (fd : FuncData) (ps : List Str) (n : Nat) (ks : List Str) (pm : List Nat) : Prop :=
  ∀ us ws zs : List Value, us.length = n → ws.length = ks.length → (pm.mapM fun i => (us ++ ws)[i]?) = some zs → bindArgs fd ⟨us, ks.zip ws⟩ = pure (ps.zip zs)
def KOk (X : Cx) (xr : XR) (W : WX) (kws : List Keyword) (m : MP.Env → M (List R)) : Prop :=
  ∃ t, PK X kws t ∧ ∀ σ w S ρ Q, EnvR X.K xr w σ ρ → SR X.K w S → Hop X.K (Rels X.K) (WE W σ) w Q (m ρ S) → t σ w.H Q
section
variable {X : Cx} {xr : XR} {W : WX} {a b c e o : Expr} {es rest : List Expr} {ma mb mc : MP.Env → M R} {mt : MP.Env → M Bool} {ms mk : MP.Env → M (List R)} {pos p p0 p1 p2 : Pos}
variable {k n : Nat} {f C : Addr} {fd : FuncData} {ps ks : List Str} {sp : Sp} {x : Str} {kws : List Keyword} {nm : Option Str} {pm : List Nat}
theorem k_nil : KOk X xr W [] (fun _ => M.pure []) := ⟨_, pk_nil, fun σ w S ρ Q er sr h => hop_pure h sr rfl⟩
theorem k_cons (hx : xr.Ok) (ha : EOk X xr W e ma) (hr : KOk X xr W kws ms) : KOk X xr W (⟨nm, e, p⟩ :: kws) (fun ρ => M.bind (ma ρ) fun x => M.bind (ms ρ) fun xs => M.pure (x :: xs)) := by
  obtain ⟨ta, pa, qa⟩ := ha
  obtain ⟨ts, pss, qs⟩ := hr
  refine ⟨_, pk_cons pa pss, fun σ w S ρ Q er sr h => qa σ w S ρ _ er sr (h.bind fun w1 x u S1 e1 s1 rx h1 => qs σ w1 S1 ρ _ (er.ext hx e1) s1 (h1.bind fun w2 xs us S2 e2 s2 rs h2 => ?_))⟩
  exact hop_pure (rel := Rels X.K) h2 s2 ⟨u, us, rfl, rx.ext e2, rs⟩
theorem run_kw {pins : List (Addr × Obj)} {σ : St} {H : Hp} {s : Shared} {Q : VK} {us ws : List Value} {vs zs as : List V} {E : XK} (F : FnOk X.prog X.w X.K X.mg X.base (L2N.CX X.prog X.w) k f fd ps sp) (hr : Room k X.A) (hb : KwB fd ps n ks pm)
    (hx : PassesAt (L2N.CX X.prog X.w) X σ E) (I : Inv X pins σ H s) (r : Vals vs us) (rz : Vals zs ws) (l1 : vs.length = n) (l2 : zs.length = ks.length) (e : (pm.mapM fun i => (vs ++ zs)[i]?) = some as) (h : sp as H Q E) :
    wpAny (model X.prog X.w) X.A (call (.ref f) us (ks.zip ws)) (EP X pins σ Q) X.xe s := by
  obtain ⟨bs, e2, r2⟩ := pick_val (r.append rz) e
  have b := hb us ws bs (by rw [← r.length]; exact l1) (by rw [← rz.length]; exact l2) e2
  refine wpAny_call (codeAny_mono (F.run X.A X.stack s H ⟨us, ks.zip ws⟩ bs as Q E hr I.env0 (.of_eq b) r2 h) fun q s' hq => ?_)
  match q, hq with
  | .error e, hq => exact hx pins H s e s' I hq
  | .ok (.ret u), hq => exact I.after hq
  | .ok .next, hq => exact False.elim hq
  | .ok .brk, hq => exact False.elim hq
  | .ok .cont, hq => exact False.elim hq
theorem e_callK {g : List R → M R} (hx : xr.Ok) (F : FnOk X.prog X.w X.K X.mg X.base (L2N.CX X.prog X.w) k f fd ps sp) (hs : SpOk X.K sp g) (hr : Room k X.A) (hg : Gl X x) (hm : X.mg x = some (.ref f)) (hk : PySem.W.keepIn X.K (.ref f) = true) (hb : KwB fd ps n ks pm)
    (tk : L2N.Takes X W) (hdb : (x == ("__debug__" : Str)) = false) (he : starEach (a :: es) X.env = (false, eval a X.env) :: starEach es X.env)
    (hall : (backToKw pos (keywordEach kws X.env)).all (·.1.isSome) = true) (hks : (backToKw pos (keywordEach kws X.env)).filterMap (·.1) = ks)
    (hpl : ((backTo pos (starEach (a :: es) X.env)).any (·.1) || (backToKw pos (keywordEach kws X.env)).any (·.1.isNone)) = false) (ha : EOk X xr W a ma) (hes : AOk X xr W es ms) (hkw : KOk X xr W kws mk)
    (hn : ∀ ρ S xs S', ms ρ S = .ok xs S' → xs.length + 1 = n) (hn2 : ∀ ρ S xs S', mk ρ S = .ok xs S' → xs.length = ks.length) :
    EOk X xr W (.Call (.Name x p0) (a :: es) kws pos) (fun ρ => M.bind (ma ρ) fun x => M.bind (ms ρ) fun xs => M.bind (mk ρ) fun ys => match pick pm (x :: xs ++ ys) with
      | some zs => g zs
      | none => M.stuck) := by
  obtain ⟨ta, pa, qa⟩ := ha
  obtain ⟨ts, pss, qs⟩ := hes
  obtain ⟨tk2, pk, qk⟩ := hkw
  have pas := pa_cons pa pss he
  refine ⟨fun σ H Q => tCons ta ts σ H fun vs H1 => tk2 σ H1 fun zs H2 => vs.length = n ∧ zs.length = ks.length ∧ ∃ as, (pm.mapM fun i => (vs ++ zs)[i]?) = some as ∧ sp as H2 Q (WE W σ), ⟨fun pins s σ H Q I h => ?_⟩, fun σ w S ρ Q er sr h => ?_⟩
  · refine wpAny_Call_Name_kw (ld_glob I hg hm ?_ hdb)
    refine PySem.W.callWith_KW (h₀ := X.base) I.ok.mod.kin hk hall (thn (pas.run pos pins s σ H _ I h) fun us s1 ⟨vs, H1, I1, r, q⟩ => ?_) hpl he
    refine thn (pk.run pos pins s1 σ H1 _ I1 q) fun ws s2 ⟨zs, H2, I2, rz, q1, q2, as, q3, q4⟩ => ⟨I2.kIn, ?_⟩
    rw [hks]
    exact run_kw F hr hb (L2N.passAt tk σ) I2 r rz q1 q2 q3 q4
  · refine qa σ w S ρ _ er sr (h.bind fun w1 x u S1 e1 s1 rx h1 => ?_)
    have h1 : Hop X.K (Rel X.K) (WE W σ) w1 Q (M.bind (ms ρ) (fun xs => M.bind (mk ρ) fun ys => match pick pm (x :: xs ++ ys) with
      | some zs => g zs
      | none => M.stuck) S1) := h1
    refine qs σ w1 S1 ρ _ (er.ext hx e1) s1 ?_
    unfold M.bind at h1
    cases e : ms ρ S1 with
    | stuck => simp only [e] at h1; exact h1.elim
    | exc c ns l S2 => simp only [e] at h1; exact h1
    | ok xs S2 =>
      simp only [e] at h1
      intro w2 us e2 s2 rs
      refine qk σ w2 S2 ρ _ ((er.ext hx e1).ext hx e2) s2 ?_
      cases e5 : mk ρ S2 with
      | stuck => simp only [e5] at h1; exact h1.elim
      | exc c ns l S3 =>
        simp only [e5] at h1
        exact Hop.ext (r2 := Rels X.K) (x := .exc c ns l S3) (Q := fun _ _ => True) e2 h1
      | ok ys S3 =>
        simp only [e5] at h1
        intro w3 zs e3 s3 rz
        have l1 : (u :: us).length = n := by rw [← hn _ _ _ _ e, rs.length]; rfl
        have l2 : zs.length = ks.length := by rw [← rz.length]; exact hn2 _ _ _ _ e5
        refine ⟨l1, l2, ?_⟩
        cases e6 : pick pm (x :: xs ++ ys) with
        | none => rw [e6] at h1; exact h1.elim
        | some qs =>
          rw [e6] at h1
          have rall : Rels X.K w3 (x :: xs ++ ys) (u :: us ++ zs) := Rels.append (show Rels X.K w3 (x :: xs) (u :: us) from ⟨u, us, rfl, rx.ext (e2.trans e3), rs.ext e3⟩) rz
          obtain ⟨as, e7, r7⟩ := pick_rel rall e6
          exact ⟨as, e7, hs w3 S3 qs as Q _ s3 r7 (Hop.ext (e2.trans e3) h1)⟩
theorem e_callKK {g : List R → M R} (hx : xr.Ok) (F : FnOk X.prog X.w X.K X.mg X.base (L2N.CX X.prog X.w) k f fd ps sp) (hs : SpOk X.K sp g) (hr : Room k X.A) (hg : Gl X x) (hm : X.mg x = some (.ref f)) (hk : PySem.W.keepIn X.K (.ref f) = true) (hb : KwB fd ps 0 ks pm)
    (tk : L2N.Takes X W) (hdb : (x == ("__debug__" : Str)) = false)
    (hall : (backToKw pos (keywordEach kws X.env)).all (·.1.isSome) = true) (hks : (backToKw pos (keywordEach kws X.env)).filterMap (·.1) = ks)
    (hpl : ((backTo pos (starEach [] X.env)).any (·.1) || (backToKw pos (keywordEach kws X.env)).any (·.1.isNone)) = false) (hkw : KOk X xr W kws mk)
    (hn2 : ∀ ρ S xs S', mk ρ S = .ok xs S' → xs.length = ks.length) :
    EOk X xr W (.Call (.Name x p0) [] kws pos) (fun ρ => M.bind (mk ρ) fun ys => match pick pm ys with
      | some zs => g zs
      | none => M.stuck) := by
  obtain ⟨tk2, pk, qk⟩ := hkw
  refine ⟨fun σ H Q => tk2 σ H fun zs H2 => zs.length = ks.length ∧ ∃ as, (pm.mapM fun i => (([] : List V) ++ zs)[i]?) = some as ∧ sp as H2 Q (WE W σ), ⟨fun pins s σ H Q I h => ?_⟩, fun σ w S ρ Q er sr h => ?_⟩
  · refine wpAny_Call_Name_kw (ld_glob I hg hm ?_ hdb)
    refine PySem.W.callWith_KW0 (h₀ := X.base) I.ok.mod.kin hk hall ?_ hpl
    refine thn (pk.run pos pins s σ H _ I h) fun ws s2 ⟨zs, H2, I2, rz, q2, as, q3, q4⟩ => ⟨I2.kIn, ?_⟩
    rw [hks]
    exact run_kw (us := []) (vs := []) F hr hb (L2N.passAt tk σ) I2 .nil rz rfl q2 q3 q4
  · refine qk σ w S ρ _ er sr ?_
    dsimp only at h
    unfold M.bind at h
    cases e5 : mk ρ S with
    | stuck => simp only [e5] at h; exact h.elim
    | exc c ns l S3 => simp only [e5] at h; exact h
    | ok ys S3 =>
      simp only [e5] at h
      intro w3 zs e3 s3 rz
      have l2 : zs.length = ks.length := by rw [← rz.length]; exact hn2 _ _ _ _ e5
      refine ⟨l2, ?_⟩
      cases e6 : pick pm ys with
      | none => rw [e6] at h; exact h.elim
      | some qs =>
        rw [e6] at h
        obtain ⟨as, e7, r7⟩ := pick_rel rz e6
        exact ⟨as, e7, hs w3 S3 qs as Q _ s3 r7 (Hop.ext e3 h)⟩
/-! ### new instances -/
theorem make_ok {CC : Calls} {m : Bool} {fi : Nat} {c : Str} {K : PySem.W.Frag} {sp : Sp} (hs : SpOk K sp (CC.fn fi)) : ∀ (w : Wd) (S : Store) (rs : List R) (vs : List V) (Q : VK) (E : XK), SR K w S → Rels K w rs vs → Hop K (Rel K) E w Q (makeR CC m fi c rs S) →
    ∀ x dx, w.H x = none → w.H dx = none → dx ≠ x → sp (.ref x :: vs) (upd (upd w.H dx (.own x)) x (.ins (He.ga K c) dx [])) (fun v H2 => v = .non ∧ Q (.ref x) H2) E := by
  intro w S rs vs Q E s r h x dx hx hdx hne
  have s1 : SR K (w.new dx (.own x)) S := s.new hdx
  have e1 : Ext w (w.new dx (.own x)) := ext_new s hdx
  have hx1 : (w.new dx (.own x)).H x = none := by
    show upd w.H dx (.own x) x = none
    rw [upd_ne hne.symm]
    exact hx
  have e2 : Ext (w.new dx (.own x)) ((w.new dx (.own x)).push x (.ins (He.ga K c) dx [])) := ext_push s1 hx1
  have e12 := e1.trans e2
  have s2 : SR K ((w.new dx (.own x)).push x (.ins (He.ga K c) dx [])) (S ++ [.obj c [] []]) := s1.push hx1 ⟨dx, [], upd_same, rfl, rfl⟩
  have ln : w.n = S.length := s.n
  have px : ((w.new dx (.own x)).push x (.ins (He.ga K c) dx [])).p S.length = x := by
    rw [← ln]
    exact push_p (w := w.new dx (.own x))
  have ro : Rel K ((w.new dx (.own x)).push x (.ins (He.ga K c) dx [])) (.own S.length) (.ref x) := ⟨by rw [← ln]; exact Nat.lt_succ_self _, by rw [px]⟩
  have rall : Rels K ((w.new dx (.own x)).push x (.ins (He.ga K c) dx [])) (.own S.length :: rs) (.ref x :: vs) := ⟨_, _, rfl, ro, r.ext e12⟩
  refine hs _ _ _ _ _ E s2 rall ?_
  unfold makeR at h
  cases e : CC.fn fi (.own S.length :: rs) (S ++ [.obj c [] []]) with
  | stuck => simp only [e] at h; exact h.elim
  | exc c' ns l S' =>
    simp only [e] at h
    exact fun w' d x3 s3 hd => h w' d (e12.trans x3) s3 hd
  | ok q S' =>
    intro w' v x3 s3 rv
    cases q with
    | own k => simp only [e] at h; exact h.elim
    | exc c' ns l => simp only [e] at h; exact h.elim
    | dat d =>
      cases d with
      | non =>
        simp only [e] at h
        refine ⟨rv, ?_⟩
        have r3 : Rel K w' (.own S.length) (.ref x) := ro.ext x3
        by_cases hm : m = true
        · rw [if_pos hm] at h
          exact h w' (.ref x) (e12.trans x3) s3 r3
        · rw [if_neg hm] at h
          by_cases hb : (S'.take S.length).all (Cell.below S.length) = true ∧ S.length ≤ S'.length
          · rw [if_pos hb] at h
            have l3 : S.length ≤ w'.n := by rw [s3.n]; exact hb.2
            cases ed : toD S.length S' 8 (.own S.length) with
            | none => rw [ed] at h; exact h.elim
            | some dd =>
              rw [ed] at h
              exact h (w'.cut S.length) (.ref x) ((e12.trans x3).cut ln) (s3.cut l3 hb.1) (toD_ok s3 l3 8 _ dd _ ed r3)
          · rw [if_neg hb] at h
            exact h.elim
      | _ => simp only [e] at h; exact h.elim
theorem e_make {CC : Calls} {m : Bool} {fi : Nat} {cn : Str} (hx : xr.Ok) (Mk' : Mk X.K (He.ga X.K cn) f) (F : FnOk X.prog X.w X.K X.mg X.base (L2N.CX X.prog X.w) k f fd ps sp) (hs : SpOk X.K sp (CC.fn fi)) (hr : Room (k + 1) X.A) (hg : Gl X x) (hm : X.mg x = some (.ref (He.ga X.K cn))) (hb : Binds X.K fd ps [])
    (tk : L2N.Takes X W) (hdb : (x == ("__debug__" : Str)) = false) (he : starEach (a :: es) X.env = (false, eval a X.env) :: starEach es X.env) (hpl : (backTo pos (starEach es X.env)).any (·.1) = false) (ha : EOk X xr W a ma) (hes : AOk X xr W es ms) :
    EOk X xr W (.Call (.Name x p0) (a :: es) [] pos) (fun ρ => M.bind (ma ρ) fun x => M.bind (ms ρ) fun xs => makeR CC m fi cn (x :: xs)) := by
  obtain ⟨ta, pa, qa⟩ := ha
  obtain ⟨ts, pss, qs⟩ := hes
  have pas := pa_cons pa pss he
  refine ⟨fun σ H Q => tCons ta ts σ H fun vs H1 => ∀ x dx, H1 x = none → H1 dx = none → dx ≠ x → sp (.ref x :: vs) (upd (upd H1 dx (.own x)) x (.ins (He.ga X.K cn) dx [])) (fun v H2 => v = .non ∧ Q (.ref x) H2) (WE W σ), ⟨fun pins s σ H Q I h => ?_⟩, fun σ w S ρ Q er sr h => ?_⟩
  · refine wpAny_Call_Name_kw (ld_glob I hg hm ?_ hdb)
    refine PySem.W.callWith_K (h₀ := X.base) I.ok.mod.kin Mk'.kp (thn (pas.run pos pins s σ H _ I h) fun us s1 ⟨vs, H1, I1, r, q⟩ => ⟨I1.kIn, ?_⟩) he hpl
    have hq := q (s1.heap.objs.size + 1) s1.heap.objs.size (I1.hok.fresh (Nat.le_succ _)) (I1.hok.fresh (Nat.le_refl _)) (Nat.ne_of_lt (Nat.lt_succ_self _))
    have I2 := Inv.made (C := He.ga X.K cn) I1
    have r2 : Vals (V.ref (s1.heap.objs.size + 1) :: vs) (Value.ref (s1.heap.objs.size + 1) :: us) := .cons rfl r
    have hl : (Value.ref (s1.heap.objs.size + 1) :: us).length = ps.length := by rw [← r2.length]; exact F.len _ _ _ _ hq
    have b := hb _ (Value.ref (s1.heap.objs.size + 1) :: us) I2.kIn (by rw [List.append_nil]; exact hl)
    rw [List.append_nil] at b
    refine wpAny_call (make_map (f := f) I1.kIn Mk'.makes Mk'.init (beq_iff_eq.mp Mk'.fn) (codeAny_mono (F.run _ X.stack _ _ ⟨Value.ref (s1.heap.objs.size + 1) :: us, []⟩ _ _ _ (WE W σ) (hr.make (He.ga X.K cn) us []) (I2.env0.make (He.ga X.K cn) us []) b r2 hq) fun z s' hq' => ?_))
    match z, hq' with
    | .error e, hq' => exact L2N.passAt tk σ pins _ _ e s' I2 hq'
    | .ok (.ret u), hq' =>
      obtain ⟨v, H', I3, rv, ev, q3⟩ := I2.after hq'
      subst ev
      exact ⟨rv, ⟨V.ref (s1.heap.objs.size + 1), H', I3, rfl, q3⟩⟩
    | .ok .next, hq' => exact False.elim hq'
    | .ok .brk, hq' => exact False.elim hq'
    | .ok .cont, hq' => exact False.elim hq'
  · refine qa σ w S ρ _ er sr (h.bind fun w1 x u S1 e1 s1 rx h1 => qs σ w1 S1 ρ _ (er.ext hx e1) s1 (h1.bind fun w2 xs us S2 e2 s2 rs h2 => ?_))
    exact make_ok hs w2 S2 (x :: xs) (u :: us) Q _ s2 ⟨u, us, rfl, rx.ext e2, rs⟩ h2
end
end MP
set_option Elab.async false
set_option linter.all false
set_option maxRecDepth 100000
set_option maxHeartbeats 4000000
/-! MPZip: zip of lists and tuples, mixed. -/
namespace MP
open PySem PySem.Spec PyProof.Rows L2
def SqB (K : PySem.W.Frag) (t : Bool) (H : Hp) (a : Addr) (xs : List V) : Prop := match t with
  | true => SqT K H a xs
  | false => SqL K H a xs
def ItB (t : Bool) (h : Heap) (it a : Addr) (i : Nat) : Prop := match t with
  | true => h.IsTupleIter it a i
  | false => h.IsListIter it a i
def StB (t : Bool) (it a : Addr) (items : Array Value) (i : Nat) (h : Heap) : Prop := match t with
  | true => h.IsTupleIter it a i ∧ h.IsTuple a items
  | false => h.IsListIter it a i ∧ h.IsList a items
theorem StB.it {t : Bool} {it a : Addr} {items : Array Value} {i : Nat} {h : Heap} (s : StB t it a items i h) : ItB t h it a i := by
  cases t with
  | true => exact s.1
  | false => exact s.1
theorem StB.ne {t : Bool} {it a : Addr} {items : Array Value} {i : Nat} {h : Heap} (s : StB t it a items i h) : a ≠ it := fun q => by
  subst q
  cases t with
  | true =>
    obtain ⟨⟨o, e, c, _⟩, ⟨o2, e2, c2, _⟩⟩ := s
    rw [e] at e2
    cases e2
    rw [c] at c2
    injection c2 with c3
    exact absurd c3 (by decide)
  | false =>
    obtain ⟨⟨o, e, c, _⟩, ⟨o2, e2, c2, _⟩⟩ := s
    rw [e] at e2
    cases e2
    rw [c] at c2
    injection c2 with c3
    exact absurd c3 (by decide)
theorem nin {x a b : Nat} (h1 : x ≠ a) (h2 : x ≠ b) : x ∉ [a, b] := by simp [h1, h2]
theorem sep_nat (n a b : Nat) (la : a < n) (lb : b < n) : ZipSep2 (n + 4) (n + 2) (n + 3) n (n + 1) [n, a] [n + 1, b] where
  TIz := show (n + 2 : Nat) ≠ n + 4 by omega
  TOz := show (n + 3 : Nat) ≠ n + 4 by omega
  TITO := show (n + 2 : Nat) ≠ n + 3 by omega
  TIi1 := show (n + 2 : Nat) ≠ n by omega
  mem1 := List.mem_cons_self
  zf1 := nin (show (n + 4 : Nat) ≠ n by omega) (show (n + 4 : Nat) ≠ a by omega)
  Tf1 := nin (show (n + 3 : Nat) ≠ n by omega) (show (n + 3 : Nat) ≠ a by omega)
  TIi2 := show (n + 2 : Nat) ≠ n + 1 by omega
  mem2 := List.mem_cons_self
  zf2 := nin (show (n + 4 : Nat) ≠ n + 1 by omega) (show (n + 4 : Nat) ≠ b by omega)
  Tf2 := nin (show (n + 3 : Nat) ≠ n + 1 by omega) (show (n + 3 : Nat) ≠ b by omega)
  sep1_2 := nin (show (n : Nat) ≠ n + 1 by omega) (show (n : Nat) ≠ b by omega)
  sep2_1 := nin (show (n + 1 : Nat) ≠ n by omega) (show (n + 1 : Nat) ≠ a by omega)
theorem ItB.obj {t : Bool} {h : Heap} {it a : Addr} {i : Nat} (s : ItB t h it a i) : ∃ o, h.get? it = some o ∧ ∀ v, o.data ≠ .cell v := by
  cases t with
  | true => obtain ⟨o, e, _, d⟩ := s; exact ⟨o, e, fun v q => by rw [d] at q; cases q⟩
  | false => obtain ⟨o, e, _, d⟩ := s; exact ⟨o, e, fun v q => by rw [d] at q; cases q⟩
theorem ItB.at {t : Bool} {h h' : Heap} {it a : Addr} {i : Nat} (s : ItB t h it a i) (k : ∀ o, h.get? it = some o → h'.get? it = some o) : ItB t h' it a i := by
  cases t with
  | true => exact Heap.IsTupleIter.at s k
  | false => exact Heap.IsListIter.at s k
theorem drawsB {prog : Program} {w : World} {A : Around} (hh : A.handled = none) (t : Bool) (it a : Addr) (hne : a ≠ it) (items : Array Value) : Draws prog w A it [it, a] items.size (fun i v => items[i]? = some v) (StB t it a items) := by
  cases t with
  | true => exact Draws.tuple hh it a hne items
  | false => exact Draws.list hh it a hne items
theorem seqB {X : Cx} {pins : List (Addr × Obj)} {σ : L2.St} {H : Hp} {s : Shared} {t : Bool} {a : Addr} {xs : List V} (I : Inv X pins σ H s) (h : SqB X.K t H a xs) : ∃ its : List Value, Vals xs its ∧ a < s.heap.objs.size ∧ (∀ it i, ItB t s.heap it a i → StB t it a its.toArray i s.heap) ∧
    ∃ o P, PySem.Begins (.ref a) o P ∧ P s.heap ∧ ∀ (h' : Heap) (it : Addr), h'.get? it = some o → ItB t h' it a 0 := by
  cases t with
  | true =>
    obtain ⟨its, rv, p, _⟩ := I.tuple h
    have p2 : s.heap.IsTuple a its.toArray := p
    obtain ⟨o, ho, _⟩ := id p2
    exact ⟨its, rv, Heap.lt_size ho, fun it i q => ⟨q, p2⟩, _, _, begins_tuple a its.toArray, p2, fun h' it e => ⟨_, e, rfl, rfl⟩⟩
  | false =>
    obtain ⟨its, rv, p, _⟩ := I.list h
    have p2 := p.isList
    exact ⟨its, rv, p.lt, fun it i q => ⟨q, p2⟩, _, _, begins_list a its.toArray, p2, fun h' it e => ⟨_, e, rfl, rfl⟩⟩
theorem injB {X : Cx} {pins : List (Addr × Obj)} {σ : L2.St} {H : Hp} {s : Shared} {t : Bool} {a : Addr} {xs ys : List V} (I : Inv X pins σ H s) (h : SqB X.K t H a xs) (h' : SqB X.K t H a ys) : xs = ys := by
  cases t with
  | true => exact I.tuple_inj h h'
  | false => exact I.list_inj h h'
/-- two sequences in step -/
def ItzB (K : PySem.W.Frag) (t1 t2 : Bool) (a b : Addr) : It :=
  ⟨fun i H => ∃ (xs ys : List V) (x y : V), SqB K t1 H a xs ∧ SqB K t2 H b ys ∧ xs[i]? = some x ∧ ys[i]? = some y,
    fun i H v H' => ∃ T x y, v = .ref T ∧ H T = none ∧ H' = upd H T (.tup [x, y]) ∧ (∀ xs, SqB K t1 H a xs → xs[i]? = some x) ∧ ∀ ys, SqB K t2 H b ys → ys[i]? = some y,
    fun i H => ∃ xs ys : List V, SqB K t1 H a xs ∧ SqB K t2 H b ys ∧ i ≤ xs.length ∧ i ≤ ys.length ∧ (i = xs.length ∨ i = ys.length)⟩
theorem turn_zipB {P : Program} {w : World} {K : PySem.W.Frag} {elts : List Expr} {kk : Nat} {tpos : Pos} {t1 t2 : Bool} {a b z TI TO i1 i2 : Addr} (D : ZipSep2 z TI TO i1 i2 [i1, a] [i2, b]) :
    Turn P w K (.Tuple elts kk tpos) (ItzB K t1 t2 a b) [z, TI, TO, i1, i2] z (fun i h => IsZip h z TI TO .none ∧ IsTupOf2 h TI (.ref i1) (.ref i2) ∧ (∃ x y, IsTupOf2 h TO x y) ∧ ItB t1 h i1 a i ∧ ItB t2 h i2 b i) where
  mem := by simp
  obj := fun i h st c hc => by
    obtain ⟨hz, hTI, ⟨x, y, hTO⟩, h1, h2⟩ := st
    have e' : c = z ∨ c = TI ∨ c = TO ∨ c = i1 ∨ c = i2 := by simpa using hc
    rcases e' with q | q | q | q | q
    · rw [q]; exact ⟨_, hz, fun v q => nomatch q⟩
    · rw [q]; exact ⟨_, hTI, fun v q => nomatch q⟩
    · rw [q]; exact ⟨_, hTO, fun v q => nomatch q⟩
    · rw [q]; exact h1.obj
    · rw [q]; exact h2.obj
  keep := fun i h h' st k => by
    obtain ⟨hz, hTI, ⟨x, y, hTO⟩, h1, h2⟩ := st
    exact ⟨k z (by simp) _ hz, k TI (by simp) _ hTI, ⟨x, y, k TO (by simp) _ hTO⟩, h1.at fun o q => k i1 (by simp) o q, h2.at fun o q => k i2 (by simp) o q⟩
  item := by
    intro X hP hw hK hc i pins s σ H E I hf st hg
    subst hP hw hK
    obtain ⟨hz, hTI, ⟨x0, y0, hTO⟩, h1, h2⟩ := st
    obtain ⟨xs, ys, x, y, hqx, hqy, hx, hy⟩ := hg
    obtain ⟨its, rv, la, st1, _⟩ := seqB I hqx
    obtain ⟨its2, rv2, lb, st2, _⟩ := seqB I hqy
    obtain ⟨u, hu, ru⟩ := rv.get hx
    obtain ⟨u2, hu2, ru2⟩ := rv2.get hy
    have hzl : z < s.heap.objs.size := Heap.lt_size hz
    have ne1 : a ≠ i1 := (st1 _ _ h1).ne
    have ne2 : b ≠ i2 := (st2 _ _ h2).ne
    have hh := I.ok.hd hc
    have lt1 : i < its.toArray.size := by
      have := (List.getElem?_eq_some_iff.mp hu).1
      simpa using this
    have lt2 : i < its2.toArray.size := by
      have := (List.getElem?_eq_some_iff.mp hu2).1
      simpa using this
    refine wpAny_pyNext_zipD2_item D (drawsB (A := X.A.in1) hh t1 i1 a ne1 its.toArray) (drawsB (A := X.A.in1) hh t2 i2 b ne2 its2.toArray) hz hTI hTO (st1 _ _ h1) (st2 _ _ h2) lt1 lt2 fun x1 x2 h' tk y1 y2 z' TO' s1' s2' hT hsz hk => ?_
    have ex1 : x1 = u := by
      have q : its.toArray[i]? = some x1 := y1
      rw [← Array.getElem?_toList] at q
      exact Option.some.inj (q.symm.trans hu)
    have ex2 : x2 = u2 := by
      have q : its2.toArray[i]? = some x2 := y2
      rw [← Array.getElem?_toList] at q
      exact Option.some.inj (q.symm.trans hu2)
    subst ex1 ex2
    refine ⟨_, rfl, wpAny_letOwnedTupleGo_zip (s := { s with heap := h', toks := tk }) z' fun h'' z'' sb => ?_⟩
    have hT2 : h''.get? s.heap.objs.size = some { cls := .type "tuple", data := .seq #[x1, x2] } := (sb.2 _ (Nat.ne_of_gt hzl)).trans hT
    have new : ObjOk X.prog X.w (upd H s.heap.objs.size (.tup [x, y])) h'' s.heap.objs.size (.tup [x, y]) :=
      ⟨by show 2 ≤ sizeLine; decide, [x1, x2], .cons ru (.cons ru2 .nil), ⟨_, hT2, rfl, _, rfl⟩⟩
    have I1 : Inv X pins σ (upd H s.heap.objs.size (.tup [x, y])) { s with heap := h'', toks := tk } :=
      I.turnedNew (t' := tk) (ch := [z, TI, TO, i1, i2]) (fun c o hb q => (sb.2 c (fun q' => hb (by simp [q']))).trans (hk c o (fun q' => hb (by simp [q'])) (fun q' => hb (by simp [q'])) (fun q' => hb (by simp [q'])) (fun q' => hb (by simp [q'])) q)) hf (Nat.le_refl _) new
    refine ⟨.ref s.heap.objs.size, _, I1, rfl, ⟨_, x, y, rfl, I.hok.fresh (Nat.le_refl _), rfl, fun l hl => by rw [injB I hl hqx]; exact hx, fun l hl => by rw [injB I hl hqy]; exact hy⟩, ⟨z'', ?_, ⟨x1, x2, ?_⟩, ?_, ?_⟩, fun c hcm => ?_⟩
    · exact (sb.2 _ D.TIz).trans (hk _ _ D.TIz D.TITO D.TIi1 D.TIi2 hTI)
    · exact (sb.2 _ D.TOz).trans TO'
    · exact s1'.it.at fun o q => (sb.2 _ D.zi1.symm).trans q
    · exact s2'.it.at fun o q => (sb.2 _ D.zi2.symm).trans q
    · have hlt : c < s.heap.objs.size := by
        have e' : c = z ∨ c = TI ∨ c = TO ∨ c = i1 ∨ c = i2 := by simpa using hcm
        rcases e' with q | q | q | q | q
        · rw [q]; exact hzl
        · rw [q]; exact Heap.lt_size hTI
        · rw [q]; exact Heap.lt_size hTO
        · rw [q]; obtain ⟨_, e1, _⟩ := h1.obj; exact Heap.lt_size e1
        · rw [q]; obtain ⟨_, e2, _⟩ := h2.obj; exact Heap.lt_size e2
      rw [upd_ne (Nat.ne_of_lt hlt)]
      exact (hf c hcm).1
  done := by
    intro X hP hw hK hc i pins s σ H E I hf st hg
    subst hP hw hK
    obtain ⟨hz, hTI, ⟨x0, y0, hTO⟩, h1, h2⟩ := st
    obtain ⟨xs, ys, hqx, hqy, hl1, hl2, hend⟩ := hg
    obtain ⟨its, rv, la, st1, _⟩ := seqB I hqx
    obtain ⟨its2, rv2, lb, st2, _⟩ := seqB I hqy
    have l1 := rv.length
    have l2 := rv2.length
    have ne1 : a ≠ i1 := (st1 _ _ h1).ne
    have ne2 : b ≠ i2 := (st2 _ _ h2).ne
    have hh := I.ok.hd hc
    exact wpAny_pyNext_zipD2_end D (drawsB (A := X.A.in1) hh t1 i1 a ne1 its.toArray) (drawsB (A := X.A.in1) hh t2 i2 b ne2 its2.toArray) hz hTI hTO (st1 _ _ h1) (st2 _ _ h2) (by simp; omega) (by simp; omega) (by simp; omega) fun h' tk hk => ⟨rfl, I.turnedL (t' := tk) (ch := [z, TI, TO, i1, i2]) (fun c o hb q =>
      hk c o (fun q' => hb (by simp [q'])) (fun q' => hb (by simp [q'])) (fun q' => hb (by simp [q'])) (fun q' => hb (by simp [q'])) q) hf⟩
  self := fun A i s Q E st h => wpAny_pyIter_zip st.1 h
def iZipB (K : PySem.W.Frag) (ta : TA) : TI := fun σ H R => ta σ H fun vs H1 => ∃ t1 t2 a b xs ys, vs = [.ref a, .ref b] ∧ SqB K t1 H1 a xs ∧ SqB K t2 H1 b ys ∧ R (ItzB K t1 t2 a b) H1
theorem pi_zipB {X : Cx} {e e2 : Expr} {ta : TA} {p pos tpos : Pos} {elts : List Expr} {kk : Nat} (hg : Gl X "zip") (hm : X.mg "zip" = none) (ha : PA X [e, e2] ta)
    (hs : starEach [e, e2] X.env = (false, eval e X.env) :: starEach [e2] X.env) (hpl : (backTo pos (starEach [e2] X.env)).any (·.1) = false) :
    PI X (.Tuple elts kk tpos) (.Call (.Name "zip" p) [e, e2] [] pos) (iZipB X.K ta) := by
  refine ⟨fun pins s σ H R I h => ?_⟩
  refine Call_ (ld_blt I hg hm PyProof.Rows.boot_zip (PyProof.Rows.callWith_type1 (thn (ha.run pos pins s σ H _ I h) fun us s1 ⟨vs, H1, I1, r1, q1⟩ => ?_) hs hpl))
  obtain ⟨t1, t2, a, b, xs, ys, ex, hqx, hqy, q⟩ := q1
  subst ex
  obtain ⟨u1, u2, rfl, r, r'⟩ := vals2 r1
  cases (show u1 = Value.ref a from r)
  cases (show u2 = Value.ref b from r')
  obtain ⟨its, rv, la, st1, o1, P1, B1, p1, k1⟩ := seqB I1 hqx
  obtain ⟨its2, rv2, lb, st2, o2, P2, B2, p2, k2⟩ := seqB I1 hqy
  refine zip_begins2 B1 B2 p1 p2 fun h' hz hTI hTO h1 h2 hsz hk => wpAny_pyIter_zip hz ?_
  have I2 : Inv X pins σ H1 { s1 with heap := h' } := I1.kept (t' := s1.toks) hk
  have sep := sep_nat s1.heap.objs.size a b la lb
  refine ⟨s1.heap.objs.size + 4, [s1.heap.objs.size + 4, s1.heap.objs.size + 2, s1.heap.objs.size + 3, s1.heap.objs.size, s1.heap.objs.size + 1], _, _, H1, rfl, I2, turn_zipB sep, ⟨hz, hTI, ⟨_, _, hTO⟩, k1 _ _ h1, k2 _ _ h2⟩, fun c hcm => ?_, q⟩
  have e' : c = s1.heap.objs.size + 4 ∨ c = s1.heap.objs.size + 2 ∨ c = s1.heap.objs.size + 3 ∨ c = s1.heap.objs.size ∨ c = s1.heap.objs.size + 1 := by simpa using hcm
  have hle : s1.heap.objs.size ≤ c := by
    rcases e' with z | z | z | z | z
    · rw [z]; exact Nat.le_add_right _ _
    · rw [z]; exact Nat.le_add_right _ _
    · rw [z]; exact Nat.le_add_right _ _
    · rw [z]; exact Nat.le_refl _
    · rw [z]; exact Nat.le_add_right _ _
  exact I1.fpOk hle (I1.hok.fresh hle)
theorem walk_zipB {K : PySem.W.Frag} {t1 t2 : Bool} {a b : Addr} {xs ys : List V} {n : Nat} (hn : n = min xs.length ys.length) : Walk (ItzB K t1 t2 a b) n (fun H => SqB K t1 H a xs ∧ SqB K t2 H b ys) (YPair (fun i => xs[i]?) (fun i => ys[i]?)) := by
  subst hn
  refine ⟨fun i _ hi q => ?_, fun _ q => ⟨xs, ys, q.1, q.2, by omega, by omega, by omega⟩, fun i H v H' _ q y => ?_⟩
  · have h1 : i < xs.length := by omega
    have h2 : i < ys.length := by omega
    exact ⟨xs, ys, xs[i], ys[i], q.1, q.2, by simp [h1], by simp [h2]⟩
  · obtain ⟨T, x, z, h1, h2, h3, h4, h5⟩ := y
    exact ⟨T, x, z, h1, h2, h3, h4 xs q.1, h5 ys q.2⟩
end MP
set_option Elab.async false
set_option linter.all false
set_option maxRecDepth 100000
set_option maxHeartbeats 4000000
/-! MPIter: what is walked; targets. -/
namespace MP
open PySem PySem.Spec PyProof.Rows L2
def ItmR (K : PySem.W.Frag) (w : Wd) : Itm → V → Prop
  | .one r, v => Rel K w r v
  | .tup rs, v => ∃ T vs, v = .ref T ∧ w.H T = some (.tup vs) ∧ Rels K w rs vs
structure WalkR (K : PySem.W.Frag) (w : Wd) (J : It) (xs : List Itm) (gd : Gd) : Prop where
  ex : ∃ (G : Hp → Prop) (Y : Nat → Hp → V → Hp → Prop), Walk J xs.length G Y ∧ (∀ w2 S2, Mono w w2 → SR K w2 S2 → gdOk S2 gd = true → G w2.H) ∧
    (∀ i x v H' w2 S2, Mono w w2 → SR K w2 S2 → gdOk S2 gd = true → xs[i]? = some x → Y i w2.H v H' → ∃ w3, w3.H = H' ∧ Ext w2 w3 ∧ SR K w3 S2 ∧ ItmR K w3 x v)
open Classical in
theorem gd_iff {S : Store} {g : Gd} : gdOk S g = true ↔ ∀ q ∈ g, S[q.1]? = some q.2 := by
  unfold gdOk
  exact decide_eq_true_iff
theorem gd_app {S : Store} {a b : Gd} (h : gdOk S (a ++ b) = true) : gdOk S a = true ∧ gdOk S b = true := by
  have h := gd_iff.mp h
  exact ⟨gd_iff.mpr fun q hq => h q (List.mem_append_left _ hq), gd_iff.mpr fun q hq => h q (List.mem_append_right _ hq)⟩
theorem gd_one {S : Store} {k : Nat} {c : Cell} (h : gdOk S [(k, c)] = true) : S[k]? = some c := gd_iff.mp h (k, c) List.mem_cons_self
section
variable {K : PySem.W.Frag} {w : Wd} {S : Store}
/-- a list or a tuple, from now on -/
def Src (K : PySem.W.Frag) (w : Wd) (t : Bool) (a : Addr) (rs : List R) (gd : Gd) : Prop := ∀ w2 S2, Mono w w2 → SR K w2 S2 → gdOk S2 gd = true → ∃ vs, SqB K t w2.H a vs ∧ Rels K w2 rs vs
theorem src {x : R} {u : V} {rs : List R} {S' : Store} (s : SR K w S) (r : Rel K w x u) (h : walkR x S = .ok rs S') : S' = S ∧ ∃ a, u = .ref a ∧ Src K w (isTup S x) a rs (guardR S x) := by
  cases x with
  | exc c ns l => exact r.elim
  | dat d =>
    cases d with
    | lst l =>
      cases (show Res.ok (l.map R.dat) S = Res.ok rs S' from h)
      obtain ⟨a, vs, e, nl, h1, hz, h2⟩ := r
      exact ⟨rfl, a, e, fun w2 S2 x2 _ _ => ⟨vs, .of (x2.keep _ _ nl h1).2, (Reps.imp x2.keep _ _ h2).dat⟩⟩
    | tup l =>
      cases (show Res.ok (l.map R.dat) S = Res.ok rs S' from h)
      obtain ⟨a, vs, e, nl, h1, hz, h2⟩ := r
      exact ⟨rfl, a, e, fun w2 S2 x2 _ _ => ⟨vs, .of (x2.keep _ _ nl h1).2, (Reps.imp x2.keep _ _ h2).dat⟩⟩
    | _ => cases h
  | own k =>
    obtain ⟨hk, e⟩ := r
    obtain ⟨c, hc, hr⟩ := s.get hk
    have eg : guardR S (.own k) = [(k, c)] := by
      unfold guardR
      simp only [hc]
    rw [eg]
    cases c with
    | obj c ns rs =>
      unfold walkR itemsR at h
      simp only [hc] at h
      cases h
    | lst qs =>
      unfold walkR itemsR at h
      simp only [hc] at h
      cases h
      have et : isTup S (.own k) = false := by
        unfold isTup
        simp only [hc]
      rw [et]
      refine ⟨rfl, w.p k, e, fun w2 S2 x2 s2 g => ?_⟩
      have q := gd_one g
      obtain ⟨vs, h1, _, h2⟩ := s2.cell k _ q
      rw [x2.p k hk] at h1
      exact ⟨vs, .of h1, h2⟩
    | tup qs =>
      unfold walkR itemsR at h
      simp only [hc] at h
      cases h
      have et : isTup S (.own k) = true := by
        unfold isTup
        simp only [hc]
      rw [et]
      refine ⟨rfl, w.p k, e, fun w2 S2 x2 s2 g => ?_⟩
      have q := gd_one g
      obtain ⟨vs, h1, _, h2⟩ := s2.cell k _ q
      rw [x2.p k hk] at h1
      exact ⟨vs, .of h1, h2⟩
def ItS (K : PySem.W.Frag) (t : Bool) (a : Addr) : It := match t with
  | true => Itt K a
  | false => Itl K a
theorem walk_seq {t : Bool} {a : Addr} {n : Nat} : Walk (ItS K t a) n (fun H => ∃ vs, SqB K t H a vs ∧ vs.length = n) (fun i H x H' => H' = H ∧ ∀ xs, SqB K t H a xs → xs[i]? = some x) := by
  cases t with
  | true =>
    refine ⟨fun i H hi ⟨vs, q, l⟩ => ?_, fun H ⟨vs, q, l⟩ => ⟨vs, q, Nat.le_of_eq l⟩, fun i H x H' hi q y => y⟩
    exact ⟨vs, vs[i]'(by omega), q, List.getElem?_eq_getElem _⟩
  | false =>
    refine ⟨fun i H hi ⟨vs, q, l⟩ => ?_, fun H ⟨vs, q, l⟩ => ⟨vs, q, Nat.le_of_eq l⟩, fun i H x H' hi q y => y⟩
    exact ⟨vs, vs[i]'(by omega), q, List.getElem?_eq_getElem _⟩
theorem walkR_seq {t : Bool} {a : Addr} {rs : List R} {gd : Gd} (h : Src K w t a rs gd) : WalkR K w (ItS K t a) (rs.map .one) gd := by
  refine ⟨_, _, walk_seq (n := (rs.map Itm.one).length), fun w2 S2 x2 s2 g => ?_, fun i x v H' w2 S2 x2 s2 g hx y => ?_⟩
  · obtain ⟨vs, q, r⟩ := h w2 S2 x2 s2 g
    exact ⟨vs, q, by rw [← r.length, List.length_map]⟩
  · obtain ⟨vs, q, r⟩ := h w2 S2 x2 s2 g
    obtain ⟨e, y⟩ := y
    have y := y vs q
    rw [List.getElem?_map] at hx
    cases er : rs[i]? with
    | none => rw [er] at hx; cases hx
    | some z =>
      rw [er] at hx
      cases hx
      obtain ⟨v', e2, r2⟩ := r.get er
      rw [y] at e2
      cases e2
      exact ⟨w2, e.symm, Ext.refl _, s2, r2⟩
theorem rng_len : ∀ (n : Nat) (lo : Int), (rngI lo n).length = n
  | 0, _ => rfl
  | n + 1, lo => by
    show (rngI (lo + 1) n).length + 1 = _
    rw [rng_len n]
theorem rng_get : ∀ (n : Nat) (lo : Int) (i : Nat) (x : Itm), (rngI lo n)[i]? = some x → x = .one (.dat (.int (lo + i)))
  | 0, lo, i, x, h => by cases h
  | n + 1, lo, 0, x, h => by
    cases (show some (Itm.one (.dat (.int lo))) = some x from h)
    simp
  | n + 1, lo, i + 1, x, h => by
    rw [rng_get n (lo + 1) i x h]
    have e : lo + 1 + (i : Int) = lo + ((i + 1 : Nat) : Int) := by omega
    rw [e]
theorem walkR_rng {lo : Int} {n : Nat} {gd : Gd} : WalkR K w (Itr lo n) (rngI lo n) gd := by
  refine ⟨fun _ => True, YFn fun i => .int (lo + i), by rw [rng_len]; exact walk_range, fun _ _ _ _ _ => trivial, fun i x v H' w2 S2 x2 s2 g hx y => ?_⟩
  obtain ⟨e, y⟩ := y
  subst y
  rw [rng_get _ _ _ _ hx]
  exact ⟨w2, e.symm, Ext.refl _, s2, rfl⟩
theorem enum_get : ∀ (rs : List R) (n i : Nat) (x : Itm), (enumI n rs)[i]? = some x → ∃ r, rs[i]? = some r ∧ x = .tup [.dat (.int ((n + i : Nat) : Int)), r]
  | [], n, i, x, h => by cases h
  | r :: rs, n, 0, x, h => by
    cases (show some (Itm.tup [.dat (.int (n : Int)), r]) = some x from h)
    exact ⟨r, rfl, rfl⟩
  | r :: rs, n, i + 1, x, h => by
    obtain ⟨r, h1, h2⟩ := enum_get rs (n + 1) i x h
    have e : n + 1 + i = n + (i + 1) := by omega
    exact ⟨r, h1, by rw [h2, e]⟩
theorem enum_len : ∀ (rs : List R) (n : Nat), (enumI n rs).length = rs.length
  | [], _ => rfl
  | _ :: rs, n => by
    show (enumI (n + 1) rs).length + 1 = rs.length + 1
    rw [enum_len rs]
theorem tup2 {w : Wd} {S : Store} {T : Addr} {x y : V} {a b : R} (s : SR K w S) (h : w.H T = none) (ra : Rel K w a x) (rb : Rel K w b y) : ∃ w3, w3.H = upd w.H T (.tup [x, y]) ∧ Ext w w3 ∧ SR K w3 S ∧ ItmR K w3 (.tup [a, b]) (.ref T) :=
  ⟨w.new T (.tup [x, y]), rfl, ext_new s h, s.new h, T, [x, y], rfl, new_same, x, [y], rfl, ra.ext (ext_new s h), y, [], rfl, rb.ext (ext_new s h), rfl⟩
theorem walkR_enum {a : Addr} {rs : List R} {gd : Gd} (h : Src K w false a rs gd) : WalkR K w (Ite K a) (enumI 0 rs) gd := by
  refine ⟨fun H => ∃ vs, SqL K H a vs ∧ vs.length = (enumI 0 rs).length, fun i H v H' => ∃ T x, v = .ref T ∧ H T = none ∧ H' = upd H T (.tup [.int (i : Nat), x]) ∧ ∀ xs, SqL K H a xs → xs[i]? = some x,
    ⟨fun i H hi ⟨vs, q, l⟩ => ⟨vs, vs[i]'(by omega), q, List.getElem?_eq_getElem _⟩, fun H ⟨vs, q, l⟩ => ⟨vs, q, Nat.le_of_eq l⟩, fun i H x H' hi q y => y⟩, fun w2 S2 x2 s2 g => ?_, fun i x v H' w2 S2 x2 s2 g hx y => ?_⟩
  · obtain ⟨vs, q, r⟩ := h w2 S2 x2 s2 g
    exact ⟨vs, q, by rw [← r.length, enum_len]⟩
  · obtain ⟨vs, q, r⟩ := h w2 S2 x2 s2 g
    obtain ⟨T, y, e, hT, eH, hy⟩ := y
    subst e eH
    obtain ⟨z, hz, ex⟩ := enum_get _ _ _ _ hx
    obtain ⟨v', e2, r2⟩ := r.get hz
    rw [hy vs q] at e2
    cases e2
    rw [ex, Nat.zero_add]
    exact tup2 s2 hT rfl r2
theorem zip_get : ∀ (rs qs : List R) (i : Nat) (x : Itm), (zipI rs qs)[i]? = some x → ∃ r q, rs[i]? = some r ∧ qs[i]? = some q ∧ x = .tup [r, q]
  | [], qs, i, x, h => by cases h
  | r :: rs, [], i, x, h => by cases h
  | r :: rs, q :: qs, 0, x, h => by
    cases (show some (Itm.tup [r, q]) = some x from h)
    exact ⟨r, q, rfl, rfl, rfl⟩
  | r :: rs, q :: qs, i + 1, x, h => zip_get rs qs i x h
theorem zip_len : ∀ (rs qs : List R), (zipI rs qs).length = min rs.length qs.length
  | [], qs => by simp [zipI]
  | r :: rs, [] => by simp [zipI]
  | r :: rs, q :: qs => by
    show (zipI rs qs).length + 1 = min (rs.length + 1) (qs.length + 1)
    rw [zip_len rs qs]
    omega
theorem walkR_zip {t1 t2 : Bool} {a b : Addr} {rs qs : List R} {g1 g2 : Gd} (h1 : Src K w t1 a rs g1) (h2 : Src K w t2 b qs g2) : WalkR K w (ItzB K t1 t2 a b) (zipI rs qs) (g1 ++ g2) := by
  refine ⟨fun H => ∃ xs ys, SqB K t1 H a xs ∧ SqB K t2 H b ys ∧ xs.length = rs.length ∧ ys.length = qs.length, fun i H v H' => ∃ T x y, v = .ref T ∧ H T = none ∧ H' = upd H T (.tup [x, y]) ∧ (∀ xs, SqB K t1 H a xs → xs[i]? = some x) ∧ ∀ ys, SqB K t2 H b ys → ys[i]? = some y,
    ⟨fun i H hi ⟨xs, ys, q1, q2, l1, l2⟩ => ?_, fun H ⟨xs, ys, q1, q2, l1, l2⟩ => ?_, fun i H x H' hi q y => y⟩, fun w2 S2 x2 s2 g => ?_, fun i x v H' w2 S2 x2 s2 g hx y => ?_⟩
  · rw [zip_len] at hi
    exact ⟨xs, ys, xs[i]'(by omega), ys[i]'(by omega), q1, q2, List.getElem?_eq_getElem _, List.getElem?_eq_getElem _⟩
  · rw [zip_len]
    exact ⟨xs, ys, q1, q2, by omega, by omega, by omega⟩
  · obtain ⟨xs, q1, r1⟩ := h1 w2 S2 x2 s2 (gd_app g).1
    obtain ⟨ys, q2, r2⟩ := h2 w2 S2 x2 s2 (gd_app g).2
    exact ⟨xs, ys, q1, q2, r1.length.symm, r2.length.symm⟩
  · obtain ⟨xs, q1, r1⟩ := h1 w2 S2 x2 s2 (gd_app g).1
    obtain ⟨ys, q2, r2⟩ := h2 w2 S2 x2 s2 (gd_app g).2
    obtain ⟨T, y, z, e, hT, eH, hy, hz⟩ := y
    subst e eH
    obtain ⟨c, d, ec, ed, ex⟩ := zip_get _ _ _ _ hx
    obtain ⟨v', e2, r3⟩ := r1.get ec
    obtain ⟨v2, e3, r4⟩ := r2.get ed
    rw [hy xs q1] at e2
    cases e2
    rw [hz ys q2] at e3
    cases e3
    rw [ex]
    exact tup2 s2 hT r3 r4
end
/-! ### what is walked, as an expression -/
def IOk (X : Cx) (xr : XR) (W : WX) (tg iter : Expr) (m : MP.Env → M (List Itm × Gd)) : Prop :=
  ∃ wi, PI X tg iter wi ∧ ∀ σ w S ρ (Q : It → Hp → Prop), EnvR X.K xr w σ ρ → SR X.K w S → Hop X.K (fun w a J => WalkR X.K w J a.1 a.2) (WE W σ) w Q (m ρ S) → wi σ w.H Q
section
variable {X : Cx} {xr : XR} {W : WX} {tg a b e : Expr} {ma mb : MP.Env → M R} {pos p0 tpos : Pos} {elts : List Expr} {kk : Nat}
theorem pi_seq {te : TE} (he : PE X e te) : PI X tg e (fun σ H R => te σ H fun x H1 => ∃ t a xs, x = .ref a ∧ SqB X.K t H1 a xs ∧ R (ItS X.K t a) H1) := by
  refine ⟨fun pins s σ H R I h => ?_⟩
  refine thn (he.run pins s σ H _ I h) fun v s1 ⟨x, H1, I1, r1, t, a, xs, ex, hq, q⟩ => ?_
  subst ex
  cases (show v = Value.ref a from r1)
  cases t with
  | true =>
    obtain ⟨its, rv, p, hz⟩ := I1.tuple hq
    exact wpAny_pyIter_tuple (show s1.heap.IsTuple a its.toArray from p) (pi_one (tk := s1.toks) I1 _ (turn_tuple a _) ⟨_, Heap.get?_push_size _ rfl, rfl, rfl⟩ q)
  | false =>
    obtain ⟨its, rv, p, hz⟩ := I1.list hq
    exact wpAny_pyIter_list p.isList (pi_one (tk := s1.toks) I1 _ (turn_list a _) ⟨_, Heap.get?_push_size _ rfl, rfl, rfl⟩ q)
theorem Src.now {K : PySem.W.Frag} {w : Wd} {S : Store} {t : Bool} {a : Addr} {rs : List R} {x : R} (h : Src K w t a rs (guardR S x)) (s : SR K w S) : ∃ vs, SqB K t w.H a vs ∧ Rels K w rs vs := by
  refine h w S (Ext.refl _).mono s ?_
  unfold guardR
  cases x with
  | dat d => exact gd_iff.mpr fun q hq => by cases hq
  | exc c ns l => exact gd_iff.mpr fun q hq => by cases hq
  | own k =>
    cases e : S[k]? with
    | none => exact gd_iff.mpr fun q hq => by simp only [e] at hq; cases hq
    | some c =>
      refine gd_iff.mpr fun q hq => ?_
      simp only [e] at hq
      have hq := List.mem_singleton.mp hq
      rw [hq]
      exact e
theorem i_of (ha : EOk X xr W a ma) : IOk X xr W tg a (fun ρ => M.bind (ma ρ) fun x => M.bind (walkR x) fun rs => fun S => .ok (rs.map .one, guardR S x) S) := by
  obtain ⟨ta, pa, qa⟩ := ha
  refine ⟨_, pi_seq pa, fun σ w S ρ Q er sr h => qa σ w S ρ _ er sr (h.bind fun w1 x u S1 e1 s1 rx h1 => ?_)⟩
  unfold M.bind at h1
  cases e : walkR x S1 with
  | stuck => simp only [e] at h1; exact h1.elim
  | exc c ns l S' =>
    exfalso
    unfold walkR at e
    split at e <;> cases e
  | ok rs S' =>
    obtain ⟨e2, c, eu, hs⟩ := src s1 rx e
    subst e2
    simp only [e] at h1
    obtain ⟨vs, q, _⟩ := hs.now s1
    exact ⟨_, c, vs, eu, q, h1 w1 _ (Ext.refl _) s1 (walkR_seq hs)⟩
theorem i_rng1 (hg : Gl X "range") (hm : X.mg "range" = none) (hs : starEach [a] X.env = (false, eval a X.env) :: starEach [] X.env) (ha : EOk X xr W a ma) :
    IOk X xr W tg (.Call (.Name "range" p0) [a] [] pos) (fun ρ => M.bind (ma ρ) fun x => match x with
      | .dat (.int i) => if rngOk i = true then M.pure (rngI 0 i.toNat, []) else M.stuck
      | _ => M.stuck) := by
  obtain ⟨ta, pa, qa⟩ := ha
  refine ⟨_, pi_range1 hg hm (pa_cons pa pa_nil hs) hs, fun σ w S ρ Q er sr h => qa σ w S ρ _ er sr (h.bind fun w1 x u S1 e1 s1 rx h1 => ?_)⟩
  cases x with
  | own k => exact h1.elim
  | exc c ns l => exact h1.elim
  | dat d =>
    cases d with
    | int i =>
      dsimp only at h1
      by_cases z : rngOk i = true
      · rw [if_pos z] at h1
        have z2 := of_decide_eq_true z
        cases (show u = .int i from rx)
        exact ⟨i, rfl, by omega, by omega, h1 w1 _ (Ext.refl _) s1 walkR_rng⟩
      · rw [if_neg z] at h1
        exact h1.elim
    | _ => exact h1.elim
theorem i_rng2 (hx : xr.Ok) (hg : Gl X "range") (hm : X.mg "range" = none) (hs : starEach [a, b] X.env = (false, eval a X.env) :: starEach [b] X.env) (hs2 : starEach [b] X.env = (false, eval b X.env) :: starEach [] X.env) (hn : starEach [] X.env = []) (ha : EOk X xr W a ma) (hb : EOk X xr W b mb) :
    IOk X xr W tg (.Call (.Name "range" p0) [a, b] [] pos) (fun ρ => M.bind (ma ρ) fun x => M.bind (mb ρ) fun y => match x, y with
      | .dat (.int i), .dat (.int j) => if rngOk i = true ∧ rngOk j = true then M.pure (rngI i (j - i).toNat, []) else M.stuck
      | _, _ => M.stuck) := by
  obtain ⟨ta, pa, qa⟩ := ha
  obtain ⟨tb, pb, qb⟩ := hb
  refine ⟨_, pi_range2 hg hm (pa_cons pa (pa_cons pb pa_nil hs2) hs) (by rw [hs, hs2, hn]) (by rw [hs2, hn]), fun σ w S ρ Q er sr h => qa σ w S ρ _ er sr (h.bind fun w1 x u S1 e1 s1 rx h1 => qb σ w1 S1 ρ _ (er.ext hx e1) s1 (h1.bind fun w2 y v S2 e2 s2 ry h2 => ?_))⟩
  cases x with
  | own k => exact h2.elim
  | exc c ns l => exact h2.elim
  | dat d =>
    cases d with
    | int i =>
      cases y with
      | own k => exact h2.elim
      | exc c ns l => exact h2.elim
      | dat d =>
        cases d with
        | int j =>
          dsimp only at h2
          by_cases z : rngOk i = true ∧ rngOk j = true
          · rw [if_pos z] at h2
            have z2 := of_decide_eq_true z.1
            have z3 := of_decide_eq_true z.2
            cases (show u = .int i from rx)
            cases (show v = .int j from ry)
            exact ⟨i, j, rfl, ⟨by omega, by omega, by omega, by omega⟩, h2 w2 _ (Ext.refl _) s2 walkR_rng⟩
          · rw [if_neg z] at h2
            exact h2.elim
        | _ => exact h2.elim
    | _ => cases y <;> exact h2.elim
theorem i_enum (hg : Gl X "enumerate") (hm : X.mg "enumerate" = none) (hs : starEach [a] X.env = (false, eval a X.env) :: starEach [] X.env) (ha : EOk X xr W a ma) :
    IOk X xr W (.Tuple elts kk tpos) (.Call (.Name "enumerate" p0) [a] [] pos) (fun ρ => M.bind (ma ρ) fun x => M.bind (walkR x) fun rs => fun S => if isTup S x = true then .stuck else .ok (enumI 0 rs, guardR S x) S) := by
  obtain ⟨ta, pa, qa⟩ := ha
  refine ⟨_, pi_enum hg hm (pa_cons pa pa_nil hs) hs, fun σ w S ρ Q er sr h => qa σ w S ρ _ er sr (h.bind fun w1 x u S1 e1 s1 rx h1 => ?_)⟩
  unfold M.bind at h1
  cases e : walkR x S1 with
  | stuck => simp only [e] at h1; exact h1.elim
  | exc c ns l S' =>
    exfalso
    unfold walkR at e
    split at e <;> cases e
  | ok rs S' =>
    obtain ⟨e2, c, eu, hs⟩ := src s1 rx e
    subst e2
    simp only [e] at h1
    by_cases z : isTup S' x = true
    · rw [if_pos z] at h1
      exact h1.elim
    · rw [if_neg z] at h1
      have z2 : isTup S' x = false := by simpa using z
      rw [z2] at hs
      obtain ⟨vs, q, _⟩ := hs.now s1
      subst eu
      exact ⟨c, vs, rfl, q, h1 w1 _ (Ext.refl _) s1 (walkR_enum hs)⟩
theorem i_zip (hx : xr.Ok) (hg : Gl X "zip") (hm : X.mg "zip" = none) (hs : starEach [a, b] X.env = (false, eval a X.env) :: starEach [b] X.env) (hs2 : starEach [b] X.env = (false, eval b X.env) :: starEach [] X.env) (hpl : (backTo pos (starEach [b] X.env)).any (·.1) = false) (ha : EOk X xr W a ma) (hb : EOk X xr W b mb) :
    IOk X xr W (.Tuple elts kk tpos) (.Call (.Name "zip" p0) [a, b] [] pos) (fun ρ => M.bind (ma ρ) fun x => M.bind (mb ρ) fun y => M.bind (walkR x) fun rs => M.bind (walkR y) fun qs => fun S => .ok (zipI rs qs, guardR S x ++ guardR S y) S) := by
  obtain ⟨ta, pa, qa⟩ := ha
  obtain ⟨tb, pb, qb⟩ := hb
  refine ⟨_, pi_zipB hg hm (pa_cons pa (pa_cons pb pa_nil hs2) hs) hs hpl, fun σ w S ρ Q er sr h => qa σ w S ρ _ er sr (h.bind fun w1 x u S1 e1 s1 rx h1 => qb σ w1 S1 ρ _ (er.ext hx e1) s1 (h1.bind fun w2 y v S2 e2 s2 ry h2 => ?_))⟩
  have rx := rx.ext e2
  unfold M.bind at h2
  cases e : walkR x S2 with
  | stuck => simp only [e] at h2; exact h2.elim
  | exc c ns l S' =>
    exfalso
    unfold walkR at e
    split at e <;> cases e
  | ok rs S' =>
    obtain ⟨e3, c, eu, hs⟩ := src s2 rx e
    subst e3
    simp only [e] at h2
    cases e4 : walkR y S' with
    | stuck => simp only [e4] at h2; exact h2.elim
    | exc c ns l S' =>
      exfalso
      unfold walkR at e4
      split at e4 <;> cases e4
    | ok qs S'' =>
      obtain ⟨e5, d, ev, ht⟩ := src s2 ry e4
      subst e5
      simp only [e4] at h2
      obtain ⟨vs, q, _⟩ := hs.now s2
      obtain ⟨us, q2, _⟩ := ht.now s2
      subst eu ev
      exact ⟨_, _, c, d, vs, us, rfl, q, q2, h2 w2 _ (Ext.refl _) s2 (walkR_zip hs ht)⟩
end
/-! ### targets -/
def IT.ix : IT → List Nat
  | .one i _ _ => [i]
  | .many l _ _ => l.map (·.1)
def gNames : List (Nat × Str × Pos) → TGs
  | [] => gNil
  | q :: l => gCons (gName q.1) (gNames l)
def gT (K : PySem.W.Frag) : IT → TG
  | .one i _ _ => gName i
  | .many l _ _ => gTup K l.length (gNames l)
theorem aeach (env : PySem.Env) : ∀ l : List (Nat × Str × Pos), (assignEach (l.map fun q => Expr.Name q.2.1 q.2.2) env).length = l.length ∧ (assignEach (l.map fun q => Expr.Name q.2.1 q.2.2) env).findIdx? (·.1) = none
  | [] => ⟨rfl, rfl⟩
  | q :: l => by
    obtain ⟨h1, h2⟩ := aeach env l
    have e : assignEach ((q :: l).map fun q => Expr.Name q.2.1 q.2.2) env = (false, assign (.Name q.2.1 q.2.2) env) :: assignEach (l.map fun q => Expr.Name q.2.1 q.2.2) env := rfl
    rw [e]
    refine ⟨by rw [List.length_cons, h1]; rfl, ?_⟩
    rw [List.findIdx?_cons, h2]
    rfl
/-- the names of a target can be stored -/
def NmOk (X : Cx) (i : Nat) (x : Str) : Prop := X.N[i]? = some x ∧ Loc X.env.scope x ∧ (X.fn x = true ∨ X.env.scope.names.lookup x = some .local)
def ITOk (X : Cx) : IT → Prop
  | .one i x _ => NmOk X i x
  | .many l _ _ => X.calm = true ∧ ∀ q ∈ l, NmOk X q.1 q.2.1
section
variable {X : Cx} {xr : XR}
theorem pgs_names (hN : X.N.Nodup) : ∀ l : List (Nat × Str × Pos), (∀ q ∈ l, NmOk X q.1 q.2.1) → PGs X (l.map fun q => Expr.Name q.2.1 q.2.2) (gNames l)
  | [], _ => pgs_nil
  | q :: l, h => by
    obtain ⟨h1, h2, h3⟩ := h q List.mem_cons_self
    exact pgs_cons (pg_name hN h1 h2 h3) (pgs_names hN l fun p hp => h p (List.mem_cons_of_mem _ hp)) rfl
theorem pg_T (hN : X.N.Nodup) : ∀ t : IT, ITOk X t → PG X t.e (gT X.K t)
  | .one i x p, h => pg_name hN h.1 h.2.1 h.2.2
  | .many l k p, h => pg_tup h.1 (pgs_names hN l h.2) (aeach X.env l).1 (aeach X.env l).2
theorem wipe_none {σ : L2.St} {i : Nat} : ∀ {vs : List Nat}, wipe (σ.set i none) vs = (wipe σ vs).set i none
  | [] => rfl
  | v :: vs => by
    show (wipe (σ.set i none) vs).set v none = ((wipe σ vs).set v none).set i none
    rw [wipe_none]
    by_cases h : i = v
    · rw [h]
    · rw [List.set_comm _ _ h]
theorem wipe_get {σ : L2.St} {i j : Nat} {x : Option V} : ∀ {vs : List Nat}, i ∈ vs → wipe (σ.set i x) vs = wipe σ vs
  | v :: vs, h => by
    by_cases q : i ∈ vs
    · show (wipe (σ.set i x) vs).set v none = (wipe σ vs).set v none
      rw [wipe_get (j := j) q]
    · have e : i = v := by
        rcases List.mem_cons.mp h with z | z
        · exact z
        · exact absurd z q
      subst e
      have out : ∀ (us : List Nat), i ∉ us → wipe (σ.set i x) us = (wipe σ us).set i x := by
        intro us
        induction us with
        | nil => intro _; rfl
        | cons u us ih =>
          intro hu
          show (wipe (σ.set i x) us).set u none = ((wipe σ us).set u none).set i x
          rw [ih fun z => hu (List.mem_cons_of_mem _ z), List.set_comm _ _ fun z => hu (by rw [z]; exact List.mem_cons_self)]
      show (wipe (σ.set i x) vs).set i none = (wipe σ vs).set i none
      rw [out vs q, List.set_set]
theorem wipe_wipe {σ : L2.St} {vs : List Nat} : ∀ {us : List Nat}, (∀ i ∈ us, i ∈ vs) → wipe (wipe σ us) vs = wipe σ vs
  | [], _ => rfl
  | u :: us, h => by
    show wipe ((wipe σ us).set u none) vs = _
    rw [wipe_get (j := 0) (h u List.mem_cons_self)]
    exact wipe_wipe fun i hi => h i (List.mem_cons_of_mem _ hi)
theorem g_names {K : PySem.W.Frag} {w : Wd} : ∀ {l : List (Nat × Str × Pos)} {rs : List R} {ρ ρ' : MP.Env} {vs : List V} {σ : L2.St} {Q : L2.St → Hp → Prop}, setM l rs ρ = some ρ' → Rels K w rs vs → EnvR K xr w σ ρ →
    (∀ σ', EnvR K xr w σ' ρ' → (∀ us, (∀ i ∈ l.map (·.1), i ∈ us) → wipe σ' us = wipe σ us) → Q σ' w.H) → gNames l vs σ w.H Q ∧ vs.length = l.length
  | [], [], ρ, ρ', vs, σ, Q, h, r, er, k => by
    cases (show some ρ = some ρ' from h)
    have e : vs = [] := r
    subst e
    exact ⟨⟨rfl, k σ er fun us _ => rfl⟩, rfl⟩
  | [], r :: rs, ρ, ρ', vs, σ, Q, h, _, er, k => by cases h
  | q :: l, [], ρ, ρ', vs, σ, Q, h, _, er, k => by cases h
  | q :: l, r :: rs, ρ, ρ', vs, σ, Q, h, ⟨v, vr, e, h1, h2⟩, er, k => by
    subst e
    have er2 := er.set (i := q.1) h1.toX
    obtain ⟨g, hl⟩ := g_names (l := l) (rs := rs) (Q := Q) (show setM l rs (ρ.set q.1 (some r)) = some ρ' from h) h2 er2 fun σ' e3 hw => k σ' e3 fun us hu => by
      rw [hw us fun i hi => hu i (List.mem_cons_of_mem _ hi)]
      exact wipe_get (j := 0) (hu q.1 List.mem_cons_self)
    exact ⟨⟨v, vr, rfl, g⟩, by rw [List.length_cons, hl]; rfl⟩
theorem g_ok {K : PySem.W.Frag} {w : Wd} {S : Store} {t : IT} {x : Itm} {ρ ρ' : MP.Env} {v : V} {σ : L2.St} {Q : L2.St → Hp → Prop} (hb : bindT t x ρ S = some ρ') (er : EnvR K xr w σ ρ) (sr : SR K w S) (hi : ItmR K w x v)
    (k : ∀ σ', EnvR K xr w σ' ρ' → (∀ us, (∀ i ∈ t.ix, i ∈ us) → wipe σ' us = wipe σ us) → Q σ' w.H) : gT K t v σ w.H Q := by
  cases t with
  | one i y p =>
    cases x with
    | tup rs => cases hb
    | one r =>
      cases (show some (ρ.set i (some r)) = some ρ' from hb)
      exact k _ (er.set (Rel.toX hi)) fun us hu => wipe_get (j := 0) (hu i List.mem_cons_self)
  | many l kk p =>
    cases x with
    | tup rs =>
      obtain ⟨T, vs, e, hT, hr⟩ := hi
      obtain ⟨g, hl⟩ := g_names (Q := Q) (show setM l rs ρ = some ρ' from hb) hr er k
      exact ⟨T, vs, e, .of hT, hl, g⟩
    | one r =>
      cases r with
      | exc c ns l => cases hb
      | dat d =>
        cases d with
        | tup ds =>
          obtain ⟨T, vs, e, _, hT, _, hr⟩ := hi
          obtain ⟨g, hl⟩ := g_names (Q := Q) (show setM l (ds.map .dat) ρ = some ρ' from hb) hr.dat er k
          exact ⟨T, vs, e, .of hT, hl, g⟩
        | _ => cases hb
      | own j =>
        obtain ⟨hj, e⟩ := hi
        obtain ⟨c, hc, hr⟩ := sr.get hj
        unfold bindT at hb
        cases c with
        | lst rs => simp only [hc] at hb; cases hb
        | obj c ns rs => simp only [hc] at hb; cases hb
        | tup rs =>
          simp only [hc] at hb
          obtain ⟨vs, hT, _, hr⟩ := hr
          obtain ⟨g, hl⟩ := g_names (Q := Q) hb hr er k
          exact ⟨w.p j, vs, e, .of hT, hl, g⟩
end
end MP
set_option Elab.async false
set_option linter.all false
set_option maxRecDepth 100000
set_option maxHeartbeats 4000000
/-! MPComp: comprehensions. -/
namespace MP
open PySem PySem.Spec PyProof.Rows L2
/-! ### readings that do not hang on the context -/
def rdE (K : PySem.W.Frag) (xr : XR) (W : WX) (m : MP.Env → M R) : TE := fun σ H Q => ∃ w S ρ, w.H = H ∧ EnvR K xr w σ ρ ∧ SR K w S ∧ Hop K (Rel K) (WE W σ) w Q (m ρ S)
def rdT (K : PySem.W.Frag) (xr : XR) (W : WX) (m : MP.Env → M Bool) : TT := fun σ H Q => ∃ w S ρ, w.H = H ∧ EnvR K xr w σ ρ ∧ SR K w S ∧ Hop K (fun _ b v => b = v) (WE W σ) w Q (m ρ S)
def rdI (K : PySem.W.Frag) (xr : XR) (W : WX) (m : MP.Env → M (List Itm × Gd)) : TI := fun σ H Q => ∃ w S ρ, w.H = H ∧ EnvR K xr w σ ρ ∧ SR K w S ∧ Hop K (fun w a J => WalkR K w J a.1 a.2) (WE W σ) w Q (m ρ S)
section
variable {X : Cx} {xr : XR} {W : WX} {e tg iter : Expr} {ifs : List Expr} {m : MP.Env → M R} {mt : MP.Env → M Bool} {mi : MP.Env → M (List Itm × Gd)}
theorem EOk.rd (h : EOk X xr W e m) : PE X e (rdE X.K xr W m) := by
  obtain ⟨t, p, q⟩ := h
  exact ⟨fun pins s σ H Q I ⟨w, S, ρ, e, er, sr, h⟩ => p.run pins s σ H Q I (e ▸ q σ w S ρ Q er sr h)⟩
theorem TOk.rd (h : TOk X xr W e mt) : PT X e (rdT X.K xr W mt) := by
  obtain ⟨t, p, q⟩ := h
  exact ⟨fun pins s σ H Q I ⟨w, S, ρ, e, er, sr, h⟩ => p.run pins s σ H Q I (e ▸ q σ w S ρ Q er sr h)⟩
theorem IOk.rd (h : IOk X xr W tg iter mi) : PI X tg iter (rdI X.K xr W mi) := by
  obtain ⟨t, p, q⟩ := h
  exact ⟨fun pins s σ H Q I ⟨w, S, ρ, e, er, sr, h⟩ => p.run pins s σ H Q I (e ▸ q σ w S ρ Q er sr h)⟩
/-- the ifs of a comprehension -/
def TsOk (X : Cx) (xr : XR) (W : WX) (ifs : List Expr) (m : MP.Env → M Bool) : Prop := PTs X ifs (rdT X.K xr W m)
theorem ts_nil : TsOk X xr W [] (fun _ => M.pure true) := ⟨fun pins s σ H Q I ⟨w, S, ρ, e, er, sr, h⟩ => pts_nil.run pins s σ H Q I (e ▸ h w true (Ext.refl _) sr rfl)⟩
theorem ts_one (h : TOk X xr W e mt) : TsOk X xr W [e] mt := pts_one h.rd
end
abbrev W0 : WX := fun _ _ _ _ => False
theorem takes0 {X : Cx} : L2N.Takes X W0 := fun u s' ⟨_, _, _, _, _, _, _, _, _, _, _, _, _, _, _, _, z⟩ => z.elim
/-! ### a loop -/
theorem lp {J : It} {n : Nat} {G : Hp → Prop} {Y : Nat → Hp → V → Hp → Prop} (w : Walk J n G Y) {body : V → Hp → (Hp → Prop) → Prop} {Qd : Hp → Prop} {H0 : Hp} (Pv : Nat → Hp → Prop) (h0 : Pv 0 H0) (hG : ∀ i H, i ≤ n → Pv i H → G H)
    (hs : ∀ i x H H', i < n → Pv i H → Y i H x H' → body x H' (Pv (i + 1))) (hd : ∀ H, Pv n H → Qd H) :
    ∃ W : Nat → Nat → Hp → Prop, (∃ m, W 0 m H0) ∧ ∀ i m H, W i m H → (J.stop i H ∧ Qd H) ∨ (J.go i H ∧ ∃ Nx : Hp → Prop, (∀ H', Nx H' → ∃ m', m' < m ∧ W (i + 1) m' H') ∧ ∀ x H', J.yld i H x H' → body x H' Nx) := by
  refine ⟨fun i m H => m = n - i ∧ i ≤ n ∧ Pv i H, ⟨n, by simp, Nat.zero_le _, h0⟩, ?_⟩
  rintro i m H ⟨rfl, hi, p⟩
  have q := hG i H hi p
  by_cases hlt : i < n
  · exact .inr ⟨w.goes i H hlt q, Pv (i + 1), fun H' p' => ⟨n - (i + 1), by omega, rfl, hlt, p'⟩, fun x H' y => hs i x H H' hlt p (w.yields i H x H' hlt q y)⟩
  · have e : i = n := by omega
    subst e
    exact .inl ⟨w.stops H q, hd H p⟩
/-! ### results without exceptions -/
def Res.Sure {α : Type} (r : Res α) : Prop := ∃ a S, r = .ok a S
theorem noX_sure {α : Type} {m : M α} {S : Store} : (∃ a S', M.noX m S = .ok a S' ∧ m S = .ok a S') ∨ M.noX m S = .stuck := by
  unfold M.noX
  cases m S with
  | ok a S' => exact .inl ⟨a, S', rfl, rfl⟩
  | exc c ns l S' => exact .inr rfl
  | stuck => exact .inr rfl
theorem bind_ok {α β : Type} {m : M α} {f : α → M β} {S S' : Store} {b : β} (h : M.bind m f S = .ok b S') : ∃ a S1, m S = .ok a S1 ∧ f a S1 = .ok b S' := by
  unfold M.bind at h
  cases e : m S with
  | ok a S1 => rw [e] at h; exact ⟨a, S1, rfl, h⟩
  | exc c ns l S1 => rw [e] at h; cases h
  | stuck => rw [e] at h; cases h
theorem bind_at {α β : Type} {m : M α} {f : α → M β} {S S1 : Store} {a : α} (h : m S = .ok a S1) : M.bind m f S = f a S1 := by
  unfold M.bind
  rw [h]
/-- turns that let no exception out -/
def NoExc {α β : Type} (f : α → M β) : Prop := ∀ x S, (∃ a S', f x S = .ok a S') ∨ f x S = .stuck
theorem turn_noexc {t : IT} {g : Gd} {c : MP.Env → M Bool} {el : MP.Env → M (List R)} {ρ : MP.Env} : NoExc (lcTurn t g c el ρ) := fun x S => by
  unfold lcTurn
  by_cases h : gdOk S g = true
  · simp only [if_pos h]
    cases e : bindT t x ρ S with
    | none => exact .inr rfl
    | some ρ' =>
      rcases noX_sure (m := M.bind (c ρ') fun b => if b = true then el ρ' else M.pure []) (S := S) with ⟨a, S', h1, _⟩ | h1
      · exact .inl ⟨a, S', h1⟩
      · exact .inr h1
  · exact .inr (by simp only [if_neg h])
theorem loop_noexc {g : Gd} {f : Itm → M (List R)} (hf : NoExc f) : NoExc (lcLoop g f) := fun xs => by
  induction xs with
  | nil =>
    intro S
    by_cases h : gdOk S g = true
    · exact .inl ⟨[], S, by show (if gdOk S g = true then _ else _) = _; rw [if_pos h]⟩
    · exact .inr (by show (if gdOk S g = true then _ else _) = _; rw [if_neg h])
  | cons x xs ih =>
    intro S
    rcases hf x S with ⟨a, S1, h1⟩ | h1
    · rcases ih S1 with ⟨b, S2, h2⟩ | h2
      · exact .inl ⟨a ++ b, S2, by show M.bind _ _ S = _; rw [bind_at h1, bind_at h2]; rfl⟩
      · refine .inr ?_
        show M.bind _ _ S = _
        rw [bind_at h1]
        unfold M.bind
        rw [h2]
    · refine .inr ?_
      show M.bind _ _ S = _
      unfold M.bind
      rw [h1]
theorem hop_noexc {α β : Type} {K : PySem.W.Frag} {rel : Wd → R → V → Prop} {E : XK} {w : Wd} {Q : VK} {f : α → M β} {k : β → M R} {x : α} {S : Store} (hf : NoExc f) (h : Hop K rel E w Q (M.bind (f x) k S)) : ∃ a S', f x S = .ok a S' ∧ Hop K rel E w Q (k a S') := by
  rcases hf x S with ⟨a, S1, h1⟩ | h1
  · rw [bind_at h1] at h
    exact ⟨a, S1, h1, h⟩
  · unfold M.bind at h
    rw [h1] at h
    exact h.elim
/-! ### the list that grows -/
structure Acc (K : PySem.W.Frag) (D : Addr) (w1 w2 : Wd) (S2 : Store) (out : List R) : Prop where
  x : Ext w1 w2
  h : D ∈ w2.hid
  s : SR K w2 S2
  o : ∃ vs, w2.H D = some (.lst vs) ∧ Rels K w2 out vs
theorem Acc.ext {K : PySem.W.Frag} {D : Addr} {w1 w2 w3 : Wd} {S2 S3 : Store} {out : List R} (a : Acc K D w1 w2 S2 out) (x : Ext w2 w3) (s : SR K w3 S3) : Acc K D w1 w3 S3 out := by
  obtain ⟨vs, h1, h2⟩ := a.o
  exact ⟨a.x.trans x, (x.hk _ a.h).1, s, vs, (x.hk _ a.h).2.trans h1, h2.ext x⟩
section
variable {K : PySem.W.Frag} {D : Addr} {w1 w2 : Wd} {S1 S2 : Store} {out : List R} {r : R} {y : V}
theorem Acc.add (a : Acc K D w1 w2 S2 out) (s1 : SR K w1 S1) (hD : w1.H D = none) (hr : Rel K w2 r y) (hl : out.length < sizeLine) : ∃ acc, w2.H D = some (.lst acc) ∧ acc.length < sizeLine ∧ ∃ w3, w3.H = upd w2.H D (.lst (acc ++ [y])) ∧ Acc K D w1 w3 S2 (out ++ [r]) ∧ Mono w2 w3 := by
  obtain ⟨vs, h1, h2⟩ := a.o
  refine ⟨vs, h1, by rw [← h2.length]; exact hl, w2.poke D (.lst (vs ++ [y])), rfl, ⟨a.x.poke (fun b hb => (s1.hid b hb).1) hD, a.h, a.s.poke a.h, vs ++ [y], upd_same, ?_⟩, mono_poke a.h⟩
  exact (h2.mono (mono_poke a.h)).append (.one (hr.mono (mono_poke a.h)))
theorem Acc.fin {m : Bool} {E : XK} {Q : VK} (a : Acc K D w1 w2 S2 out) (s1 : SR K w1 S1) (hD : w1.H D = none) (h : Hop K (Rel K) E w1 Q (lcOut m out S2)) : Q (.ref D) w2.H := by
  obtain ⟨vs, h1, h2⟩ := a.o
  unfold lcOut at h
  by_cases hz : small out.length = true
  · rw [if_pos hz] at h
    have hl : vs.length ≤ sizeLine := by
      have l1 := line_small hz
      have l2 := line_eq
      rw [← h2.length]
      omega
    have s0 : ∀ b, b ∈ w1.hid → w1.H b ≠ none := fun b hb => (s1.hid b hb).1
    have viaOwn : Hop K (Rel K) E w1 Q (.ok (.own S2.length) (S2 ++ [.lst out])) → Q (.ref D) w2.H := fun h => by
      have hc : CellR K (w2.own D) D (.lst out) := ⟨vs, h1, hl, h2.mono (mono_own a.h)⟩
      exact h (w2.own D) (.ref D) (a.x.own s0 hD) (a.s.own a.h hc) ⟨by rw [← a.s.n]; exact Nat.lt_succ_self _, by rw [← a.s.n, own_p]⟩
    unfold mkL at h
    cases m with
    | true => exact viaOwn h
    | false =>
      cases ed : datsR out with
      | none => simp only [ed] at h; exact viaOwn h
      | some ds =>
        simp only [ed] at h
        exact h (w2.show D) (.ref D) (a.x.show s0 hD) a.s.show ⟨D, vs, rfl, nlive_show a.s a.h, h1, hl, Reps.imp mono_show.keep _ _ (Rels.dats ed h2)⟩
  · rw [if_neg hz] at h
    exact h.elim
end
theorem small_of {m : Bool} {K : PySem.W.Frag} {rel : Wd → R → V → Prop} {E : XK} {w : Wd} {Q : VK} {l : List R} {S : Store} (h : Hop K rel E w Q (lcOut m l S)) : l.length ≤ 1000000 := by
  unfold lcOut at h
  by_cases hz : small l.length = true
  · exact line_small hz
  · rw [if_neg hz] at h
    exact h.elim
/-- one turn of a comprehension -/
theorem turn_at {t : IT} {g : Gd} {c : MP.Env → M Bool} {el : MP.Env → M (List R)} {ρ : MP.Env} {x : Itm} {S S' : Store} {a : List R} (h : lcTurn t g c el ρ x S = .ok a S') :
    gdOk S g = true ∧ ∃ ρ', bindT t x ρ S = some ρ' ∧ ∃ b S1, c ρ' S = .ok b S1 ∧ ((b = true ∧ el ρ' S1 = .ok a S') ∨ (b = false ∧ a = [] ∧ S' = S1)) := by
  unfold lcTurn at h
  by_cases z : gdOk S g = true
  · simp only [if_pos z] at h
    refine ⟨z, ?_⟩
    cases e : bindT t x ρ S with
    | none => rw [e] at h; cases h
    | some ρ' =>
      simp only [e] at h
      refine ⟨ρ', rfl, ?_⟩
      rcases noX_sure (m := M.bind (c ρ') fun b => if b = true then el ρ' else M.pure []) (S := S) with ⟨a', S1, h1, h2⟩ | h1
      · rw [h1] at h
        cases h
        obtain ⟨b, S1, h3, h4⟩ := bind_ok h2
        cases b with
        | true => exact ⟨true, S1, h3, .inl ⟨rfl, h4⟩⟩
        | false =>
          cases (show Res.ok [] S1 = Res.ok a S' from h4)
          exact ⟨false, S', h3, .inr ⟨rfl, rfl, rfl⟩⟩
      · rw [h1] at h
        cases h
  · rw [if_neg z] at h
    cases h
theorem loop_nil {g : Gd} {f : Itm → M (List R)} {S S' : Store} {a : List R} (h : lcLoop g f [] S = .ok a S') : gdOk S g = true ∧ a = [] ∧ S' = S := by
  by_cases z : gdOk S g = true
  · have h : (if gdOk S g = true then Res.ok ([] : List R) S else .stuck) = .ok a S' := h
    rw [if_pos z] at h
    cases h
    exact ⟨z, rfl, rfl⟩
  · have h : (if gdOk S g = true then Res.ok ([] : List R) S else .stuck) = .ok a S' := h
    rw [if_neg z] at h
    cases h
/-- the rest of a loop with what is behind it -/
theorem loop_step {α : Type} {g : Gd} {f : Itm → M (List R)} {x : Itm} {xs : List Itm} {out : List R} {k : List R → M α} {S S1 : Store} {a : List R} (h1 : f x S = .ok a S1) :
    M.bind (lcLoop g f (x :: xs)) (fun b => k (out ++ b)) S = M.bind (lcLoop g f xs) (fun b => k ((out ++ a) ++ b)) S1 := by
  show M.bind (M.bind (f x) fun a => M.bind (lcLoop g f xs) fun b => M.pure (a ++ b)) _ S = _
  rw [bind_assoc, bind_at h1, bind_assoc]
  have e : (fun b => M.bind (M.pure (a ++ b)) fun b => k (out ++ b)) = fun b => k ((out ++ a) ++ b) := by
    funext b
    rw [pure_bind, List.append_assoc]
  rw [e]
section
variable {X : Cx} {xr : XR} {W : WX} {elt iter : Expr} {ifs : List Expr} {sc : Scope} {own : List (Str × Nat)} {pos : Pos} {t : IT} {me : MP.Env → M R} {mc : MP.Env → M Bool} {mi : MP.Env → M (List Itm × Gd)} {m : Bool}
theorem lc_rd (hx : xr.Ok) (hown : ∀ i ∈ t.ix, i ∈ own.map (·.2)) : ∀ σ w S ρ Q, EnvR X.K xr w σ ρ → SR X.K w S →
    Hop X.K (Rel X.K) (WE W σ) w Q (M.bind (mi ρ) (fun q => M.bind (lcLoop q.2 (lcTurn t q.2 mc (fun ρ' => M.bind (me ρ') fun r => M.pure [r]) (wipeE ρ (own.map (·.2)))) q.1) (lcOut m)) S) →
    tLc (rdI X.K xr W mi) (gT X.K t) (rdT X.K xr W0 mc) (rdE X.K xr W0 me) (own.map (·.2)) σ w.H Q := by
  intro σ w S ρ Q er sr h
  refine ⟨w, S, ρ, rfl, er, sr, h.bind fun w1 a J S1 e1 s1 wk h1 D hD => ?_⟩
  obtain ⟨xs, gd⟩ := a
  obtain ⟨G, Y, hw, hG, hY⟩ := wk
  dsimp only at h1 hw hG hY
  have hf := turn_noexc (t := t) (g := gd) (c := mc) (el := fun ρ' => M.bind (me ρ') fun r => M.pure [r]) (ρ := wipeE ρ (own.map (·.2)))
  generalize hF : lcTurn t gd mc (fun ρ' => M.bind (me ρ') fun r => M.pure [r]) (wipeE ρ (own.map (·.2))) = F at h1 hf
  refine lp hw (fun i H => ∃ w2 S2 out, w2.H = H ∧ Acc X.K D w1 w2 S2 out ∧ Hop X.K (Rel X.K) (WE W σ) w1 Q (M.bind (lcLoop gd F (xs.drop i)) (fun b => lcOut m (out ++ b)) S2)) ?_ ?_ ?_ ?_
  · exact ⟨w1.hide D (.lst []), S1, [], rfl, ⟨ext_hide s1 hD, List.mem_cons_self, s1.hide hD, [], upd_same, rfl⟩, h1⟩
  · intro i H hi ⟨w2, S2, out, eH, ac, h2⟩
    subst eH
    refine hG w2 S2 ac.x.mono ac.s ?_
    obtain ⟨a, S', h3, _⟩ := hop_noexc (loop_noexc hf) h2
    by_cases hlt : i < xs.length
    · rw [List.drop_eq_getElem_cons hlt] at h3
      obtain ⟨a', S3, h4, _⟩ := bind_ok (show M.bind _ _ S2 = _ from h3)
      rw [← hF] at h4
      exact (turn_at h4).1
    · rw [List.drop_eq_nil_of_le (by omega)] at h3
      exact (loop_nil h3).1
  · intro i v H H' hi ⟨w2, S2, out, eH, ac, h2⟩ hy
    subst eH
    rw [List.drop_eq_getElem_cons hi] at h2
    obtain ⟨a, S', h3, _⟩ := hop_noexc (loop_noexc hf) h2
    obtain ⟨a', S3, h4, _⟩ := bind_ok (show M.bind _ _ S2 = _ from h3)
    rw [loop_step h4] at h2
    obtain ⟨b, S'', h5, h6⟩ := hop_noexc (loop_noexc hf) h2
    have hsz := small_of h6
    rw [← hF] at h4
    obtain ⟨g2, ρ', hb, c, S4, hc, hor⟩ := turn_at h4
    obtain ⟨w3, eH, x3, s3, it⟩ := hY i xs[i] v H' w2 S2 ac.x.mono ac.s g2 (List.getElem?_eq_getElem hi) hy
    subst eH
    have er3 : EnvR X.K xr w3 (wipe σ (own.map (·.2))) (wipeE ρ (own.map (·.2))) := (((er.ext hx e1).ext hx ac.x).ext hx x3).wipe _
    refine g_ok hb er3 s3 it fun σ' er4 hw' => ⟨?_, ?_⟩
    · rw [hw' _ hown, wipe_wipe fun i hi => hi]
    · refine ⟨w3, S2, ρ', rfl, er4, s3, ?_⟩
      rw [hc]
      intro w4 b4 x4 s4 e4
      have e4' : c = b4 := e4
      subst e4'
      have ac4 := ac.ext (x3.trans x4) s4
      rcases hor with ⟨e5, hel⟩ | ⟨e5, e6, e7⟩
      · subst e5
        rw [if_pos rfl]
        obtain ⟨r, S5, hr, e8⟩ := bind_ok hel
        cases (show Res.ok [r] S5 = Res.ok a' S3 from e8)
        refine ⟨w4, S4, ρ', rfl, er4.ext hx x4, s4, ?_⟩
        rw [hr]
        intro w5 y x5 s5 ry
        obtain ⟨acc, q1, q2, w6, e6, ac6, _⟩ := (ac4.ext x5 s5).add s1 hD ry (by
          have l2 := line_eq
          rw [List.length_append, List.length_append] at hsz
          simp at hsz
          omega)
        exact ⟨acc, q1, q2, w6, S3, out ++ [r], e6, ac6, h2⟩
      · subst e5 e6 e7
        rw [if_neg Bool.false_ne_true]
        rw [List.append_nil] at h2
        exact ⟨w4, S3, out, rfl, ac4, h2⟩
  · intro H ⟨w2, S2, out, eH, ac, h2⟩
    subst eH
    rw [List.drop_eq_nil_of_le (Nat.le_refl _)] at h2
    obtain ⟨a, S', h3, h4⟩ := hop_noexc (loop_noexc hf) h2
    obtain ⟨_, e2, e3⟩ := loop_nil h3
    subst e2 e3
    rw [List.append_nil] at h4
    exact ac.fin s1 hD h4
abbrev Blks (X : Cx) (sc : Scope) (P : Cx → Prop) : Prop := ∀ (s : Shared) (H : Hp) (C : Addr) (cl : List (Str × Addr)) (fp : List Addr), P (X.blk s H sc (compEnvC sc cl C X.env) fp)
theorem e_lc (hx : xr.Ok) (hc : X.calm = true) (hN : X.N.Nodup) (hi : IOk X xr W t.e iter mi) (ok : BlkOk X.N X.env.scope sc own) (hown : ∀ i ∈ t.ix, i ∈ own.map (·.2)) (hg : Blks X sc fun Y => ITOk Y t)
    (ht : Blks X sc fun Y => TsOk Y xr W0 ifs mc) (he : Blks X sc fun Y => EOk Y xr W0 elt me) (hs : ∀ x, foldedSetIterable iter X.env x = pure x) :
    EOk X xr W (.ListComp elt [⟨t.e, iter, ifs, 0⟩] sc pos) (fun ρ => M.bind (mi ρ) fun q => M.bind (lcLoop q.2 (lcTurn t q.2 mc (fun ρ' => M.bind (me ρ') fun r => M.pure [r]) (wipeE ρ (own.map (·.2)))) q.1) (lcOut m)) :=
  ⟨_, pe_lc (tt := rdT X.K xr W0 mc) (te := rdE X.K xr W0 me) hc hN hi.rd ok (fun s H C cl fp => pg_T (X := X.blk s H sc (compEnvC sc cl C X.env) fp) hN t (hg s H C cl fp)) (fun s H C cl fp => ht s H C cl fp) (fun s H C cl fp => (he s H C cl fp).rd) hs, lc_rd hx hown⟩
variable {elt2 iter2 : Expr} {ifs2 : List Expr} {t2 : IT} {vs2 : List Nat} {mc2 : MP.Env → M Bool} {mi2 : MP.Env → M (List Itm × Gd)}
theorem lc2_rd (hx : xr.Ok) (hown : ∀ i ∈ t.ix, i ∈ own.map (·.2)) (hown2 : ∀ i ∈ t2.ix, i ∈ vs2) : ∀ σ w S ρ Q, EnvR X.K xr w σ ρ → SR X.K w S →
    Hop X.K (Rel X.K) (WE W σ) w Q (M.bind (mi ρ) (fun q => M.bind (lcLoop q.2 (lcTurn t q.2 mc (fun ρ' => M.bind (mi2 ρ') fun q2 =>
      lcLoop q2.2 (lcTurn t2 q2.2 mc2 (fun ρ2 => M.bind (me ρ2) fun r => M.pure [r]) (wipeE ρ' vs2)) q2.1) (wipeE ρ (own.map (·.2)))) q.1) (lcOut m)) S) →
    tLc2 (rdI X.K xr W mi) (gT X.K t) (rdT X.K xr W0 mc) (rdI X.K xr W0 mi2) (gT X.K t2) (rdT X.K xr W0 mc2) (rdE X.K xr W0 me) (own.map (·.2)) vs2 σ w.H Q := by
  intro σ w S ρ Q er sr h
  refine ⟨w, S, ρ, rfl, er, sr, h.bind fun w1 a J S1 e1 s1 wk h1 D hD => ?_⟩
  obtain ⟨xs, gd⟩ := a
  obtain ⟨G, Y, hw, hG, hY⟩ := wk
  dsimp only at h1 hw hG hY
  have hf := turn_noexc (t := t) (g := gd) (c := mc) (el := fun ρ' => M.bind (mi2 ρ') fun q2 => lcLoop q2.2 (lcTurn t2 q2.2 mc2 (fun ρ2 => M.bind (me ρ2) fun r => M.pure [r]) (wipeE ρ' vs2)) q2.1) (ρ := wipeE ρ (own.map (·.2)))
  generalize hF : lcTurn t gd mc (fun ρ' => M.bind (mi2 ρ') fun q2 => lcLoop q2.2 (lcTurn t2 q2.2 mc2 (fun ρ2 => M.bind (me ρ2) fun r => M.pure [r]) (wipeE ρ' vs2)) q2.1) (wipeE ρ (own.map (·.2))) = F at h1 hf
  refine lp hw (fun i H => ∃ w2 S2 out, w2.H = H ∧ Acc X.K D w1 w2 S2 out ∧ Hop X.K (Rel X.K) (WE W σ) w1 Q (M.bind (lcLoop gd F (xs.drop i)) (fun b => lcOut m (out ++ b)) S2)) ?_ ?_ ?_ ?_
  · exact ⟨w1.hide D (.lst []), S1, [], rfl, ⟨ext_hide s1 hD, List.mem_cons_self, s1.hide hD, [], upd_same, rfl⟩, h1⟩
  · intro i H hi ⟨w2, S2, out, eH, ac, h2⟩
    subst eH
    refine hG w2 S2 ac.x.mono ac.s ?_
    obtain ⟨a, S', h3, _⟩ := hop_noexc (loop_noexc hf) h2
    by_cases hlt : i < xs.length
    · rw [List.drop_eq_getElem_cons hlt] at h3
      obtain ⟨a', S3, h4, _⟩ := bind_ok (show M.bind _ _ S2 = _ from h3)
      rw [← hF] at h4
      exact (turn_at h4).1
    · rw [List.drop_eq_nil_of_le (by omega)] at h3
      exact (loop_nil h3).1
  · intro i v H H' hi ⟨w2, S2, out, eH, ac, h2⟩ hy
    subst eH
    rw [List.drop_eq_getElem_cons hi] at h2
    obtain ⟨a, S', h3, _⟩ := hop_noexc (loop_noexc hf) h2
    obtain ⟨a', S3, h4, _⟩ := bind_ok (show M.bind _ _ S2 = _ from h3)
    rw [loop_step h4] at h2
    obtain ⟨b, S'', h5, h6⟩ := hop_noexc (loop_noexc hf) h2
    have hsz := small_of h6
    rw [← hF] at h4
    obtain ⟨g2, ρ', hb, c, S4, hc, hor⟩ := turn_at h4
    obtain ⟨w3, eH, x3, s3, it⟩ := hY i xs[i] v H' w2 S2 ac.x.mono ac.s g2 (List.getElem?_eq_getElem hi) hy
    subst eH
    have er3 : EnvR X.K xr w3 (wipe σ (own.map (·.2))) (wipeE ρ (own.map (·.2))) := (((er.ext hx e1).ext hx ac.x).ext hx x3).wipe _
    refine g_ok hb er3 s3 it fun σ' er4 hw' => ⟨?_, ?_⟩
    · rw [hw' _ hown, wipe_wipe fun i hi => hi]
    · refine ⟨w3, S2, ρ', rfl, er4, s3, ?_⟩
      rw [hc]
      intro w4 b4 x4 s4 e4
      have e4' : c = b4 := e4
      subst e4'
      have ac4 := ac.ext (x3.trans x4) s4
      rcases hor with ⟨e5, hel⟩ | ⟨e5, e6, e7⟩
      · subst e5
        rw [if_pos rfl]
        obtain ⟨q2, S5, hq2, hl2⟩ := bind_ok hel
        obtain ⟨xs2, gd2⟩ := q2
        dsimp only at hl2
        have er4' := er4.ext hx x4
        refine ⟨w4, S4, ρ', rfl, er4', s4, ?_⟩
        rw [hq2]
        intro w5 J5 x5 s5 wk5
        obtain ⟨G5, Y5, hw5, hG5, hY5⟩ := wk5
        dsimp only at hw5 hG5 hY5
        have ac5 := ac4.ext x5 s5
        have er5 := er4'.ext hx x5
        generalize hF2 : lcTurn t2 gd2 mc2 (fun ρ2 => M.bind (me ρ2) fun r => M.pure [r]) (wipeE ρ' vs2) = F2 at hl2
        refine lp hw5 (fun j H => ∃ w6 S6 out6 c6, w6.H = H ∧ Mono w5 w6 ∧ Acc X.K D w1 w6 S6 out6 ∧ lcLoop gd2 F2 (xs2.drop j) S6 = .ok c6 S3 ∧ out6 ++ c6 = out ++ a') ?_ ?_ ?_ ?_
        · exact ⟨w5, S5, out, a', rfl, (Ext.refl _).mono, ac5, hl2, rfl⟩
        · intro j H hj ⟨w6, S6, out6, c6, eH, x6, ac6, hl6, ho6⟩
          subst eH
          refine hG5 w6 S6 x6 ac6.s ?_
          by_cases hlt : j < xs2.length
          · rw [List.drop_eq_getElem_cons hlt] at hl6
            obtain ⟨a7, S7, h7, _⟩ := bind_ok (show M.bind _ _ S6 = _ from hl6)
            rw [← hF2] at h7
            exact (turn_at h7).1
          · rw [List.drop_eq_nil_of_le (by omega)] at hl6
            exact (loop_nil hl6).1
        · intro j v6 H6 H7 hj ⟨w6, S6, out6, c6, eH, x6, ac6, hl6, ho6⟩ hy6
          subst eH
          rw [List.drop_eq_getElem_cons hj] at hl6
          obtain ⟨a7, S7, h7, h8⟩ := bind_ok (show M.bind _ _ S6 = _ from hl6)
          obtain ⟨c7, S8, h9, h10⟩ := bind_ok h8
          cases (show Res.ok (a7 ++ c7) S8 = Res.ok c6 S3 from h10)
          rw [← List.append_assoc] at ho6
          have hz7 : (out6 ++ a7).length ≤ 1000000 := by
            have q := congrArg List.length ho6
            rw [List.length_append] at q
            rw [List.length_append] at hsz
            omega
          rw [← hF2] at h7
          obtain ⟨g7, ρ7, hb7, d7, S9, hc7, hor7⟩ := turn_at h7
          obtain ⟨w7, eH7, x7, s7, it7⟩ := hY5 j xs2[j] v6 H7 w6 S6 x6 ac6.s g7 (List.getElem?_eq_getElem hj) hy6
          subst eH7
          have er7 : EnvR X.K xr w7 (wipe σ' vs2) (wipeE ρ' vs2) := ((er5.mono hx x6).ext hx x7).wipe _
          refine g_ok hb7 er7 s7 it7 fun σ7 er8 hw7 => ⟨?_, ?_⟩
          · rw [hw7 _ hown2, wipe_wipe fun i hi => hi]
          · refine ⟨w7, S6, ρ7, rfl, er8, s7, ?_⟩
            rw [hc7]
            intro w8 b8 x8 s8 e8
            have e8' : d7 = b8 := e8
            subst e8'
            have ac8 := ac6.ext (x7.trans x8) s8
            rcases hor7 with ⟨e9, hel9⟩ | ⟨e9, e10, e11⟩
            · subst e9
              rw [if_pos rfl]
              obtain ⟨r, S10, hr, e12⟩ := bind_ok hel9
              cases (show Res.ok [r] S10 = Res.ok a7 S7 from e12)
              refine ⟨w8, S9, ρ7, rfl, er8.ext hx x8, s8, ?_⟩
              rw [hr]
              intro w9 y x9 s9 ry
              obtain ⟨acc, q1, q2, w10, e13, ac10, m10⟩ := (ac8.ext x9 s9).add s1 hD ry (by
                have l2 := line_eq
                rw [List.length_append] at hz7
                simp at hz7
                omega)
              exact ⟨acc, q1, q2, w10, S7, out6 ++ [r], c7, e13, x6.trans ((x7.trans (x8.trans x9)).mono.trans m10), ac10, h9, ho6⟩
            · subst e9 e10 e11
              rw [if_neg Bool.false_ne_true]
              rw [List.append_nil] at ho6
              exact ⟨w8, S7, out6, c7, rfl, x6.trans (x7.trans x8).mono, ac8, h9, ho6⟩
        · intro H6 ⟨w6, S6, out6, c6, eH, x6, ac6, hl6, ho6⟩
          subst eH
          rw [List.drop_eq_nil_of_le (Nat.le_refl _)] at hl6
          obtain ⟨_, e2, e3⟩ := loop_nil hl6
          subst e2 e3
          rw [List.append_nil] at ho6
          subst ho6
          exact ⟨w6, S3, _, rfl, ac6, h2⟩
      · subst e5 e6 e7
        rw [if_neg Bool.false_ne_true]
        rw [List.append_nil] at h2
        exact ⟨w4, S3, out, rfl, ac4, h2⟩
  · intro H ⟨w2, S2, out, eH, ac, h2⟩
    subst eH
    rw [List.drop_eq_nil_of_le (Nat.le_refl _)] at h2
    obtain ⟨a, S', h3, h4⟩ := hop_noexc (loop_noexc hf) h2
    obtain ⟨_, e2, e3⟩ := loop_nil h3
    subst e2 e3
    rw [List.append_nil] at h4
    exact ac.fin s1 hD h4
end
end MP
set_option Elab.async false
set_option linter.all false
set_option maxRecDepth 100000
set_option maxHeartbeats 4000000
/-! MPStmt: statements. -/
namespace MP
open PySem PySem.Spec PyProof.Rows L2
def HopS (K : PySem.W.Frag) (xr : XR) (W : WX) (w : Wd) (D : Ends) : SRes → Prop
  | .go .next ρ S => ∀ w' σ, Ext w w' → SR K w' S → EnvR K xr w' σ ρ → D.nx σ w'.H
  | .go .brk ρ S => ∀ w' σ, Ext w w' → SR K w' S → EnvR K xr w' σ ρ → D.bk σ w'.H
  | .go .cont ρ S => ∀ w' σ, Ext w w' → SR K w' S → EnvR K xr w' σ ρ → D.ct σ w'.H
  | .go (.ret r) _ S => ∀ w' v, Ext w w' → SR K w' S → Rel K w' r v → D.rt v w'.H
  | .exc c ns l ρ S => ∀ w' σ d, Ext w w' → SR K w' S → EnvR K xr w' σ ρ → ExcD K w' ns l d → W (.ref (He.ga K c)) d σ w'.H
  | .stuck => False
theorem HopS.ext {K : PySem.W.Frag} {xr : XR} {W : WX} {w w1 : Wd} {D : Ends} {r : SRes} (x : Ext w w1) (h : HopS K xr W w D r) : HopS K xr W w1 D r := by
  match r, h with
  | .go .next ρ S, h => exact fun w' σ e s er => h w' σ (x.trans e) s er
  | .go .brk ρ S, h => exact fun w' σ e s er => h w' σ (x.trans e) s er
  | .go .cont ρ S, h => exact fun w' σ e s er => h w' σ (x.trans e) s er
  | .go (.ret q) ρ S, h => exact fun w' v e s er => h w' v (x.trans e) s er
  | .exc c ns l ρ S, h => exact fun w' σ d e s er hd => h w' σ d (x.trans e) s er hd
  | .stuck, h => exact h
def SOk (X : Cx) (xr : XR) (W : WX) (st : Stmt) (f : MP.Env → Store → SRes) : Prop :=
  ∃ t, PS X st t ∧ ∀ σ w S ρ D, EnvR X.K xr w σ ρ → SR X.K w S → HopS X.K xr W w D (f ρ S) → t D σ w.H
def SsOk (X : Cx) (xr : XR) (W : WX) (st : List Stmt) (f : MP.Env → Store → SRes) : Prop :=
  ∃ t, PSs X st t ∧ ∀ σ w S ρ D, EnvR X.K xr w σ ρ → SR X.K w S → HopS X.K xr W w D (f ρ S) → t D σ w.H
def rdS (K : PySem.W.Frag) (xr : XR) (W : WX) (f : MP.Env → Store → SRes) : TS := fun D σ H => ∃ w S ρ, w.H = H ∧ EnvR K xr w σ ρ ∧ SR K w S ∧ HopS K xr W w D (f ρ S)
theorem hopS_of {α β : Type} {K : PySem.W.Frag} {xr : XR} {W : WX} {rel : Wd → α → β → Prop} {w : Wd} {D : Ends} {Q : β → Hp → Prop} {σ : L2.St} {ρ : MP.Env} {r : Res α} {k : α → Store → SRes} (hx : xr.Ok) (er : EnvR K xr w σ ρ) (h : HopS K xr W w D (SRes.of ρ r k))
    (hk : ∀ w1 a v S1, Ext w w1 → SR K w1 S1 → rel w1 a v → HopS K xr W w1 D (k a S1) → Q v w1.H) : Hop K rel (WE W σ) w Q r := by
  cases r with
  | ok a S => exact fun w1 v x s r => hk w1 a v S x s r (HopS.ext x h)
  | exc c ns l S => exact fun w1 d x s hd => h w1 σ d x s (er.ext hx x) hd
  | stuck => exact h
section
variable {X : Cx} {xr : XR} {W : WX} {e o iter tg : Expr} {st : Stmt} {sts body a b : List Stmt} {f g : MP.Env → Store → SRes} {m mo mi : MP.Env → M R} {mt : MP.Env → M Bool} {pos p' ps : Pos}
theorem SsOk.rd (h : SsOk X xr W sts f) : PSs X sts (rdS X.K xr W f) := by
  obtain ⟨t, p, q⟩ := h
  exact ⟨fun pins s σ H D I ⟨w, S, ρ, e, er, sr, h⟩ => p.run pins s σ H D I (e ▸ q σ w S ρ D er sr h)⟩
theorem ss_nil : SsOk X xr W [] (fun ρ S => .go .next ρ S) := ⟨_, pss_nil, fun σ w S ρ D er sr h => h w σ (Ext.refl _) sr er⟩
theorem ss_cons (h1 : SOk X xr W st f) (h2 : SsOk X xr W sts g) : SsOk X xr W (st :: sts) (fun ρ S => match f ρ S with
    | .go .next ρ1 S1 => g ρ1 S1
    | x => x) := by
  obtain ⟨t, p1, q1⟩ := h1
  obtain ⟨u, p2, q2⟩ := h2
  refine ⟨_, pss_cons p1 p2, fun σ w S ρ D er sr h => q1 σ w S ρ _ er sr ?_⟩
  dsimp only at h
  match hf : f ρ S with
  | .go .next ρ1 S1 =>
    rw [hf] at h
    exact fun w' σ' x s er' => q2 σ' w' S1 ρ1 D er' s (HopS.ext x h)
  | .go .brk ρ1 S1 => rw [hf] at h; exact h
  | .go .cont ρ1 S1 => rw [hf] at h; exact h
  | .go (.ret q) ρ1 S1 => rw [hf] at h; exact h
  | .exc c ns l ρ1 S1 => rw [hf] at h; exact h
  | .stuck => rw [hf] at h; exact h
theorem s_pass : SOk X xr W (.Pass pos) (fun ρ S => .go .next ρ S) := ⟨_, ps_pass, fun σ w S ρ D er sr h => h w σ (Ext.refl _) sr er⟩
theorem s_expr (hx : xr.Ok) (hs : swapsWith e none pos.line X.env = pure false) (he : EOk X xr W e m) : SOk X xr W (.Expr e pos) (fun ρ S => SRes.of ρ (m ρ S) fun _ S1 => .go .next ρ S1) := by
  obtain ⟨t, p, q⟩ := he
  exact ⟨_, ps_expr p hs, fun σ w S ρ D er sr h => q σ w S ρ _ er sr (hopS_of hx er h fun w1 r v S1 x s rr h1 => h1 w1 σ (Ext.refl _) s (er.ext hx x))⟩
theorem s_ret (hx : xr.Ok) (he : EOk X xr W e m) : SOk X xr W (.Return (some e) pos) (fun ρ S => SRes.of ρ (m ρ S) fun r S1 => .go (.ret r) ρ S1) := by
  obtain ⟨t, p, q⟩ := he
  exact ⟨_, ps_ret p, fun σ w S ρ D er sr h => q σ w S ρ _ er sr (hopS_of hx er h fun w1 r v S1 x s rr h1 => h1 w1 v (Ext.refl _) s rr)⟩
theorem s_if (hx : xr.Ok) (hc : TOk X xr W e mt) (ha : SsOk X xr W a f) (hb : SsOk X xr W b g) : SOk X xr W (.If e a b pos) (fun ρ S => SRes.of ρ (mt ρ S) fun t S1 => if t = true then f ρ S1 else g ρ S1) := by
  obtain ⟨t, p, q⟩ := hc
  obtain ⟨ta, pa, qa⟩ := ha
  obtain ⟨tb, pb, qb⟩ := hb
  refine ⟨_, ps_if p pa pb, fun σ w S ρ D er sr h => q σ w S ρ _ er sr (hopS_of hx er h fun w1 c v S1 x s rr h1 => ?_)⟩
  have e : c = v := rr
  subst e
  cases c with
  | true => exact qa σ w1 S1 ρ D (er.ext hx x) s h1
  | false => exact qb σ w1 S1 ρ D (er.ext hx x) s h1
/-- a target is set: the reading of the value, the rule -/
theorem s_set {t : IT} {te : TE} (hx : xr.Ok) (hp : PS X st (tAsg te (gT X.K t))) (hq : ∀ σ w S ρ Q, EnvR X.K xr w σ ρ → SR X.K w S → Hop X.K (Rel X.K) (WE W σ) w Q (m ρ S) → te σ w.H Q) :
    SOk X xr W st (fun ρ S => SRes.of ρ (m ρ S) fun r S1 => (match bindT t (.one r) ρ S1 with
      | some ρ1 => .go .next ρ1 S1
      | none => .stuck)) := by
  refine ⟨_, hp, fun σ w S ρ D er sr h => hq σ w S ρ _ er sr (hopS_of hx er h fun w1 r v S1 x s rr h1 => ?_)⟩
  cases e : bindT t (.one r) ρ S1 with
  | none => rw [e] at h1; exact h1.elim
  | some ρ1 =>
    rw [e] at h1
    exact g_ok e (er.ext hx x) s rr fun σ' er' _ => h1 w1 σ' (Ext.refl _) s er'
theorem s_setIx {i : Expr} (hx : xr.Ok) (hs : swapsWith e (some (.Subscript o i ps)) pos.line X.env = pure false)
    (ha : ∀ v, assign (.Subscript o i ps) X.env v = (do
      let ov ← holding [v] (eval o X.env)
      let iv ← holding [v, ov] (eval i X.env)
      standAt ps
      holding [v, ov, iv] (setItem ov iv v)
      release [v, ov, iv] [])) (he : EOk X xr W e m) (ho : EOk X xr W o mo) (hi : EOk X xr W i mi) :
    SOk X xr W (.Assign [.Subscript o i ps] e pos) (fun ρ S => SRes.of ρ ((M.bind (m ρ) fun v => M.bind (mo ρ) fun x => M.bind (mi ρ) fun y => setIxR x y v) S) fun _ S1 => .go .next ρ S1) := by
  obtain ⟨t, p, q⟩ := he
  obtain ⟨to, po, qo⟩ := ho
  obtain ⟨ti, pi, qi⟩ := hi
  refine ⟨_, ps_asg p (pg_sub po pi set_list ha) hs rfl rfl, fun σ w S ρ D er sr h => ?_⟩
  have h : Hop X.K (fun _ (_ : Unit) (_ : Unit) => True) (WE W σ) w (fun _ H => D.nx σ H) ((M.bind (m ρ) fun v => M.bind (mo ρ) fun x => M.bind (mi ρ) fun y => setIxR x y v) S) := hopS_of hx er h fun w1 r v S1 x s rr h1 => h1 w1 σ (Ext.refl _) s (er.ext hx x)
  refine q σ w S ρ _ er sr (h.bind fun w1 v vv S1 e1 s1 rv h1 => qo σ w1 S1 ρ _ (er.ext hx e1) s1 (h1.bind fun w2 x xv S2 e2 s2 rx h2 => qi σ w2 S2 ρ _ ((er.ext hx e1).ext hx e2) s2 (h2.bind fun w3 y yv S3 e3 s3 ry h3 => ?_)))
  have rv := rv.ext (e2.trans e3)
  have rx := rx.ext e3
  unfold setIxR at h3
  cases x with
  | dat d => exact h3.elim
  | exc c ns l => exact h3.elim
  | own k =>
    cases y with
    | own k => exact h3.elim
    | exc c ns l => exact h3.elim
    | dat d =>
      cases d with
      | int j =>
        obtain ⟨hk, eu⟩ := rx
        obtain ⟨c, hc, hr⟩ := s3.get hk
        cases c with
        | tup rs => simp only [hc] at h3; exact h3.elim
        | obj c ns rs => simp only [hc] at h3; exact h3.elim
        | lst rs =>
          simp only [hc] at h3
          obtain ⟨vs, hv, hz, hrs⟩ := hr
          cases ej : ixN rs.length j with
          | none => simp only [ej] at h3; exact h3.elim
          | some i =>
            simp only [ej] at h3
            cases (show yv = .int j from ry)
            refine ⟨w3.p k, vs, j, i, eu, rfl, hv, by rw [← hrs.length]; exact ej, ?_⟩
            exact h3 (w3.put k (.lst (vs.set i vv))) () (ext_put s3 hk) (put_lst s3 hk (by rw [List.length_set]; exact hz) (Rels.set rv i hrs)) trivial
      | _ => exact h3.elim
/-! ### fields -/
theorem putN_rel {K : PySem.W.Frag} {w : Wd} {f : Str} {v : R} {y : V} (hv : Rel K w v y) : ∀ {ns : List Str} {rs : List R} {fs : List (Str × V)}, fs.map (·.1) = ns → Rels K w rs (fs.map (·.2)) →
    (putF f y fs).map (·.1) = (putN f v ns rs).1 ∧ Rels K w (putN f v ns rs).2 ((putF f y fs).map (·.2))
  | [], [], fs, h, r => by
    cases fs with
    | nil => exact ⟨rfl, .one hv⟩
    | cons q fs => cases h
  | [], x :: rs, fs, h, r => by
    cases fs with
    | nil =>
      obtain ⟨_, _, e, _⟩ := r
      cases e
    | cons q fs => cases h
  | n :: ns, [], fs, h, r => by
    cases fs with
    | nil => cases h
    | cons q fs =>
      have r' : (q :: fs).map (·.2) = [] := r
      cases r'
  | n :: ns, x :: rs, fs, h, r => by
    cases fs with
    | nil => cases h
    | cons q fs =>
      obtain ⟨g, z⟩ := q
      rw [List.map_cons] at h r
      injection h with h1 h2
      obtain ⟨v', u, e3, r1, r2⟩ := r
      injection e3 with e4 e5
      subst h1 e4 e5
      obtain ⟨i1, i2⟩ := putN_rel hv (ns := ns) (rs := rs) (fs := fs) h2 r2
      show (List.map (·.1) (if g = f then (g, y) :: fs else (g, z) :: putF f y fs)) = (if g = f then (g :: ns, v :: rs) else (g :: (putN f v ns rs).1, x :: (putN f v ns rs).2)).1 ∧ Rels K w (if g = f then (g :: ns, v :: rs) else (g :: (putN f v ns rs).1, x :: (putN f v ns rs).2)).2 (List.map (·.2) (if g = f then (g, y) :: fs else (g, z) :: putF f y fs))
      by_cases q : g = f
      · rw [if_pos q, if_pos q]
        exact ⟨by rw [List.map_cons, h2], y, _, rfl, hv, r2⟩
      · rw [if_neg q, if_neg q]
        exact ⟨by rw [List.map_cons, i1], z, _, rfl, r1, i2⟩
theorem s_setAt {c fn : Str} (hx : xr.Ok) (cl : Cls X.K (He.ga X.K c)) (na : NoAttr X.K (He.ga X.K c) fn) (hs : swapsWith e (some (.Attribute o fn ps)) pos.line X.env = pure false) (he : EOk X xr W e m) (ho : EOk X xr W o mo) :
    SOk X xr W (.Assign [.Attribute o fn ps] e pos) (fun ρ S => SRes.of ρ ((M.bind (m ρ) fun v => M.bind (mo ρ) fun x => setAtR x c fn v) S) fun _ S1 => .go .next ρ S1) := by
  obtain ⟨t, p, q⟩ := he
  obtain ⟨to, po, qo⟩ := ho
  refine ⟨_, ps_fld po p hs, fun σ w S ρ D er sr h => ?_⟩
  have h : Hop X.K (fun _ (_ : Unit) (_ : Unit) => True) (WE W σ) w (fun _ H => D.nx σ H) ((M.bind (m ρ) fun v => M.bind (mo ρ) fun x => setAtR x c fn v) S) := hopS_of hx er h fun w1 r v S1 x s rr h1 => h1 w1 σ (Ext.refl _) s (er.ext hx x)
  refine q σ w S ρ _ er sr (h.bind fun w1 v vv S1 e1 s1 rv h1 => qo σ w1 S1 ρ _ (er.ext hx e1) s1 (h1.bind fun w2 x xv S2 e2 s2 rx h2 => ?_))
  have rv := rv.ext e2
  unfold setAtR at h2
  cases x with
  | dat d => exact h2.elim
  | exc c ns l => exact h2.elim
  | own k =>
    obtain ⟨hk, eu⟩ := rx
    obtain ⟨cc, hc, hr⟩ := s2.get hk
    cases cc with
    | lst rs => simp only [hc] at h2; exact h2.elim
    | tup rs => simp only [hc] at h2; exact h2.elim
    | obj c' ns rs =>
      simp only [hc] at h2
      obtain ⟨dx, fs, hv, hn, hrs⟩ := hr
      by_cases z : c' = c ∧ ns.length < 900
      · rw [if_pos z] at h2
        obtain ⟨z1, z2⟩ := z
        subst z1
        refine ⟨w2.p k, _, dx, fs, eu, hv, cl, na, ?_, ?_⟩
        · have l := congrArg List.length hn
          rw [List.length_map] at l
          omega
        · have x3 := ext_put (o := .ins (He.ga X.K c') dx (putF fn vv fs)) s2 hk
          obtain ⟨i1, i2⟩ := putN_rel (rv.ext x3) (ns := ns) (rs := rs) (fs := fs) hn (hrs.ext x3)
          exact h2 (w2.put k (.ins (He.ga X.K c') dx (putF fn vv fs))) () x3 (s2.put hk ⟨dx, _, upd_same, i1, i2⟩) trivial
      · rw [if_neg z] at h2
        exact h2.elim
end
end MP
set_option Elab.async false
set_option linter.all false
set_option maxRecDepth 100000
set_option maxHeartbeats 4000000
/-! MPStmt2: for, try. -/
namespace MP
open PySem PySem.Spec PyProof.Rows L2
section
variable {X : Cx} {xr : XR} {W : WX} {e o iter tg : Expr} {st : Stmt} {sts body a b : List Stmt} {f g : MP.Env → Store → SRes} {mi : MP.Env → M (List Itm × Gd)} {pos p' ps : Pos} {t : IT}
theorem s_for (hx : xr.Ok) (hp : PassesOwn (model X.prog X.w) X.A X.env X.xe) (hc : X.calm = true) (hN : X.N.Nodup) (ht : ITOk X t) (hs : ∀ x, foldedSetIterable iter X.env x = pure x) (hi : IOk X xr W t.e iter mi) (hb : SsOk X xr W body f) :
    SOk X xr W (.For t.e iter body [] pos) (fun ρ S => SRes.of ρ (mi ρ S) fun q S1 => forL t q.2 f q.1 ρ S1) := by
  obtain ⟨ti, pi, qi⟩ := hi
  obtain ⟨tb, pb, qb⟩ := hb
  refine ⟨_, ps_for hp hc pi (pg_T hN t ht) pb hs, fun σ w S ρ D er sr h => qi σ w S ρ _ er sr (hopS_of hx er h fun w1 a J S1 x1 s1 wk h1 => ?_)⟩
  obtain ⟨xs, gd⟩ := a
  obtain ⟨G, Y, hw, hG, hY⟩ := wk
  dsimp only at h1 hw hG hY
  refine for_it hw (fun i σ' H => ∃ w2 S2 ρ2, w2.H = H ∧ Ext w1 w2 ∧ SR X.K w2 S2 ∧ EnvR X.K xr w2 σ' ρ2 ∧ HopS X.K xr W w1 D (forL t gd f (xs.drop i) ρ2 S2)) ⟨w1, S1, ρ, rfl, Ext.refl _, s1, er.ext hx x1, h1⟩ ?_ ?_ ?_
  · intro i σ' H hi ⟨w2, S2, ρ2, eH, x2, s2, er2, h2⟩
    subst eH
    refine hG w2 S2 x2.mono s2 ?_
    by_cases z : gdOk S2 gd = true
    · exact z
    · exfalso
      by_cases hlt : i < xs.length
      · rw [List.drop_eq_getElem_cons hlt] at h2
        unfold forL at h2
        rw [if_neg z] at h2
        exact h2
      · rw [List.drop_eq_nil_of_le (by omega)] at h2
        unfold forL at h2
        rw [if_neg z] at h2
        exact h2
  · intro i v σ' H H' hi ⟨w2, S2, ρ2, eH, x2, s2, er2, h2⟩ hy
    subst eH
    rw [List.drop_eq_getElem_cons hi] at h2
    unfold forL at h2
    by_cases z : gdOk S2 gd = true
    · rw [if_pos z] at h2
      obtain ⟨w3, eH, x3, s3, it⟩ := hY i xs[i] v H' w2 S2 x2.mono s2 z (List.getElem?_eq_getElem hi) hy
      subst eH
      cases eb : bindT t xs[i] ρ2 S2 with
      | none => simp only [eb] at h2; exact h2.elim
      | some ρ' =>
        simp only [eb] at h2
        refine g_ok eb (er2.ext hx x3) s3 it fun σ3 er3 _ => qb σ3 w3 S2 ρ' _ er3 s3 ?_
        have x13 := x2.trans x3
        match hf : f ρ' S2 with
        | .go .next ρ4 S4 =>
          rw [hf] at h2
          exact fun w' σ4 x4 s4 er4 => ⟨w', S4, ρ4, rfl, x13.trans x4, s4, er4, h2⟩
        | .go .cont ρ4 S4 =>
          rw [hf] at h2
          exact fun w' σ4 x4 s4 er4 => ⟨w', S4, ρ4, rfl, x13.trans x4, s4, er4, h2⟩
        | .go .brk ρ4 S4 =>
          rw [hf] at h2
          exact fun w' σ4 x4 s4 er4 => h2 w' σ4 (x13.trans x4) s4 er4
        | .go (.ret q) ρ4 S4 =>
          rw [hf] at h2
          exact fun w' v4 x4 s4 r4 => h2 w' v4 (x13.trans x4) s4 r4
        | .exc c ns l ρ4 S4 =>
          rw [hf] at h2
          exact fun w' σ4 d x4 s4 er4 hd => h2 w' σ4 d (x13.trans x4) s4 er4 hd
        | .stuck =>
          rw [hf] at h2
          exact h2
    · rw [if_neg z] at h2
      exact h2.elim
  · intro σ' H ⟨w2, S2, ρ2, eH, x2, s2, er2, h2⟩
    subst eH
    rw [List.drop_eq_nil_of_le (Nat.le_refl _)] at h2
    unfold forL at h2
    by_cases z : gdOk S2 gd = true
    · rw [if_pos z] at h2
      exact h2 w2 σ' x2 s2 er2
    · rw [if_neg z] at h2
      exact h2.elim
end
/-! ### try -/
/-- what the suite knows of the exception -/
def xrS (K : PySem.W.Frag) (a : Addr) (cls : Value) (d : Option Addr) : XR := fun w c ns l v => v = .ref a ∧ cls = .ref (He.ga K c) ∧ ExcD K w ns l d
theorem xrS_ok {K : PySem.W.Frag} {a : Addr} {cls : Value} {d : Option Addr} : (xrS K a cls d).Ok := fun w w' c ns l v x h => ⟨h.1, h.2.1, h.2.2.mono x⟩
abbrev xr0 : XR := fun _ _ _ _ _ => False
theorem xr0_ok : XR.Ok xr0 := fun _ _ _ _ _ _ _ h => h
theorem EnvR.xr {K : PySem.W.Frag} {xr : XR} {w : Wd} {σ : L2.St} {ρ : MP.Env} (e : EnvR K xr0 w σ ρ) : EnvR K xr w σ ρ :=
  ⟨e.len, fun i r h => by
    obtain ⟨v, h1, h2⟩ := e.get i r h
    refine ⟨v, h1, ?_⟩
    cases r with
    | dat d => exact h2
    | own k => exact h2
    | exc c ns l => exact h2.elim⟩
theorem EnvR.drop {K : PySem.W.Frag} {xr : XR} {w : Wd} {σ : L2.St} {ρ : MP.Env} (e : EnvR K xr w σ ρ) : EnvR K xr0 w σ (dropX ρ) :=
  ⟨by unfold dropX; rw [List.length_map]; exact e.len, fun i r h => by
    unfold dropX at h
    rw [List.getElem?_map] at h
    cases e1 : ρ[i]? with
    | none => rw [e1] at h; cases h
    | some o =>
      rw [e1] at h
      cases o with
      | none => cases h
      | some q =>
        obtain ⟨v, h1, h2⟩ := e.get i q e1
        cases q with
        | dat d => cases h; exact ⟨v, h1, h2⟩
        | own k => cases h; exact ⟨v, h1, h2⟩
        | exc c ns l => cases h⟩
section
variable {X : Cx} {x n : Str} {c : Value} {i : Nat} {body suite : List Stmt} {b₀ : Stmt} {np pos pos' : Pos} {tb : WX → TS} {ts : Addr → Value → Option Addr → TS} {hds : List ExceptHandler}
/-- what the first clause wishes: the others are never asked -/
def wAs1 (K : PySem.W.Frag) (c : Value) (i : Nat) (ts : Addr → Value → Option Addr → TS) (D : Ends) : WX := fun cls d σ H =>
  PySem.W.exmOne K cls c = some true ∧ ∀ a, H a = none → ts a cls d { nx := fun σ' H' => D.nx (σ'.set i none) H', rt := D.rt, bk := fun σ' H' => D.bk (σ'.set i none) H', ct := fun σ' H' => D.ct (σ'.set i none) H' } (σ.set i (some (.ref a))) H
theorem ps_try1 (hs : X.stack = X.env :: X.outer) (hf : X.env.frame = some X.env.locals) (hN : X.N.Nodup) (hi : X.N[i]? = some n) (hln : X.env.kindOf n = some .local) (hc : Names X x c)
    (hb : ∀ (W : WX) (pn : List (Addr × Obj)) (xe : Value → Shared → Prop), L2N.Takes (X.tr pn xe) W → PassesOwn (model X.prog X.w) X.A X.env xe → PSs (X.tr pn xe) body (tb W))
    (hsu : ∀ (a : Addr) (oe : Obj) (cls : Value) (d : Option Addr) (pn : List (Addr × Obj)), L2N.Zn cls d oe → (∃ vs, oe.data = .fields vs) → PSs (X.suite a ((a, oe) :: pn)) (b₀ :: suite) (ts a cls d)) :
    PS X (.Try body (.ExceptHandler (some (.Name x np)) (some n) (b₀ :: suite) pos' :: hds) [] [] pos) (fun D σ H => tb (wAs1 X.K c i ts D) D σ H) := by
  refine ⟨fun pins s σ H D I h => ?_⟩
  have ok := I.ok
  have hfr : X.A.frames = some (X.env :: X.outer) := by rw [ok.frames, hs]
  refine wpAny_Try_except ?_
  refine wpAny_mono ((hb (wAs1 X.K c i ts D) (X.pn ++ pins) (fun e s₁ => wpAny (model X.prog X.w) X.A (noteFrame e X.env) (fun _ s₂ => wpAny (model X.prog X.w) X.A (setFlight e none) (fun _ s₃ =>
    wpAny (model X.prog X.w) X.A (handleBy e X.env (.ExceptHandler (some (.Name x np)) (some n) (b₀ :: suite) pos' :: hds)) (SP X pins D) X.xe s₃) X.xe s₂) X.xe s₁) (fun u s' xx => ?_) PassesOwn.looking).run [] s σ H D (I.toTry _) h) (fun f s1 hsp => ?_) (fun e s1 he => he)
  · obtain ⟨a, B, sI, pins', σ', H', cls, d, rfl, J', nb, up, sky, na, os, ag, hb1, hyes⟩ := xx
    have J : Inv X pins σ' H' sI := J'.ofTry ok
    have sky' : Sky B (X.env :: X.outer) a (L2N.Zn cls d) X.env.locals s'.heap := by rw [← hs]; exact sky
    show wpAny (model X.prog X.w) X.A (noteFrame (.ref a) X.env) _ _ _
    refine L2N.Sky.land L2N.Zn.steady hfr hf sky' fun h3 fl3 up3 => ?_
    have J3 : Inv X pins σ' H' { s' with heap := h3 } := J.landed nb fl3.1 (up.trans up3) os ag
    obtain ⟨oe3, vs3, he3, hz3, hd3⟩ := fl3.there
    have nfr : a ∉ frs (X.env :: X.outer) := fun hm => by
      obtain ⟨_, o', e', hnf⟩ := fl3.2.2.1.mem hm
      rw [he3] at e'
      cases e'
      exact hnf _ hd3
    have nL : a ≠ X.env.locals := fun z => nfr (List.mem_filterMap.mpr ⟨X.env, List.mem_cons_self, by rw [hf, z]⟩)
    have nF : a ∉ X.fs := fun hm => by
      obtain ⟨e, he, q⟩ := List.mem_filterMap.mp hm
      exact nfr (List.mem_filterMap.mpr ⟨e, List.mem_cons_of_mem _ he, q⟩)
    have S3 := J3.suite he3 hd3 na nL nF
    refine wpAny_handleBy_cons (codeAny_handlers_test ?_) (by intro q; cases q)
    have LT : PySem.W.Looks (model X.prog X.w) h3 (typeOf (.ref a)) cls := fun A Q E s k q => wpAny_typeOf_ref (k _ _ he3) (by rw [hz3.1]; exact q)
    have LM := PySem.W.exm_one (M := model X.prog X.w) (J3.kIn) LT hb1
    have test : ∀ {Q : Value → Shared → Prop} {E : Value → Shared → Prop}, Q c { s' with heap := h3 } → wpAny (model X.prog X.w) (X.A.mark (some (.ref a))) (eval (.Name x np) X.env) Q E { s' with heap := h3 } := fun {Q E} q => by
      obtain ⟨hg, hdbg, hm | ⟨hm, hv, hnn⟩⟩ := hc
      · exact ld_glob (X := X.suite a ((a, oe3) :: (X.pn ++ pins))) S3 hg hm q hdbg
      · exact ld_blt (X := X.suite a ((a, oe3) :: (X.pn ++ pins))) S3 hg hm hv q hnn hdbg
    refine test (LM.here ?_)
    refine codeAny_handlers_suite_as ?_
    refine HandSPX.lands_againZ fl3 fun h4 fl4 up4 => ?_
    have J4 : Inv X pins σ' H' { s' with heap := h4 } := J.landed nb fl4.1 ((up.trans up3).trans up4) os ag
    obtain ⟨oe4, vs4, he4, hz4, hd4⟩ := fl4.there
    have S4 := J4.suite he4 hd4 na nL nF
    refine store_ok (X := X.suite a ((a, oe4) :: (X.pn ++ pins))) (v := .ref a) S4 hN hi (.inl hln) rfl (fun s5 S5 => ?_) (.inr hln)
    refine wpAny_mono ((hsu a oe4 cls d (X.pn ++ pins) hz4 ⟨_, hd4⟩).run [] s5 _ H' _ S5 (hyes a na)) (fun f s6 hsp => ?_) (fun _ _ z => False.elim z)
    have fin : ∀ {σ6 : L2.St} {H6 : Hp} {Q : Shared → Prop}, Inv (X.suite a ((a, oe4) :: (X.pn ++ pins))) [] σ6 H6 s6 → (∀ s7, Inv X pins (σ6.set i none) H6 s7 → Q s7) →
        wpAny (model X.prog X.w) X.A (do bindName X.env n .none; unbindBehindTheSuite X.env n pos') (fun _ s7 => Q s7) X.xe s6 := fun {σ6 H6 Q} S6 hq => gone_ok (S6.unsuite ok) hN hi hln hq
    match f, hsp with
    | .next, ⟨σ6, H6, S6, q6⟩ => exact fin S6 fun s7 J7 => ⟨_, _, J7, q6⟩
    | .brk, ⟨σ6, H6, S6, q6⟩ => exact fin S6 fun s7 J7 => ⟨_, _, J7, q6⟩
    | .cont, ⟨σ6, H6, S6, q6⟩ => exact fin S6 fun s7 J7 => ⟨_, _, J7, q6⟩
    | .ret u, ⟨v6, σ6, H6, S6, r6, q6⟩ => exact fin S6 fun s7 J7 => ⟨_, _, _, J7, r6, q6⟩
  · match f, hsp with
    | .next, ⟨σ', H', J', q⟩ => exact wpAny_execs_nil ⟨σ', H', J'.ofTry ok, q⟩
    | .brk, ⟨σ', H', J', q⟩ => exact ⟨σ', H', J'.ofTry ok, q⟩
    | .cont, ⟨σ', H', J', q⟩ => exact ⟨σ', H', J'.ofTry ok, q⟩
    | .ret u, ⟨v, σ', H', J', r, q⟩ => exact ⟨v, σ', H', J'.ofTry ok, r, q⟩
/-- what is known of two classes -/
def SubE (K : PySem.W.Frag) (sub : Str → Str → Option Bool) : Prop := ∀ c' c, sub c' c = some true → PySem.W.exmOne K (.ref (He.ga K c')) (.ref (He.ga K c)) = some true
variable {W : WX} {cn : Str} {sub : Str → Str → Option Bool} {f g : MP.Env → Store → SRes}
theorem s_try (hs : X.stack = X.env :: X.outer) (hf : X.env.frame = some X.env.locals) (hN : X.N.Nodup) (hi : X.N[i]? = some n) (hln : X.env.kindOf n = some .local) (hc : Names X x (.ref (He.ga X.K x))) (hsub : SubE X.K sub)
    (hb : ∀ (W : WX) (pn : List (Addr × Obj)) (xe : Value → Shared → Prop), L2N.Takes (X.tr pn xe) W → PassesOwn (model X.prog X.w) X.A X.env xe → SsOk (X.tr pn xe) xr0 W body f)
    (hsu : ∀ (a : Addr) (oe : Obj) (cls : Value) (d : Option Addr) (pn : List (Addr × Obj)), L2N.Zn cls d oe → (∃ vs, oe.data = .fields vs) → SsOk (X.suite a ((a, oe) :: pn)) (xrS X.K a cls d) W0 (b₀ :: suite) g) :
    SOk X xr0 W (.Try body (.ExceptHandler (some (.Name x np)) (some n) (b₀ :: suite) pos' :: hds) [] [] pos) (fun ρ S => match f ρ S with
      | .exc c' ns l ρ1 S1 => (match sub c' x with
        | some true => (match g (ρ1.set i (some (.exc c' ns l))) S1 with
          | .go f ρ2 S2 => .go f ((dropX ρ2).set i none) S2
          | _ => .stuck)
        | _ => .stuck)
      | r => r) := by
  refine ⟨_, ps_try1 (tb := fun W => rdS X.K xr0 W f) (ts := fun a cls d => rdS X.K (xrS X.K a cls d) W0 g) (hds := hds) hs hf hN hi hln hc (fun W pn xe h1 h2 => (hb W pn xe h1 h2).rd) (fun a oe cls d pn h1 h2 => (hsu a oe cls d pn h1 h2).rd), fun σ w S ρ D er sr h => ?_⟩
  refine ⟨w, S, ρ, rfl, er, sr, ?_⟩
  dsimp only at h
  match hf : f ρ S with
  | .go .next ρ1 S1 => rw [hf] at h; exact h
  | .go .brk ρ1 S1 => rw [hf] at h; exact h
  | .go .cont ρ1 S1 => rw [hf] at h; exact h
  | .go (.ret q) ρ1 S1 => rw [hf] at h; exact h
  | .stuck => rw [hf] at h; exact h
  | .exc c' ns l ρ1 S1 =>
    rw [hf] at h
    dsimp only at h
    intro w1 σ1 d x1 s1 er1 hd
    cases es : sub c' x with
    | none => simp only [es] at h; exact h.elim
    | some b =>
      cases b with
      | false => simp only [es] at h; exact h.elim
      | true =>
        simp only [es] at h
        refine ⟨hsub _ _ es, fun a ha => ⟨w1, S1, ρ1.set i (some (.exc c' ns l)), rfl, (er1.xr (xr := xrS X.K a (.ref (He.ga X.K c')) d)).set (show RelX X.K _ w1 (.exc c' ns l) (.ref a) from ⟨rfl, rfl, hd⟩), s1, ?_⟩⟩
        have back : ∀ {w' : Wd} {σ' : L2.St} {ρ2 : MP.Env}, EnvR X.K (xrS X.K a (.ref (He.ga X.K c')) d) w' σ' ρ2 → EnvR X.K xr0 w' (σ'.set i none) ((dropX ρ2).set i none) := fun e => e.drop.unset
        match hg : g (ρ1.set i (some (.exc c' ns l))) S1 with
        | .go .next ρ2 S2 => rw [hg] at h; exact fun w' σ' x' s' e' => h w' _ (x1.trans x') s' (back e')
        | .go .brk ρ2 S2 => rw [hg] at h; exact fun w' σ' x' s' e' => h w' _ (x1.trans x') s' (back e')
        | .go .cont ρ2 S2 => rw [hg] at h; exact fun w' σ' x' s' e' => h w' _ (x1.trans x') s' (back e')
        | .go (.ret q) ρ2 S2 => rw [hg] at h; exact fun w' v x' s' e' => h w' v (x1.trans x') s' e'
        | .exc c2 ns2 l2 ρ2 S2 => rw [hg] at h; exact h.elim
        | .stuck => rw [hg] at h; exact h.elim
end
end MP
set_option Elab.async false
set_option linter.all false
set_option maxRecDepth 100000
set_option maxHeartbeats 4000000
/-! MPRaise: raise of own exceptions with fields. -/
namespace MP
open PySem PySem.Spec PyProof.Rows L2
def Flds (fs : List Str) (ys : List V) (k : Nat) (gs : List (Str × V)) : Prop := gs.length = k ∧ ∀ i f y, i < k → fs[i]? = some f → ys[i]? = some y → gs.lookup f = some y
/-- the module's own _kept: a number comes back as it is -/
def spK : Sp := fun vs H Q _ => ∃ i : Int, vs = [.int i] ∧ Q (.int i) H
theorem kept_fn {P : Program} {w : World} {K : PySem.W.Frag} {mg : Str → Option Value} {base : Heap} {x qual : Str} {params : Arguments} {scope : Scope} {f : Addr} {fd : FuncData} {N : List Str} {er : List Stmt} {p1 p2 p3 p4 p5 p6 p7 : Pos}
    (F : FunD K x qual params [.If (.Call (.Name "isinstance" p1) [.Name "value" p2, .Name "list" p3] [] p4) er [] p5, .Return (some (.Name "value" p6)) p7] scope [] [] f fd) (S : FnScope N ["value"] scope) (hN : N[0]? = some ("value" : Str)) (v0 : scope.names.lookup ("value" : Str) = some .local)
    (gi : scope.names.lookup ("isinstance" : Str) = some .globalImplicit) (gl : scope.names.lookup ("list" : Str) = some .globalImplicit) (mi : mg "isinstance" = none) (ml : mg "list" = none) : FnOk P w K mg base (L2N.CX P w) 1 f fd ["value"] spK := by
  refine F.ok S (fun vs H Q E h => ?_) fun cdv A outer s H vs Q E room h => ?_
  · obtain ⟨i, rfl, _⟩ := h
    rfl
  · obtain ⟨i, rfl, q⟩ := h
    have pv : ∀ p, PE (cxOf (L2N.CX P w) P w K mg base N qual scope f cdv A outer s H E) (.Name "value" p) (tVar 0) := fun p => pe_var hN (.inl v0)
    refine ⟨_, pss_cons (ps_if (pt_val (pe_callB call_isi gi mi (by first | rfl | decide +kernel) (pa_cons (pv _) (pa_cons (pe_bltn gl ml (by first | rfl | decide +kernel) (v := .ty "list") rfl (by decide) (by decide)) pa_nil)))) pss_never pss_nil) (pss_cons (ps_ret (pv _)) pss_nil), ?_⟩
    refine ⟨.int i, rfl, ?_⟩
    refine ⟨.int i, .ty "list", _, _, _, rfl, .ty "list", .base (.int i), isTy_ok .int .list, ?_⟩
    exact ⟨false, rfl, .int i, rfl, q⟩
/-- what a raise knows of it -/
structure KeptF (P : Program) (w : World) (K : PySem.W.Frag) (mg : Str → Option Value) (base : Heap) : Prop where
  ex : ∃ kf fd, mg "_kept" = some (.ref kf) ∧ PySem.W.keepIn K (.ref kf) = true ∧ FnOk P w K mg base (L2N.CX P w) 1 kf fd ["value"] spK ∧ Binds K fd ["value"] []
/-- the promise of such an __init__ -/
def spO (C : Addr) (fs : List Str) (kp : Nat → Bool) : Sp := fun vs H Q E => ∃ a ys, vs = .ref a :: ys ∧ ys.length = fs.length ∧ fs ≠ [] ∧ (∀ (i : Nat) y, kp i = true → ys[i]? = some y → ∃ n : Int, y = .int n) ∧ H a = some (exo a C none) ∧
  ∀ d H2 gs, H d = none → d ≠ a → H2 a = some (exo a C (some d)) → H2 d = some (exd d gs) → Flds fs ys fs.length gs → (∀ b, b ≠ a → b ≠ d → H2 b = H b) → Q .non H2
/-- what a field is set to: the parameter, or it by way of _kept -/
inductive ValE (f : Str) : Bool → Expr → Prop
  | name {p : Pos} : ValE f false (.Name f p)
  | kept {p5 p3 p6 : Pos} : ValE f true (.Call (.Name "_kept" p5) [.Name f p3] [] p6)
theorem ValE.swap {f : Str} {b : Bool} {ev : Expr} (v : ValE f b ev) (t : Option Expr) (line : Nat) (env : PySem.Env) : swapsWith ev t line env = pure false := by
  cases v <;> rfl
/-- self.f = f, .. from the k-th on -/
inductive InitB (s : Str) (fs : List Str) (kp : Nat → Bool) : Nat → List Stmt → Prop
  | nil {k : Nat} (h : k = fs.length) : InitB s fs kp k []
  | cons {k : Nat} {f : Str} {p1 p2 p4 : Pos} {ev : Expr} {r : List Stmt} (h : fs[k]? = some f) (hv : ValE f (kp k) ev) (hr : InitB s fs kp (k + 1) r) : InitB s fs kp k (.Assign [.Attribute (.Name s p1) f p2] ev p4 :: r)
theorem flds_put {fs : List Str} {ys : List V} {k : Nat} {gs : List (Str × V)} {f : Str} {y : V} (nd : fs.Nodup) (h : Flds fs ys k gs) (hf : fs[k]? = some f) (hy : ys[k]? = some y) : Flds fs ys (k + 1) ((f, y) :: gs) := by
  refine ⟨by rw [List.length_cons, h.1], fun i g z hi hg hz => ?_⟩
  rw [lookup_put]
  by_cases q : i = k
  · subst q
    rw [hf] at hg
    rw [hy] at hz
    cases hg
    cases hz
    rw [if_pos rfl]
  · have ne : g ≠ f := fun e => q (by
      subst e
      exact (List.getElem?_inj (List.getElem?_eq_some_iff.mp hg).1 nd).mp (hg.trans hf.symm))
    rw [if_neg ne]
    exact h.2 i g z (by omega) hg hz
section
variable {X : Cx} {C : Addr} {fs : List Str} {s : Str} {kp : Nat → Bool}
theorem val_ok {k : Nat} {f : Str} {b : Bool} {ev : Expr} (hN : X.N[k + 1]? = some f) (hv : Vis X.env.scope f ∧ (f == ("__debug__" : Str)) = false ∧ (f == ("__classdict__" : Str)) = false)
    (hk : b = true → KeptF X.prog X.w X.K X.mg X.base ∧ Gl X "_kept" ∧ Room 1 X.A ∧ Passes (L2N.CX X.prog X.w) X fun _ _ _ => False) (v : ValE f b ev) :
    (∃ t, PE X ev t ∧ ∀ σ H Q y, σ[k + 1]? = some (some y) → (b = true → ∃ n : Int, y = .int n) → Q y H → t σ H Q) := by
  cases v with
  | @name p => exact ⟨_, pe_var hN hv.1 hv.2.1 hv.2.2, fun σ H Q y e _ q => ⟨y, e, q⟩⟩
  | @kept p5 p3 p6 =>
    obtain ⟨⟨kf, fd, hm, hkp, F, hb⟩, hg, hr, hp⟩ := hk rfl
    refine ⟨_, pe_call (E := fun _ _ _ => False) F hr hg hm hkp hb .nil hp (pa_cons (pe_var hN hv.1 hv.2.1 hv.2.2) pa_nil) (by decide), fun σ H Q y e h q => ?_⟩
    obtain ⟨n, rfl⟩ := h rfl
    exact ⟨.int n, e, n, rfl, q⟩
/-- behind the first field -/
def tRest (C : Addr) (fs : List Str) (kp : Nat → Bool) (k : Nat) : TS := fun D σ H => ∃ a d ys gs, σ = some (.ref a) :: ys.map some ∧ ys.length = fs.length ∧ (∀ (i : Nat) y, kp i = true → ys[i]? = some y → ∃ n : Int, y = .int n) ∧ d ≠ a ∧ H a = some (exo a C (some d)) ∧ H d = some (exd d gs) ∧ Flds fs ys k gs ∧
  ∀ H2 gs2, H2 a = some (exo a C (some d)) → H2 d = some (exd d gs2) → Flds fs ys fs.length gs2 → (∀ b, b ≠ a → b ≠ d → H2 b = H b) → D.nx σ H2
theorem init_rest (hN : X.N = s :: fs) (T : OexC X.K C) (nd : fs.Nodup) (hl : fs.length ≤ 900) (hv : ∀ x ∈ X.N, Vis X.env.scope x ∧ (x == ("__debug__" : Str)) = false ∧ (x == ("__classdict__" : Str)) = false) (hno : ∀ f ∈ fs, PySem.W.findIn X.K (.ref C) f = some none)
    (hk : ∀ i, kp i = true → KeptF X.prog X.w X.K X.mg X.base ∧ Gl X "_kept" ∧ Room 1 X.A ∧ Passes (L2N.CX X.prog X.w) X fun _ _ _ => False) :
    ∀ {body : List Stmt} {k : Nat}, InitB s fs kp k body → PSs X body (tRest C fs kp k)
  | _, k, .nil h => by
    refine ⟨fun pins st σ H D I ⟨a, d, ys, gs, e, l, hki, hda, ha, hd, hf, q⟩ => pss_nil.run pins st σ H D I ?_⟩
    subst h
    exact q H gs ha hd hf fun _ _ _ => rfl
  | _, k, .cons (f := f) (p1 := p1) (p2 := p2) (p4 := p4) (r := r) h hve hr => by
    have ih := init_rest hN T nd hl hv hno hk hr
    have h0 : X.N[0]? = some s := by rw [hN]; rfl
    have h1 : X.N[k + 1]? = some f := by rw [hN]; exact h
    have v0 := hv s (List.mem_of_getElem? h0)
    have v1 := hv f (List.mem_of_getElem? h1)
    obtain ⟨t, pt, qt⟩ := val_ok h1 v1 (hk k) hve
    have ps := ps_ost (X := X) (f := f) (p' := p2) (pos := p4) (pe_var (pos := p1) h0 v0.1 v0.2.1 v0.2.2) pt (hve.swap _ _ _)
    refine ⟨fun pins st σ H D I ⟨a, d, ys, gs, e, l, hki, hda, ha, hd, hf, q⟩ => (pss_cons ps ih).run pins st σ H D I ?_⟩
    have hk : k < ys.length := by rw [l]; exact (List.getElem?_eq_some_iff.mp h).1
    have hy : ys[k]? = some ys[k] := List.getElem?_eq_getElem hk
    have eσ : σ[k + 1]? = some (some ys[k]) := by
      rw [e, List.getElem?_cons_succ, List.getElem?_map, hy]
      rfl
    refine qt σ H _ ys[k] eσ (fun b => hki k ys[k] b hy) ⟨.ref a, by rw [e]; rfl, a, C, rfl, T, hno f (List.mem_of_getElem? h), .inr ⟨d, gs, ha, hd, ?_, ?_⟩⟩
    · rw [hf.1]
      have : k < fs.length := (List.getElem?_eq_some_iff.mp h).1
      omega
    · refine ⟨a, d, ys, _, e, l, hki, hda, by rw [upd_ne (Ne.symm hda)]; exact ha, upd_same, flds_put nd hf h hy, fun H2 gs2 h1 h2 h3 h4 => q H2 gs2 h1 h2 h3 fun b hb hb2 => ?_⟩
      rw [h4 b hb hb2, upd_ne hb2]
theorem init_all (hN : X.N = s :: fs) (T : OexC X.K C) (nd : fs.Nodup) (hl : fs.length ≤ 900) (hv : ∀ x ∈ X.N, Vis X.env.scope x ∧ (x == ("__debug__" : Str)) = false ∧ (x == ("__classdict__" : Str)) = false) (hno : ∀ f ∈ fs, PySem.W.findIn X.K (.ref C) f = some none)
    (hk : ∀ i, kp i = true → KeptF X.prog X.w X.K X.mg X.base ∧ Gl X "_kept" ∧ Room 1 X.A ∧ Passes (L2N.CX X.prog X.w) X fun _ _ _ => False)
    {body : List Stmt} (hb : InitB s fs kp 0 body) (hne : fs ≠ []) : PSs X body (fun D σ H => ∃ a ys, σ = some (.ref a) :: ys.map some ∧ ys.length = fs.length ∧ (∀ (i : Nat) y, kp i = true → ys[i]? = some y → ∃ n : Int, y = .int n) ∧ H a = some (exo a C none) ∧
      ∀ d H2 gs, H d = none → d ≠ a → H2 a = some (exo a C (some d)) → H2 d = some (exd d gs) → Flds fs ys fs.length gs → (∀ b, b ≠ a → b ≠ d → H2 b = H b) → D.nx σ H2) := by
  cases hb with
  | nil h => exact absurd (List.length_eq_zero_iff.mp h.symm) hne
  | @cons _ f p1 p2 p4 ev r h hve hr =>
    have ih := init_rest hN T nd hl hv hno hk hr
    have h0 : X.N[0]? = some s := by rw [hN]; rfl
    have h1 : X.N[0 + 1]? = some f := by rw [hN]; exact h
    have v0 := hv s (List.mem_of_getElem? h0)
    have v1 := hv f (List.mem_of_getElem? h1)
    obtain ⟨t, pt, qt⟩ := val_ok h1 v1 (hk 0) hve
    have ps := ps_ost (X := X) (f := f) (p' := p2) (pos := p4) (pe_var (pos := p1) h0 v0.1 v0.2.1 v0.2.2) pt (hve.swap _ _ _)
    refine ⟨fun pins st σ H D I ⟨a, ys, e, l, hki, ha, q⟩ => (pss_cons ps ih).run pins st σ H D I ?_⟩
    have hk : 0 < ys.length := by rw [l]; exact (List.getElem?_eq_some_iff.mp h).1
    have hy : ys[0]? = some ys[0] := List.getElem?_eq_getElem hk
    have eσ : σ[0 + 1]? = some (some ys[0]) := by
      rw [e, List.getElem?_cons_succ, List.getElem?_map, hy]
      rfl
    refine qt σ H _ ys[0] eσ (fun b => hki 0 ys[0] b hy) ⟨.ref a, by rw [e]; rfl, a, C, rfl, T, hno f (List.mem_of_getElem? h), .inl ⟨ha, fun d hd hda => ?_⟩⟩
    refine ⟨a, d, ys, _, e, l, hki, hda, upd_same, by rw [upd_ne hda, upd_same], flds_put nd ⟨rfl, fun i f y hi => absurd hi (Nat.not_lt_zero _)⟩ h hy, fun H2 gs2 h1 h2 h3 h4 => q d H2 gs2 hd hda h1 h2 h3 fun b hb hb2 => ?_⟩
    rw [h4 b hb hb2, upd_ne hb, upd_ne hb2]
variable {e : Expr} {es : List Expr} {ta : TA} {k : Nat} {fI : Addr} {fd : FuncData} {ps : List Str} {x : Str} {p pos : Pos}
/-- C(e, ..) as it is raised -/
def tMkF (C : Addr) (fs : List Str) (kp : Nat → Bool) (ta : TA) : St → Hp → XK → Prop := fun σ H Q => ta σ H fun vs H1 => vs.length = fs.length ∧ (∀ (i : Nat) y, kp i = true → vs[i]? = some y → ∃ n : Int, y = .int n) ∧ ∀ d gs, H1 d = none → Flds fs vs fs.length gs → Q (.ref C) (some d) (upd H1 d (.xd gs))
theorem pmk_flds (T : OexC X.K C) (iC : PySem.W.findIn X.K (.ref C) "__init__" = some (some (.ref fI))) (tI : PySem.W.typeIn X.K (.ref fI) = some (.type "function")) (hne : fs ≠ []) (hl : fs.length ≤ 900)
    (F1 : FnOk X.prog X.w X.K X.mg X.base (L2N.CX X.prog X.w) k fI fd ps (spO C fs kp)) (hr : Room (k + 1) X.A) (hb : Binds X.K fd ps []) (hx : Passes (L2N.CX X.prog X.w) X (fun _ _ _ => False)) (hg : Gl X x) (hm : X.mg x = some (.ref C)) (ha : PA X (e :: es) ta)
    (hdb : (x == ("__debug__" : Str)) = false) (he : starEach (e :: es) X.env = (false, eval e X.env) :: starEach es X.env) (hpl : (backTo pos (starEach es X.env)).any (·.1) = false) :
    L2N.PMk X (.Call (.Name x p) (e :: es) [] pos) (tMkF C fs kp ta) := by
  intro pins s σ H Q I h
  obtain ⟨nm, q, N, bs, bm, sn, sub, ab, col, dd, k0, k1, k2, k3, k5, hC, hbm⟩ := T.cls
  refine wpAny_Call_Name_kw (ld_glob I hg hm ?_ hdb)
  refine PySem.W.callWith_K (h₀ := X.base) I.ok.mod.kin T.kC (thn (ha.run pos pins s σ H _ I h) fun us s1 ⟨vs, H1, I1, r1, hz, hki, q1⟩ => ⟨I1.kIn, ?_⟩) he hpl
  show wpAny _ _ (call (.ref C) us) _ _ _
  obtain ⟨hp, g, dr, tk, os⟩ := s1
  have hsz : hp.objs.size ≤ hp.objs.size + 1 := Nat.le_succ _
  have hn : H1 (hp.objs.size + 1) = none := I1.hok.fresh hsz
  have kk : ∀ b o, hp.get? b = some o → ((hp.push (PySem.W.kdv_tup us)).push (PySem.HandSPX.excO C hp.objs.size)).get? b = some o := fun b o e => Heap.get?_push_of_some _ (Heap.get?_push_of_some _ e)
  have hget : ((hp.push (PySem.W.kdv_tup us)).push (PySem.HandSPX.excO C hp.objs.size)).get? (hp.objs.size + 1) = some (PySem.HandSPX.excO C hp.objs.size) := by heap_get
  have I2 : Inv X pins σ (upd H1 (hp.objs.size + 1) (exo (hp.objs.size + 1) C none)) ⟨(hp.push (PySem.W.kdv_tup us)).push (PySem.HandSPX.excO C hp.objs.size), g, dr, tk, os⟩ :=
    I1.laid (t' := tk) (a := hp.objs.size + 1) (o := exo (hp.objs.size + 1) C none) (h' := (hp.push (PySem.W.kdv_tup us)).push (PySem.HandSPX.excO C hp.objs.size)) kk hsz (exo_ok hget)
  have r2 : Vals (V.ref (hp.objs.size + 1) :: vs) (Value.ref (hp.objs.size + 1) :: us) := .cons rfl r1
  have hq : spO C fs kp (V.ref (hp.objs.size + 1) :: vs) (upd H1 (hp.objs.size + 1) (exo (hp.objs.size + 1) C none)) (fun v H2 => v = .non ∧ ∃ d gs, H2 (hp.objs.size + 1) = some (exo (hp.objs.size + 1) C (some d)) ∧ H2 d = some (exd d gs) ∧ H1 d = none ∧ Q (.ref C) (some d) (upd (del H2 (hp.objs.size + 1)) d (.xd gs))) (fun _ _ _ => False) := by
    refine ⟨hp.objs.size + 1, vs, rfl, hz, hne, hki, upd_same, fun d H2 gs hd hda h1 h2 h3 h4 => ⟨rfl, d, gs, h1, h2, ?_, ?_⟩⟩
    · rw [upd_ne hda] at hd
      exact hd
    · rw [upd_ne hda] at hd
      have e : upd (del H2 (hp.objs.size + 1)) d (.xd gs) = upd H1 d (.xd gs) := by
        funext b
        by_cases q1 : b = d
        · rw [q1, upd_same, upd_same]
        · rw [upd_ne q1, upd_ne q1]
          by_cases q2 : b = hp.objs.size + 1
          · rw [q2, del_same]
            exact hn.symm
          · rw [del_ne q2, h4 b q2 q1, upd_ne q2]
      rw [e]
      exact q1 d gs hd h3
  have hlen : (Value.ref (hp.objs.size + 1) :: us).length = ps.length := by rw [← r2.length]; exact F1.len _ _ _ _ hq
  have b := hb _ (Value.ref (hp.objs.size + 1) :: us) I2.kIn (by rw [List.append_nil]; exact hlen)
  rw [List.append_nil] at b
  have hus : us.length ≤ sizeLine := by
    have l2 := line_eq
    rw [← r1.length]
    omega
  refine wpAny_call (PySem.HandSPX.call_own F.excBase_ValueError (fun Y => PySem.HandSPX.refsVE_contains Y bm hbm) (I1.kIn _ _ hC) (PySem.W.looks_findIn I1.kIn iC) (fun self => PySem.W.bind_fn I1.kIn self tI) hus
    (codeAny_mono (F1.run _ X.stack _ _ ⟨Value.ref (hp.objs.size + 1) :: us, []⟩ _ _ _ (fun _ _ _ => False) (hr.make C us []) (I2.env0.make C us []) b r2 hq) fun r s' hq' => ?_))
  match r, hq' with
  | .error er, hq' => exact hx pins σ _ _ er s' I2 hq'
  | .ok (.ret u), hq' =>
    obtain ⟨v, H2, os2, bare2, un2, hok2, rv, ev, d, gs, ea, ed, hd1, q2⟩ := hq'
    subst ev
    obtain ⟨h2, g2, d2, t2, os'⟩ := s'
    obtain ⟨t0, G, J, kG, ge, hoe, na⟩ := mk_end0 (d2 := d2) (t2 := t2) I1 hsz kk un2 hok2 os2 bare2 ea ed hd1
    exact ⟨rv, ⟨hp.objs.size + 1, _, _, ⟨G, g2, d2, t2, os'⟩, _, .ref C, some d, rfl, J, kG, ge, hoe, ⟨rfl, rfl, fun vs e => by cases e; rfl⟩, rfl, rfl, na, rfl, bare2, raises_own T.exC T.tyC, q2⟩⟩
  | .ok .next, hq' => exact False.elim hq'
  | .ok .brk, hq' => exact False.elim hq'
  | .ok .cont, hq' => exact False.elim hq'
end
theorem look_at {α : Type} {f : Str} : ∀ {ns : List Str} {l : List α} {x : α}, lookA f ns l = some x → ∃ i : Nat, ns[i]? = some f ∧ l[i]? = some x
  | [], l, x, h => by cases l <;> cases h
  | n :: ns, [], x, h => by cases h
  | n :: ns, y :: l, x, h => by
    have h' : (if n = f then some y else lookA f ns l) = some x := h
    by_cases z : n = f
    · rw [if_pos z] at h'
      cases h'
      exact ⟨0, by rw [z]; rfl, rfl⟩
    · rw [if_neg z] at h'
      obtain ⟨i, h1, h2⟩ := look_at h'
      exact ⟨i + 1, h1, h2⟩
theorem kept_plain : ∀ {fs : List (Str × Bool)} {rs : List R} {S : Store}, (∃ ds : List D, keptAll fs rs S = .ok ds S ∧ rs = ds.map .dat ∧ ds.length = fs.length ∧ ∀ (i : Nat) f d, fs[i]? = some (f, true) → ds[i]? = some d → ∃ n : Int, d = .int n) ∨ keptAll fs rs S = .stuck
  | [], [], S => .inl ⟨[], rfl, rfl, rfl, fun i f d h => by simp at h⟩
  | [], r :: rs, S => .inr rfl
  | f :: fs, [], S => .inr rfl
  | (f, k) :: fs, r :: rs, S => by
    have one : (∃ d, kept1 k r S = .ok (.dat d) S ∧ r = .dat d ∧ (k = true → ∃ n : Int, d = .int n)) ∨ (kept1 k r S = .stuck) ∨ ∃ q, kept1 k r S = .ok q S ∧ ∀ d, q ≠ .dat d := by
      cases k with
      | true =>
        cases r with
        | own k => exact .inr (.inl rfl)
        | exc c ns l => exact .inr (.inl rfl)
        | dat d =>
          cases d with
          | int i => exact .inl ⟨.int i, rfl, rfl, fun _ => ⟨i, rfl⟩⟩
          | _ => exact .inr (.inl rfl)
      | false =>
        cases r with
        | own k => exact .inr (.inr ⟨.own k, rfl, fun d z => nomatch z⟩)
        | exc c ns l => exact .inr (.inr ⟨.exc c ns l, rfl, fun d z => nomatch z⟩)
        | dat d => exact .inl ⟨d, rfl, rfl, fun z => nomatch z⟩
    have step : ∀ q, kept1 k r S = .ok q S → keptAll ((f, k) :: fs) (r :: rs) S = (match q with
        | .dat d => M.bind (keptAll fs rs) fun ds => M.pure (d :: ds)
        | _ => M.stuck) S := fun q e => bind_at e
    rcases one with ⟨d, h1, h2, h3⟩ | h1 | ⟨q, h1, h2⟩
    · rw [step _ h1]
      rcases kept_plain (fs := fs) (rs := rs) (S := S) with ⟨ds, g1, g2, g3, g4⟩ | g1
      · refine .inl ⟨d :: ds, bind_at g1, by rw [h2, g2]; rfl, by rw [List.length_cons, g3]; rfl, fun i f' d' hi hd => ?_⟩
        cases i with
        | zero =>
          cases hi
          cases hd
          exact h3 rfl
        | succ i => exact g4 i f' d' hi hd
      · refine .inr ?_
        show M.bind (keptAll fs rs) (fun ds => M.pure (d :: ds)) S = _
        unfold M.bind
        rw [g1]
    · refine .inr ?_
      show M.bind (kept1 k r) _ S = _
      unfold M.bind
      rw [h1]
    · rw [step _ h1]
      refine .inr ?_
      cases q with
      | dat d => exact absurd rfl (h2 d)
      | own k => rfl
      | exc c ns l => rfl
section
variable {X : Cx} {xr : XR} {W : WX} {C : CallsX} {c : Str} {es : List Expr} {ms : MP.Env → M (List R)} {fs : List (Str × Bool)} {p pc pos : Pos}
/-- which fields go by way of _kept -/
def kpOf (fs : List (Str × Bool)) (i : Nat) : Bool := match fs[i]? with
  | some q => q.2
  | none => false
theorem s_raise (hx : xr.Ok) (hc : X.calm = true) (tk : L2N.Takes X W) (hxc : C.xc c = some ⟨fs⟩) (hm : ∀ ta, PA X es ta → L2N.PMk X (.Call (.Name c p) es [] pc) (tMkF (He.ga X.K c) (fs.map (·.1)) (kpOf fs) ta)) (he : AOk X xr W es ms) :
    SOk X xr W (.Raise (some (.Call (.Name c p) es [] pc)) none pos) (fun ρ S => SRes.of ρ ((M.bind (ms ρ) fun rs => raiseR C c rs) S) fun _ _ => .stuck) := by
  obtain ⟨t, pt, q⟩ := he
  refine ⟨_, L2N.ps_raise hc tk (hm t pt), fun σ w S ρ D er sr h => q σ w S ρ _ er sr ?_⟩
  cases e : ms ρ S with
  | stuck =>
    unfold M.bind at h
    simp only [e] at h
    exact h.elim
  | exc c' ns l S1 =>
    unfold M.bind at h
    simp only [e] at h
    exact fun w1 d x s hd => h w1 σ d x s (er.ext hx x) hd
  | ok rs S1 =>
    dsimp only at h
    rw [bind_at e] at h
    intro w1 vs x1 s1 rr
    unfold raiseR at h
    simp only [hxc] at h
    rcases kept_plain (fs := fs) (rs := rs) (S := S1) with ⟨ds, h1, h2, h3, h3k⟩ | h1
    · rw [bind_at h1] at h
      refine ⟨by rw [← rr.length, h2, List.length_map, List.length_map]; exact h3, fun i y hk hy => ?_, fun d gs hd hf => ?_⟩
      · unfold kpOf at hk
        cases ef : fs[i]? with
        | none => rw [ef] at hk; cases hk
        | some q =>
          obtain ⟨f, b⟩ := q
          rw [ef] at hk
          have hk : b = true := hk
          subst hk
          have hi := (List.getElem?_eq_some_iff.mp ef).1
          have ed : ds[i]? = some ds[i] := List.getElem?_eq_getElem (by rw [h3]; exact hi)
          obtain ⟨n, en⟩ := h3k i f _ ef ed
          obtain ⟨v, g1, g2⟩ := rr.get (i := i) (r := .dat ds[i]) (by rw [h2, List.getElem?_map, ed]; rfl)
          rw [hy] at g1
          cases g1
          rw [en] at g2
          exact ⟨n, g2⟩
      have er1 := (er.ext hx x1).ext hx (ext_new (o := .xd gs) s1 hd)
      refine h (w1.new d (.xd gs)) σ (some d) (x1.trans (ext_new s1 hd)) (s1.new hd) er1 (.inr ⟨d, gs, rfl, nlive_new s1 hd, new_same, fun f y hy => ?_⟩)
      obtain ⟨i, h4, h5⟩ := look_at hy
      have h6 : rs[i]? = some (.dat y) := by rw [h2, List.getElem?_map, h5]; rfl
      obtain ⟨v, h7, h8⟩ := rr.get h6
      exact ⟨v, hf.2 i f v (List.getElem?_eq_some_iff.mp h4).1 h4 h7, Rel.ext (r := .dat y) (ext_new s1 hd) h8⟩
    · unfold M.bind at h
      rw [h1] at h
      exact h.elim
theorem s_never {st : Stmt} {f : MP.Env → Store → SRes} (h : ∀ ρ S, f ρ S = .stuck) : SOk X xr W st f := ⟨_, ps_never, fun σ w S ρ D er sr hh => by rw [h] at hh; exact hh⟩
end
end MP
set_option Elab.async false
set_option linter.all false
set_option maxRecDepth 100000
set_option maxHeartbeats 4000000
/-! MPMore: while, break, continue; methods, properties, operators of own classes; defaults; chains; in. -/
namespace MP
open PySem PySem.Spec PyProof.Rows L2
section
variable {X : Cx} {xr : XR} {W : WX} {c : Expr} {body : List Stmt} {f : MP.Env → Store → SRes} {mc : MP.Env → M Bool} {pos : Pos}
theorem s_brk : SOk X xr W (.Break pos) (fun ρ S => .go .brk ρ S) := ⟨_, ps_break, fun σ w S ρ D er sr h => h w σ (Ext.refl _) sr er⟩
theorem s_cont : SOk X xr W (.Continue pos) (fun ρ S => .go .cont ρ S) := ⟨_, ps_continue, fun σ w S ρ D er sr h => h w σ (Ext.refl _) sr er⟩
theorem s_while (hx : xr.Ok) (hp : PassesOwn (model X.prog X.w) X.A X.env X.xe) (hc : TOk X xr W c mc) (hb : SsOk X xr W body f) : SOk X xr W (.While c body [] pos) (fun ρ S => whileX mc f ρ S) := by
  obtain ⟨tc, pc, qc⟩ := hc
  obtain ⟨tb, pb, qb⟩ := hb
  refine ⟨_, ps_while hp pc pb, fun σ w S ρ D er sr h => ?_⟩
  dsimp only at h
  unfold whileX at h
  by_cases z : ∃ n r, whileN mc f n ρ S = some r
  case neg => rw [dif_neg z] at h; exact h.elim
  rw [dif_pos z] at h
  have hr := z.choose_spec.choose_spec
  generalize z.choose_spec.choose = r at h hr
  generalize z.choose = n0 at hr
  refine ⟨fun m σ' H => ∃ w2 S2 ρ2, w2.H = H ∧ Ext w w2 ∧ SR X.K w2 S2 ∧ EnvR X.K xr w2 σ' ρ2 ∧ whileN mc f m ρ2 S2 = some r, ⟨n0, w, S, ρ, rfl, Ext.refl _, sr, er, hr⟩, ?_⟩
  rintro m σ' H ⟨w2, S2, ρ2, eH, x2, s2, er2, hw⟩
  subst eH
  cases m with
  | zero => cases hw
  | succ m =>
    unfold whileN at hw
    refine qc σ' w2 S2 ρ2 _ er2 s2 ?_
    cases hcm : mc ρ2 S2 with
    | stuck =>
      rw [hcm] at hw
      cases (show some SRes.stuck = some r from hw)
      exact h
    | exc c ns l S3 =>
      rw [hcm] at hw
      cases (show some (SRes.exc c ns l ρ2 S3) = some r from hw)
      exact fun w' d x s' hd => h w' σ' d (x2.trans x) s' (er2.ext hx x) hd
    | ok b S3 =>
      rw [hcm] at hw
      intro w3 b' x3 s3 eb
      have eb : b = b' := eb
      subst eb
      have er3 := er2.ext hx x3
      have x23 := x2.trans x3
      cases b with
      | false =>
        cases (show some (SRes.go .next ρ2 S3) = some r from hw)
        exact h w3 σ' x23 s3 er3
      | true =>
        rw [if_pos rfl]
        refine ⟨fun σ' H => ∃ m', m' < m + 1 ∧ ∃ w2 S2 ρ2, w2.H = H ∧ Ext w w2 ∧ SR X.K w2 S2 ∧ EnvR X.K xr w2 σ' ρ2 ∧ whileN mc f m' ρ2 S2 = some r, fun σ'' H' q => q, ?_⟩
        refine qb σ' w3 S3 ρ2 _ er3 s3 ?_
        have hw : (match f ρ2 S3 with
          | .go .next ρ2 S2 => whileN mc f m ρ2 S2
          | .go .cont ρ2 S2 => whileN mc f m ρ2 S2
          | .go .brk ρ2 S2 => some (.go .next ρ2 S2)
          | .go (.ret r) ρ2 S2 => some (.go (.ret r) ρ2 S2)
          | .exc c ns l ρ2 S2 => some (.exc c ns l ρ2 S2)
          | .stuck => some .stuck) = some r := hw
        match hf : f ρ2 S3 with
        | .go .next ρ4 S4 =>
          rw [hf] at hw
          exact fun w' σ4 x4 s4 er4 => ⟨m, Nat.lt_succ_self _, w', S4, ρ4, rfl, x23.trans x4, s4, er4, hw⟩
        | .go .cont ρ4 S4 =>
          rw [hf] at hw
          exact fun w' σ4 x4 s4 er4 => ⟨m, Nat.lt_succ_self _, w', S4, ρ4, rfl, x23.trans x4, s4, er4, hw⟩
        | .go .brk ρ4 S4 =>
          rw [hf] at hw
          cases (show some (SRes.go .next ρ4 S4) = some r from hw)
          exact fun w' σ4 x4 s4 er4 => h w' σ4 (x23.trans x4) s4 er4
        | .go (.ret q) ρ4 S4 =>
          rw [hf] at hw
          cases (show some (SRes.go (.ret q) ρ4 S4) = some r from hw)
          exact fun w' v4 x4 s4 r4 => h w' v4 (x23.trans x4) s4 r4
        | .exc c ns l ρ4 S4 =>
          rw [hf] at hw
          cases (show some (SRes.exc c ns l ρ4 S4) = some r from hw)
          exact fun w' σ4 d x4 s4 er4 hd => h w' σ4 d (x23.trans x4) s4 er4 hd
        | .stuck =>
          rw [hf] at hw
          cases (show some SRes.stuck = some r from hw)
          exact h
end
/-! ### methods -/
theorem look_none : ∀ {fs : List (Str × V)} {n : Str}, n ∉ fs.map (·.1) → fs.lookup n = none
  | [], _, _ => rfl
  | (g, v) :: fs, n, h => by
    rw [List.map_cons, List.mem_cons, not_or] at h
    rw [lookup_put, if_neg h.1]
    exact look_none h.2
theorem recv_at {K : PySem.W.Frag} {w : Wd} {S : Store} {x : R} {u : V} {c n : Str} {β : Type} {rel : Wd → Unit → β → Prop} {E : XK} {Q : β → Hp → Prop} (s : SR K w S) (r : Rel K w x u) (h : Hop K rel E w Q (recvR c n x S)) : recvR c n x S = .ok () S ∧ ∃ a dx fs, u = .ref a ∧ w.H a = some (.ins (He.ga K c) dx fs) ∧ fs.lookup n = none := by
  unfold recvR at h ⊢
  cases x with
  | exc c ns l => exact h.elim
  | dat d =>
    cases d with
    | obj c' ns l =>
      obtain ⟨a, dx, fs, e1, _, h1, h2, h3⟩ := r
      dsimp only at h ⊢
      by_cases z : c' = c ∧ n ∉ ns
      · rw [if_pos z]
        refine ⟨rfl, a, dx, fs, e1, by rw [← z.1]; exact h1, look_none (by rw [h2]; exact z.2)⟩
      · rw [if_neg z] at h
        exact h.elim
    | _ => exact h.elim
  | own k =>
    obtain ⟨hk, e1⟩ := r
    obtain ⟨cc, hc, hr⟩ := s.get hk
    dsimp only at h ⊢
    rw [hc] at h ⊢
    cases cc with
    | obj c' ns rs =>
      obtain ⟨dx, fs, h1, h2, h3⟩ := hr
      dsimp only at h ⊢
      by_cases z : c' = c ∧ n ∉ ns
      · rw [if_pos z]
        refine ⟨rfl, _, dx, fs, e1, by rw [← z.1]; exact h1, look_none (by rw [h2]; exact z.2)⟩
      · rw [if_neg z] at h
        exact h.elim
    | lst rs => exact h.elim
    | tup rs => exact h.elim
theorem recv_next {γ δ : Type} {K : PySem.W.Frag} {rel : Wd → γ → δ → Prop} {w : Wd} {S : Store} {x : R} {u : V} {c n : Str} {E : XK} {Q : δ → Hp → Prop} {f : Unit → M γ} (s : SR K w S) (r : Rel K w x u) (h : Hop K rel E w Q (M.bind (recvR c n x) f S)) : (∃ a dx fs, u = .ref a ∧ w.H a = some (.ins (He.ga K c) dx fs) ∧ fs.lookup n = none) ∧ Hop K rel E w Q (f () S) := by
  have q := h.bind (r1 := fun _ (_ : Unit) (_ : Unit) => True) (Q1 := fun _ H => True) fun _ _ _ _ _ _ _ _ => trivial
  obtain ⟨e, q2⟩ := recv_at s r q
  refine ⟨q2, ?_⟩
  unfold M.bind at h
  rw [e] at h
  exact h
theorem wp_meth {prog : Program} {w : World} {A : Around} {s : Shared} {E : Value → Shared → Prop} {env : PySem.Env} {o : Expr} {name : Str} {apos pos : Pos} {args : List Expr} {Q : Value → Shared → Prop}
    (hbase : attributeBase o name env (eval o env) = eval o env)
    (hfew : ((backTo pos (starEach args env)).all (fun x => !x.1) && (backToKw pos (keywordEach [] env)).all (fun x => x.1.isSome)
      && decide (args.length + ([] : List Keyword).length + (if ([] : List Keyword).isEmpty then 0 else 1) < 30)) = true)
    (hline : (apos.endLine == pos.line) = true)
    (h : ∀ pl : Sem Bool, wpAny (model prog w) A (eval o env) (fun ov s₁ => wpAny (model prog w) A (getMethod ov name pl) (fun fx s₂ => wpAny (model prog w) A (callWith pos fx.1 fx.2 (backTo pos (starEach args env)) (backToKw pos (keywordEach [] env))) Q E s₂) E s₁) E s) :
    wpAny (model prog w) A (eval (.Call (.Attribute o name apos) args [] pos) env) Q E s := by
  rw [arm_eval_Call, hbase]
  refine wpAny_bind (wpAny_mono (h (do return (← importBound o env).getD true)) (fun ov s₁ h₁ => ?_) fun _ _ e => e)
  refine wpAny_bind (wpAny_standAt ?_)
  have hform : methodCallForm (args.length + ([] : List Keyword).length) (backTo pos (starEach args env)) (backToKw pos (keywordEach [] env)) = true := hfew
  have hpos : methodCallPos true o env apos pos = pure pos := by unfold methodCallPos; simp [hline]
  unfold methodCall
  rw [hform]
  refine wpAny_bind (wpAny_holding (wpAny_mono h₁ (fun fx s₂ h₂ => ?_) fun _ _ e => e))
  exact wpAny_bind (wpAny_of_eq hpos h₂)
/-- the form of a method's call -/
structure MForm (X : Cx) (o : Expr) (m : Str) (apos pos : Pos) (es : List Expr) : Prop where
  base : attributeBase o m X.env (eval o X.env) = eval o X.env
  few : ((backTo pos (starEach es X.env)).all (fun x => !x.1) && (backToKw pos (keywordEach [] X.env)).all (fun x => x.1.isSome)
      && decide (es.length + ([] : List Keyword).length + (if ([] : List Keyword).isEmpty then 0 else 1) < 30)) = true
  line : (apos.endLine == pos.line) = true
section
variable {X : Cx} {xr : XR} {W : WX} {a b c e o : Expr} {es : List Expr} {ma mb mc : MP.Env → M R} {ms : MP.Env → M (List R)} {pos p p0 p1 p2 : Pos} {k : Nat} {f C : Addr} {fd : FuncData} {ps : List Str} {sp : Sp} {x m : Str}
variable {ta tb tc : TE} {t : TA} {E : St → XK} {dvs : List V} {ds : List Value}
theorem pe_methS (he : PE X o ta) (c : Cls X.K C) (hm : Meth X.K C m f) (F : FnOk X.prog X.w X.K X.mg X.base (L2N.CX X.prog X.w) k f fd ps sp) (hr : Room k X.A) (hb : Binds X.K fd ps []) (hx : ∀ σ, PassesAt (L2N.CX X.prog X.w) X σ (E σ)) (ha : PA X (e :: es) t)
    (hst : starEach (e :: es) X.env = (false, eval e X.env) :: starEach es X.env) (hpl : (backTo pos (starEach es X.env)).any (·.1) = false) (ht : MForm X o m p1 pos (e :: es)) :
    PE X (.Call (.Attribute o m p1) (e :: es) [] pos) (fun σ H Q => ta σ H fun x H1 => ∃ a dx fs, x = .ref a ∧ H1 a = some (.ins C dx fs) ∧ fs.lookup m = none ∧ t σ H1 fun vs H2 => sp (x :: vs) H2 Q (E σ)) := by
  refine ⟨fun pins s σ H Q I h => ?_⟩
  refine wp_meth ht.base ht.few ht.line fun pl => (thn (he.run pins s σ H _ I h) fun u s1 ⟨x, H1, I1, rx, a, dx, fs, ex, ea, l, q⟩ => ?_)
  subst ex
  obtain rfl : u = Value.ref a := rx
  refine getmeth_ok I1 ea c hm l ?_
  refine PySem.W.callWith_K (first := [.ref a]) (h₀ := X.base) I.ok.mod.kin hm.kp (thn (ha.run pos pins s1 σ H1 _ I1 q) fun us s2 ⟨vs, H2, I2, r, q2⟩ => ⟨I2.kIn, ?_⟩) hst hpl
  exact run_fnSD (E := E) (us := .ref a :: us) (vs := .ref a :: vs) (dvs := []) (ds := []) F hr hb .nil (hx σ) I2 (.cons rfl r) (by rw [List.append_nil]; exact q2)
theorem pe_methS0 (he : PE X o ta) (c : Cls X.K C) (hm : Meth X.K C m f) (F : FnOk X.prog X.w X.K X.mg X.base (L2N.CX X.prog X.w) k f fd ps sp) (hr : Room k X.A) (hb : Binds X.K fd ps []) (hx : ∀ σ, PassesAt (L2N.CX X.prog X.w) X σ (E σ)) (ht : MForm X o m p1 pos []) :
    PE X (.Call (.Attribute o m p1) [] [] pos) (fun σ H Q => ta σ H fun x H1 => ∃ a dx fs, x = .ref a ∧ H1 a = some (.ins C dx fs) ∧ fs.lookup m = none ∧ sp [x] H1 Q (E σ)) := by
  refine ⟨fun pins s σ H Q I h => ?_⟩
  refine wp_meth ht.base ht.few ht.line fun pl => (thn (he.run pins s σ H _ I h) fun u s1 ⟨x, H1, I1, rx, a, dx, fs, ex, ea, l, q⟩ => ?_)
  subst ex
  obtain rfl : u = Value.ref a := rx
  refine getmeth_ok I1 ea c hm l ?_
  exact PySem.W.callWith_K0 (first := [.ref a]) I1.kIn hm.kp (run_fnSD (E := E) (us := [.ref a]) (vs := [.ref a]) (dvs := []) (ds := []) F hr hb .nil (hx σ) I1 (.cons rfl .nil) q)
theorem e_meth {g : List R → M R} {cn : Str} (hx : xr.Ok) (c : Cls X.K (He.ga X.K cn)) (hm : Meth X.K (He.ga X.K cn) m f) (F : FnOk X.prog X.w X.K X.mg X.base (L2N.CX X.prog X.w) k f fd ps sp) (hs : SpOk X.K sp g) (hr : Room k X.A) (hb : Binds X.K fd ps []) (tk : L2N.Takes X W)
    (he : starEach (e :: es) X.env = (false, eval e X.env) :: starEach es X.env) (hpl : (backTo pos (starEach es X.env)).any (·.1) = false) (ht : MForm X a m p1 pos (e :: es)) (ha : EOk X xr W a ma) (hes : AOk X xr W (e :: es) ms) :
    EOk X xr W (.Call (.Attribute a m p1) (e :: es) [] pos) (fun ρ => M.bind (ma ρ) fun x => M.bind (recvR cn m x) fun _ => M.bind (ms ρ) fun xs => g (x :: xs)) := by
  obtain ⟨ta, pa, qa⟩ := ha
  obtain ⟨ts, pss, qs⟩ := hes
  refine ⟨_, pe_methS (E := WE W) pa c hm F hr hb (fun σ => L2N.passAt tk σ) pss he hpl ht, fun σ w S ρ Q er sr h => qa σ w S ρ _ er sr (h.bind fun w1 x u S1 e1 s1 rx h1 => ?_)⟩
  obtain ⟨⟨a', dx, fs, eu, ea, el⟩, h2⟩ := recv_next s1 rx h1
  refine ⟨a', dx, fs, eu, ea, el, qs σ w1 S1 ρ _ (er.ext hx e1) s1 (h2.bind fun w2 xs us S2 e2 s2 rs h3 => ?_)⟩
  exact hs w2 S2 (x :: xs) (u :: us) Q _ s2 ⟨u, us, rfl, rx.ext e2, rs⟩ h3
theorem e_meth0 {g : List R → M R} {cn : Str} (hx : xr.Ok) (c : Cls X.K (He.ga X.K cn)) (hm : Meth X.K (He.ga X.K cn) m f) (F : FnOk X.prog X.w X.K X.mg X.base (L2N.CX X.prog X.w) k f fd ps sp) (hs : SpOk X.K sp g) (hr : Room k X.A) (hb : Binds X.K fd ps []) (tk : L2N.Takes X W)
    (ht : MForm X a m p1 pos []) (ha : EOk X xr W a ma) :
    EOk X xr W (.Call (.Attribute a m p1) [] [] pos) (fun ρ => M.bind (ma ρ) fun x => M.bind (recvR cn m x) fun _ => M.bind (M.pure []) fun xs => g (x :: xs)) := by
  obtain ⟨ta, pa, qa⟩ := ha
  refine ⟨_, pe_methS0 (E := WE W) pa c hm F hr hb (fun σ => L2N.passAt tk σ) ht, fun σ w S ρ Q er sr h => qa σ w S ρ _ er sr (h.bind fun w1 x u S1 e1 s1 rx h1 => ?_)⟩
  obtain ⟨⟨a', dx, fs, eu, ea, el⟩, h2⟩ := recv_next s1 rx h1
  exact ⟨a', dx, fs, eu, ea, el, hs w1 S1 [x] [u] Q _ s1 ⟨u, [], rfl, rx, rfl⟩ h2⟩
end
/-! ### operators of own classes -/
section
variable {K : PySem.W.Frag} {prog : Program} {w : World} {A : Around} {s : Shared} {E : Value → Shared → Prop} {C f a b : Addr} {nm : String}
theorem fills_own {Q : Bool → Shared → Prop} (X : K.In s.heap) (hs : PySem.W.selfFirst K C = true) (hf : PySem.W.findIn K (.ref C) (dunder nm) = some (some (.ref f))) (q : Q true s) : wpAny (model prog w) A (fillsNumberSlot (.ref C) nm) Q E s := by
  unfold PySem.W.selfFirst at hs
  cases hc : PySem.W.clsIn K C with
  | none => rw [hc] at hs; cases hs
  | some cd =>
    rw [hc] at hs
    have hh : cd.mro.head? = some (.ref C) := by simpa using hs
    obtain ⟨r, hm⟩ : ∃ r, cd.mro = .ref C :: r := by
      cases e : cd.mro with
      | nil => rw [e] at hh; cases hh
      | cons x r => rw [e] at hh; cases hh; exact ⟨r, rfl⟩
    unfold fillsNumberSlot
    dsimp only
    refine wpAny_bind (wpAny_bind ((PySem.W.looks_clsIn X hc).here (wpAny_pure ?_)))
    rw [hm]
    unfold List.anyM
    refine wpAny_bind ?_
    dsimp only
    unfold List.anyM
    refine wpAny_bind (wpAny_bind ((PySem.W.looks_findIn X hf).here ?_))
    dsimp only
    rw [if_pos (show (!ownNameWrapper (Value.ref f) (dunder nm)) = true from rfl)]
    exact wpAny_pure (wpAny_pure (wpAny_pure q))
theorem try_own {Q : Option Value → Shared → Prop} {oa : Obj} {od : Option Obj} (X : K.In s.heap) (I : PySem.W.InstAt s.heap a oa C od) {n : Str} (hf : PySem.W.findIn K (.ref C) n = some (some (.ref f))) (hfn : PySem.W.isFn K (.ref f) = true)
    (hcall : wpAny (model prog w) A (call (.ref f) [.ref a, .ref b]) (fun v s' => v ≠ .notImplemented ∧ Q (some v) s') E s) : wpAny (model prog w) A (tryMethod (.ref a) n (.ref b)) Q E s := by
  unfold tryMethod callSpecial? specialOf
  refine wpAny_bind (wpAny_bind (wpAny_bind (I.type.here ((PySem.W.looks_findIn X hf).here ?_))))
  refine wpAny_holding ?_
  unfold bindSpecial
  refine wpAny_bind (wpAny_bind ((PySem.W.looks_typeIn X (beq_iff_eq.mp hfn)).here ?_))
  rw [if_pos (by decide)]
  refine wpAny_pure (wpAny_bind (wpAny_mono hcall (fun v s' h => wpAny_pure ?_) fun _ _ z => z))
  obtain ⟨h1, h2⟩ := h
  cases v <;> first | exact absurd rfl h1 | exact wpAny_pure h2
theorem binop_own {op : Operator} {Q : Value → Shared → Prop} {oa ob : Obj} {od od2 : Option Obj} (X : K.In s.heap) (hs : PySem.W.selfFirst K C = true) (I : PySem.W.InstAt s.heap a oa C od) (I2 : PySem.W.InstAt s.heap b ob C od2)
    (hf : PySem.W.findIn K (.ref C) (dunder op.info.2) = some (some (.ref f))) (hfn : PySem.W.isFn K (.ref f) = true)
    (hcall : wpAny (model prog w) A (call (.ref f) [.ref a, .ref b]) (fun v s' => v ≠ .notImplemented ∧ Q v s') E s) : wpAny (model prog w) A (binaryOp op (.ref a) (.ref b)) Q E s := by
  unfold binaryOp
  refine wpAny_holding ?_
  dsimp only
  unfold binaryOp1
  refine wpAny_bind (wpAny_bind (I.type.here (wpAny_bind (I2.type.here ?_))))
  refine wpAny_bind (fills_own X hs hf ?_)
  rw [if_pos (beq_self_eq_true _)]
  refine wpAny_bind (wpAny_pure ?_)
  dsimp only
  rw [if_neg (show ¬ (true && false) = true from Bool.false_ne_true)]
  rw [if_neg (show ¬ false = true from Bool.false_ne_true)]
  rw [if_neg (show ¬ (true && false && !false) = true from Bool.false_ne_true)]
  refine wpAny_bind (wpAny_pure ?_)
  rw [if_neg (show ¬ false = true from Bool.false_ne_true)]
  rw [if_pos (show true = true from rfl)]
  refine wpAny_bind (try_own X I hf hfn (wpAny_mono hcall (fun v s' h => ⟨h.1, ?_⟩) fun _ _ z => z))
  dsimp only
  exact wpAny_pure (wpAny_pure h.2)
end
section
variable {X : Cx} {xr : XR} {W : WX} {a b c e o : Expr} {es : List Expr} {ma mb mc : MP.Env → M R} {ms : MP.Env → M (List R)} {pos p p0 p1 p2 : Pos} {k : Nat} {f C : Addr} {fd : FuncData} {ps : List Str} {sp : Sp} {x m : Str}
variable {ta tb tc : TE} {t : TA} {E : St → XK} {dvs : List V} {ds : List Value}
/-- a value that the model never takes for NotImplemented -/
def Gv (v : V) : Prop := ∀ u, RelV v u → u ≠ .notImplemented
theorem Rel.gv {K : PySem.W.Frag} {w : Wd} {r : R} {v : V} (h : Rel K w r v) : Gv v := by
  intro u ru
  cases r with
  | exc c ns l => exact h.elim
  | own k =>
    obtain ⟨_, e⟩ := h
    subst e
    cases (show u = Value.ref _ from ru)
    exact fun z => nomatch z
  | dat d =>
    cases d with
    | non =>
      cases (show v = .non from h)
      cases (show u = Value.none from ru)
      exact fun z => nomatch z
    | bl b =>
      cases (show v = .bl b from h)
      cases (show u = Value.bool b from ru)
      exact fun z => nomatch z
    | int i =>
      cases (show v = .int i from h)
      obtain ⟨t, q⟩ := (show ∃ t, u = Value.int i t from ru)
      subst q
      exact fun z => nomatch z
    | str i =>
      cases (show v = .str i from h)
      obtain ⟨t, q⟩ := (show ∃ t, u = Value.str i t from ru)
      subst q
      exact fun z => nomatch z
    | tup l =>
      obtain ⟨a, vs, e, _⟩ := h
      subst e
      cases (show u = Value.ref _ from ru)
      exact fun z => nomatch z
    | lst l =>
      obtain ⟨a, vs, e, _⟩ := h
      subst e
      cases (show u = Value.ref _ from ru)
      exact fun z => nomatch z
    | slst l =>
      obtain ⟨a, vs, e, _⟩ := h
      subst e
      cases (show u = Value.ref _ from ru)
      exact fun z => nomatch z
    | obj c ns l =>
      obtain ⟨a, dx, fs, e, _⟩ := h
      subst e
      cases (show u = Value.ref _ from ru)
      exact fun z => nomatch z
theorem Hop.gv {K : PySem.W.Frag} {w : Wd} {E : XK} {Q : VK} {r : Res R} (h : Hop K (Rel K) E w Q r) : Hop K (Rel K) E w (fun v H => Gv v ∧ Q v H) r := by
  cases r with
  | ok a S => exact fun w' v x s rv => ⟨rv.gv, h w' v x s rv⟩
  | exc c ns l S => exact h
  | stuck => exact h
theorem pe_opm {op : Operator} (ha : PE X a ta) (hb : PE X b tb) (hs : PySem.W.selfFirst X.K C = true) (hm : Meth X.K C (dunder op.info.2) f) (F : FnOk X.prog X.w X.K X.mg X.base (L2N.CX X.prog X.w) k f fd ps sp) (hr : Room k X.A) (hbd : Binds X.K fd ps []) (hx : ∀ σ, PassesAt (L2N.CX X.prog X.w) X σ (E σ)) :
    PE X (.BinOp a op b pos) (fun σ H Q => ta σ H fun x H1 => tb σ H1 fun y H2 => ∃ a dx fs a2 dx2 fs2, x = .ref a ∧ y = .ref a2 ∧ H2 a = some (.ins C dx fs) ∧ H2 a2 = some (.ins C dx2 fs2) ∧ sp [x, y] H2 (fun v H => Gv v ∧ Q v H) (E σ)) := by
  refine ⟨fun pins s σ H Q I h => ?_⟩
  refine wpAny_BinOp (binT ha hb I h fun v u s2 x y H2 I2 rx ry ⟨a, dx, fs, a2, dx2, fs2, ex, ey, ea, ea2, q⟩ => ?_)
  subst ex ey
  obtain rfl : v = Value.ref a := rx
  obtain rfl : u = Value.ref a2 := ry
  obtain ⟨mA, O, _⟩ := ins_get I2.hok ea
  obtain ⟨od, J, _⟩ := O.look
  obtain ⟨mA2, O2, _⟩ := ins_get I2.hok ea2
  obtain ⟨od2, J2, _⟩ := O2.look
  refine binop_own I2.kIn hs J J2 hm.at_ hm.fn ?_
  refine wpAny_mono (run_fnSD (E := E) (us := [.ref a, .ref a2]) (vs := [.ref a, .ref a2]) (dvs := []) (ds := []) F hr hbd .nil (hx σ) I2 (.cons rfl (.cons rfl .nil)) q) (fun r s' h' => ?_) fun _ _ z => z
  obtain ⟨v, H', I', rv, g, q⟩ := h'
  exact ⟨g r rv, v, H', I', rv, q⟩
theorem meth_at {K : PySem.W.Frag} {w : Wd} {S : Store} {x : R} {u : V} {cn : Str} {CC : Calls} {fi : Nat} {rs : List R} {E : XK} {Q : VK} (s : SR K w S) (r : Rel K w x u) (h : Hop K (Rel K) E w Q (methR CC fi cn (x :: rs) S)) : (∃ a dx fs, u = .ref a ∧ w.H a = some (.ins (He.ga K cn) dx fs)) ∧ Hop K (Rel K) E w Q (CC.fn fi (x :: rs) S) := by
  unfold methR at h
  cases x with
  | exc c ns l => exact h.elim
  | dat d =>
    cases d with
    | obj c' ns l =>
      obtain ⟨a, dx, fs, e1, _, h1, h2, h3⟩ := r
      dsimp only at h
      by_cases z : c' = cn
      · rw [if_pos z] at h
        exact ⟨⟨a, dx, fs, e1, by rw [← z]; exact h1⟩, h⟩
      · rw [if_neg z] at h
        exact h.elim
    | _ => exact h.elim
  | own k =>
    obtain ⟨hk, e1⟩ := r
    obtain ⟨cc, hc, hr⟩ := s.get hk
    dsimp only at h
    rw [hc] at h
    cases cc with
    | obj c' ns rs =>
      obtain ⟨dx, fs, h1, h2, h3⟩ := hr
      dsimp only at h
      by_cases z : c' = cn
      · rw [if_pos z] at h
        exact ⟨⟨_, dx, fs, e1, by rw [← z]; exact h1⟩, h⟩
      · rw [if_neg z] at h
        exact h.elim
    | lst rs => exact h.elim
    | tup rs => exact h.elim
theorem obj_at {K : PySem.W.Frag} {w : Wd} {S : Store} {x : R} {u : V} {cn : Str} {α : Type} {m : M α} {β : Type} {rel : Wd → α → β → Prop} {E : XK} {Q : β → Hp → Prop} (s : SR K w S) (r : Rel K w x u) (h : Hop K rel E w Q (objR cn x m S)) : (∃ a dx fs, u = .ref a ∧ w.H a = some (.ins (He.ga K cn) dx fs)) ∧ Hop K rel E w Q (m S) := by
  unfold objR at h
  cases x with
  | exc c ns l => exact h.elim
  | dat d =>
    cases d with
    | obj c' ns l =>
      obtain ⟨a, dx, fs, e1, _, h1, h2, h3⟩ := r
      dsimp only at h
      by_cases z : c' = cn
      · rw [if_pos z] at h
        exact ⟨⟨a, dx, fs, e1, by rw [← z]; exact h1⟩, h⟩
      · rw [if_neg z] at h
        exact h.elim
    | _ => exact h.elim
  | own k =>
    obtain ⟨hk, e1⟩ := r
    obtain ⟨cc, hc, hr⟩ := s.get hk
    dsimp only at h
    rw [hc] at h
    cases cc with
    | obj c' ns rs =>
      obtain ⟨dx, fs, h1, h2, h3⟩ := hr
      dsimp only at h
      by_cases z : c' = cn
      · rw [if_pos z] at h
        exact ⟨⟨_, dx, fs, e1, by rw [← z]; exact h1⟩, h⟩
      · rw [if_neg z] at h
        exact h.elim
    | lst rs => exact h.elim
    | tup rs => exact h.elim
theorem e_opm {CC : Calls} {fi : Nat} {cn : Str} {op : Operator} (hx : xr.Ok) (hs : PySem.W.selfFirst X.K (He.ga X.K cn) = true) (hm : Meth X.K (He.ga X.K cn) (dunder op.info.2) f) (F : FnOk X.prog X.w X.K X.mg X.base (L2N.CX X.prog X.w) k f fd ps sp) (hsp : SpOk X.K sp (CC.fn fi)) (hr : Room k X.A) (hbd : Binds X.K fd ps []) (tk : L2N.Takes X W)
    (ha : EOk X xr W a ma) (hb : EOk X xr W b mb) : EOk X xr W (.BinOp a op b pos) (fun ρ => M.bind (ma ρ) fun x => M.bind (mb ρ) fun y => objR cn y (methR CC fi cn [x, y])) := by
  obtain ⟨ta, pa, qa⟩ := ha
  obtain ⟨tb, pb, qb⟩ := hb
  refine ⟨_, pe_opm (E := WE W) pa pb hs hm F hr hbd (fun σ => L2N.passAt tk σ), fun σ w S ρ Q er sr h => qa σ w S ρ _ er sr (h.bind fun w1 x u S1 e1 s1 rx h1 => qb σ w1 S1 ρ _ (er.ext hx e1) s1 (h1.bind fun w2 y v S2 e2 s2 ry h2 => ?_))⟩
  obtain ⟨⟨a2, dx2, fs2, ey, ea2⟩, h3⟩ := obj_at s2 ry h2
  obtain ⟨⟨a1, dx1, fs1, ex, ea1⟩, h4⟩ := meth_at s2 (rx.ext e2) h3
  exact ⟨a1, dx1, fs1, a2, dx2, fs2, ex, ey, ea1, ea2, hsp w2 S2 [x, y] [u, v] _ _ s2 ⟨u, [v], rfl, rx.ext e2, v, [], rfl, ry, rfl⟩ h4.gv⟩
/-! ### properties -/
theorem e_prop {CC : Calls} {fi : Nat} {cn n : Str} {pa' g : Addr} (hx : xr.Ok) (cl : Cls X.K (He.ga X.K cn)) (hp : PropOf X.K (He.ga X.K cn) n pa' g) (F : FnOk X.prog X.w X.K X.mg X.base (L2N.CX X.prog X.w) k g fd ps sp) (hsp : SpOk X.K sp (CC.fn fi)) (hr : Room (k + 1) X.A) (hbd : Binds X.K fd ps [])
    (hpass : Passes (L2N.CX X.prog X.w) X.nox (fun _ _ _ => False)) (hb : attributeBase a n X.env (eval a X.env) = eval a X.env) (ha : EOk X xr W a ma) : EOk X xr W (.Attribute a n pos) (fun ρ => M.bind (ma ρ) fun x => M.noX (methR CC fi cn [x])) := by
  obtain ⟨ta, pa, qa⟩ := ha
  refine ⟨_, pe_prop (E := fun _ _ _ => False) pa cl hp F hr hbd .nil hpass hb, fun σ w S ρ Q er sr h => qa σ w S ρ _ er sr (h.bind fun w1 x u S1 e1 s1 rx h1 => ?_)⟩
  have h2 : Hop X.K (Rel X.K) (fun _ _ _ => False) w1 Q (methR CC fi cn [x] S1) := by
    unfold M.noX at h1
    cases e : methR CC fi cn [x] S1 with
    | ok a S' => simp only [e] at h1; exact h1
    | exc c ns l S' => simp only [e] at h1; exact h1.elim
    | stuck => simp only [e] at h1; exact h1.elim
  obtain ⟨⟨a1, dx1, fs1, ex, ea1⟩, h4⟩ := meth_at s1 rx h2
  subst ex
  exact ⟨a1, dx1, fs1, rfl, ea1, hsp w1 S1 [x] [.ref a1] _ _ s1 ⟨.ref a1, [], rfl, rx, rfl⟩ h4⟩
/-! ### defaults -/
theorem rels_ints {K : PySem.W.Frag} {w : Wd} : ∀ ns : List Int, Rels K w (intsD ns) (ns.map V.int)
  | [] => rfl
  | i :: ns => ⟨.int i, ns.map V.int, rfl, rfl, rels_ints ns⟩
theorem e_callD {g : List R → M R} {ns : List Int} (hx : xr.Ok) (F : FnOk X.prog X.w X.K X.mg X.base (L2N.CX X.prog X.w) k f fd ps sp) (hs : SpOk X.K sp g) (hr : Room k X.A) (hg : Gl X x) (hm : X.mg x = some (.ref f)) (hk : PySem.W.keepIn X.K (.ref f) = true) (hb : ∃ dv, Vals (ns.map V.int) dv ∧ Binds X.K fd ps dv)
    (tk : L2N.Takes X W) (hdb : (x == ("__debug__" : Str)) = false) (he : starEach (a :: es) X.env = (false, eval a X.env) :: starEach es X.env) (hpl : (backTo pos (starEach es X.env)).any (·.1) = false) (ha : EOk X xr W a ma) (hes : AOk X xr W es ms) :
    EOk X xr W (.Call (.Name x p0) (a :: es) [] pos) (fun ρ => M.bind (ma ρ) fun x => M.bind (ms ρ) fun xs => g (x :: xs ++ intsD ns)) := by
  obtain ⟨ta, pa, qa⟩ := ha
  obtain ⟨ts, pss, qs⟩ := hes
  obtain ⟨dv, hd, hb⟩ := hb
  refine ⟨_, pe_callSD (E := WE W) F hr hg hm hk hb hd (fun σ => L2N.passAt tk σ) (pa_cons pa pss he) hdb he hpl, fun σ w S ρ Q er sr h => qa σ w S ρ _ er sr (h.bind fun w1 x u S1 e1 s1 rx h1 => qs σ w1 S1 ρ _ (er.ext hx e1) s1 (h1.bind fun w2 xs us S2 e2 s2 rs h2 => ?_))⟩
  exact hs w2 S2 (x :: xs ++ intsD ns) (u :: us ++ ns.map V.int) Q _ s2 (Rels.append (show Rels X.K w2 (x :: xs) (u :: us) from ⟨u, us, rfl, rx.ext e2, rs⟩) (rels_ints ns)) h2
theorem e_makeD {CC : Calls} {m : Bool} {fi : Nat} {cn : Str} {ns : List Int} (hx : xr.Ok) (Mk' : Mk X.K (He.ga X.K cn) f) (F : FnOk X.prog X.w X.K X.mg X.base (L2N.CX X.prog X.w) k f fd ps sp) (hs : SpOk X.K sp (CC.fn fi)) (hr : Room (k + 1) X.A) (hg : Gl X x) (hm : X.mg x = some (.ref (He.ga X.K cn)))
    (hb : ∃ dv, Vals (ns.map V.int) dv ∧ Binds X.K fd ps dv)
    (tk : L2N.Takes X W) (hdb : (x == ("__debug__" : Str)) = false) (he : starEach (a :: es) X.env = (false, eval a X.env) :: starEach es X.env) (hpl : (backTo pos (starEach es X.env)).any (·.1) = false) (ha : EOk X xr W a ma) (hes : AOk X xr W es ms) :
    EOk X xr W (.Call (.Name x p0) (a :: es) [] pos) (fun ρ => M.bind (ma ρ) fun x => M.bind (ms ρ) fun xs => makeR CC m fi cn (x :: xs ++ intsD ns)) := by
  obtain ⟨ta, pa, qa⟩ := ha
  obtain ⟨ts, pss, qs⟩ := hes
  obtain ⟨dv, hd, hb⟩ := hb
  have pas := pa_cons pa pss he
  refine ⟨fun σ H Q => tCons ta ts σ H fun vs H1 => ∀ x dx, H1 x = none → H1 dx = none → dx ≠ x → sp (.ref x :: (vs ++ ns.map V.int)) (upd (upd H1 dx (.own x)) x (.ins (He.ga X.K cn) dx [])) (fun v H2 => v = .non ∧ Q (.ref x) H2) (WE W σ), ⟨fun pins s σ H Q I h => ?_⟩, fun σ w S ρ Q er sr h => ?_⟩
  · refine wpAny_Call_Name_kw (ld_glob I hg hm ?_ hdb)
    refine PySem.W.callWith_K (h₀ := X.base) I.ok.mod.kin Mk'.kp (thn (pas.run pos pins s σ H _ I h) fun us s1 ⟨vs, H1, I1, r, q⟩ => ⟨I1.kIn, ?_⟩) he hpl
    have hq := q (s1.heap.objs.size + 1) s1.heap.objs.size (I1.hok.fresh (Nat.le_succ _)) (I1.hok.fresh (Nat.le_refl _)) (Nat.ne_of_lt (Nat.lt_succ_self _))
    have I2 := Inv.made (C := He.ga X.K cn) I1
    have r2 : Vals (V.ref (s1.heap.objs.size + 1) :: (vs ++ ns.map V.int)) (Value.ref (s1.heap.objs.size + 1) :: (us ++ dv)) := .cons rfl (r.append hd)
    have hl : (Value.ref (s1.heap.objs.size + 1) :: us ++ dv).length = ps.length := by rw [List.cons_append, ← r2.length]; exact F.len _ _ _ _ hq
    have b := hb _ (Value.ref (s1.heap.objs.size + 1) :: us) I2.kIn hl
    refine wpAny_call (make_map (f := f) I1.kIn Mk'.makes Mk'.init (beq_iff_eq.mp Mk'.fn) (codeAny_mono (F.run _ X.stack _ _ ⟨Value.ref (s1.heap.objs.size + 1) :: us, []⟩ _ _ _ (WE W σ) (hr.make (He.ga X.K cn) us []) (I2.env0.make (He.ga X.K cn) us []) b r2 hq) fun z s' hq' => ?_))
    match z, hq' with
    | .error e, hq' => exact L2N.passAt tk σ pins _ _ e s' I2 hq'
    | .ok (.ret u), hq' =>
      obtain ⟨v, H', I3, rv, ev, q3⟩ := I2.after hq'
      subst ev
      exact ⟨rv, ⟨V.ref (s1.heap.objs.size + 1), H', I3, rfl, q3⟩⟩
    | .ok .next, hq' => exact False.elim hq'
    | .ok .brk, hq' => exact False.elim hq'
    | .ok .cont, hq' => exact False.elim hq'
  · refine qa σ w S ρ _ er sr (h.bind fun w1 x u S1 e1 s1 rx h1 => qs σ w1 S1 ρ _ (er.ext hx e1) s1 (h1.bind fun w2 xs us S2 e2 s2 rs h2 => ?_))
    exact make_ok hs w2 S2 (x :: xs ++ intsD ns) (u :: us ++ ns.map V.int) Q _ s2 (Rels.append (show Rels X.K w2 (x :: xs) (u :: us) from ⟨u, us, rfl, rx.ext e2, rs⟩) (rels_ints ns)) h2
/-! ### chains, in -/
theorem e_chain {op op' : CmpOp} {r r' : R2} {f g : R → R → M R} (hx : xr.Ok) (ho : OpR X (compareOp op) r) (ho' : OpR X (compareOp op') r') (hm : lastMarks [op, op'] [b, c] = false)
    (hr : ∀ w S x y u v E Q, SR X.K w S → Rel X.K w x u → Rel X.K w y v → Hop X.K (Rel X.K) E w Q (f x y S) → r u v w.H Q) (hr' : ∀ w S x y u v E Q, SR X.K w S → Rel X.K w x u → Rel X.K w y v → Hop X.K (Rel X.K) E w Q (g x y S) → r' u v w.H Q)
    (ha : EOk X xr W a ma) (hb : EOk X xr W b mb) (hc : EOk X xr W c mc) :
    EOk X xr W (.Compare a [op, op'] [b, c] pos) (fun ρ => M.bind (ma ρ) fun x => M.bind (mb ρ) fun y => M.bind (M.bind (f x y) truB) fun t => if t = true then M.bind (mc ρ) fun z => g y z else M.pure (.dat (.bl false))) ∧
    TOk X xr W (.Compare a [op, op'] [b, c] pos) (fun ρ => M.bind (M.bind (ma ρ) fun x => M.bind (mb ρ) fun y => M.bind (M.bind (f x y) truB) fun t => if t = true then M.bind (mc ρ) fun z => g y z else M.pure (.dat (.bl false))) truB) := by
  obtain ⟨ta, pa, qa⟩ := ha
  obtain ⟨tb, pb, qb⟩ := hb
  obtain ⟨tc, pc, qc⟩ := hc
  have key : ∀ σ w S ρ (Q : VK), EnvR X.K xr w σ ρ → SR X.K w S → Hop X.K (Rel X.K) (WE W σ) w Q (M.bind (ma ρ) (fun x => M.bind (mb ρ) fun y => M.bind (M.bind (f x y) truB) fun t => if t = true then M.bind (mc ρ) fun z => g y z else M.pure (.dat (.bl false))) S) → tChain r r' ta tb tc σ w.H Q := by
    intro σ w S ρ Q er sr h
    refine qa σ w S ρ _ er sr (h.bind fun w1 x u S1 e1 s1 rx h1 => qb σ w1 S1 ρ _ (er.ext hx e1) s1 (h1.bind fun w2 y v S2 e2 s2 ry h2 => ?_))
    have er2 := (er.ext hx e1).ext hx e2
    have q2 := h2.bind (r1 := fun (_ : Wd) (b : Bool) (v : Bool) => b = v) (Q1 := fun (b : Bool) H => if b = true then tc σ H fun w' H4 => r' v w' H4 Q else Q (.bl false) H) fun w3 t t' S3 e3 s3 et h3 => by
      have et : t = t' := et
      subst et
      cases t with
      | true =>
        rw [if_pos rfl]
        exact qc σ w3 S3 ρ _ (er2.ext hx e3) s3 (h3.bind fun w4 z zv S4 e4 s4 rz h4 => hr' w4 S4 y z v zv (WE W σ) Q s4 ((ry.ext e3).ext e4) rz h4)
      | false =>
        rw [if_neg Bool.false_ne_true]
        exact h3 w3 (.bl false) (Ext.refl _) s3 rfl
    exact hr w2 S2 x y u v (WE W σ) _ s2 (rx.ext e2) ry (hop_truB q2 fun b w' q => ⟨b, rfl, q⟩)
  refine ⟨⟨_, pe_chain ho ho' pa pb pc hm, key⟩, ⟨_, pt_chain ho ho' pa pb pc hm, fun σ w S ρ Q er sr h => key σ w S ρ _ er sr (hop_truB h fun b w' q => ⟨b, rfl, q⟩)⟩⟩
theorem flat_ok {K : PySem.W.Frag} {w : Wd} {d : D} {u : V} (h : flatD d = true) (r : Rep K w d u) : flatV u = true := by
  cases d with
  | non => cases (show u = .non from r); rfl
  | bl b => cases (show u = .bl b from r); rfl
  | int b => cases (show u = .int b from r); rfl
  | str b => cases (show u = .str b from r); rfl
  | _ => cases h
theorem eqF_ok {K : PySem.W.Frag} {w : Wd} {d y : D} {u v : V} {c : Bool} (e : eqF d y = some c) (hu : Rep K w d u) (hv : Rep K w y v) : flatV v = true ∧ eqV v u = c := by
  cases d with
  | int i =>
    cases y with
    | int j =>
      cases e
      cases (show u = .int i from hu)
      cases (show v = .int j from hv)
      refine ⟨rfl, ?_⟩
      show (j == i) = decide (i = j)
      exact Bool.eq_iff_iff.mpr ⟨fun h => decide_eq_true (eq_of_beq h).symm, fun h => beq_iff_eq.mpr (of_decide_eq_true h).symm⟩
    | _ => cases e
  | str i =>
    cases y with
    | str j =>
      cases e
      cases (show u = .str i from hu)
      cases (show v = .str j from hv)
      refine ⟨rfl, ?_⟩
      show (j == i) = decide (i = j)
      exact Bool.eq_iff_iff.mpr ⟨fun h => decide_eq_true (eq_of_beq h).symm, fun h => beq_iff_eq.mpr (of_decide_eq_true h).symm⟩
    | _ => cases e
  | _ => cases e
theorem inF_ok {K : PySem.W.Frag} {w : Wd} {d : D} {u : V} (hu : Rep K w d u) : ∀ {rs : List R} {vs : List V} {b : Bool}, inF d rs = some b → Rels K w rs vs → vs.all flatV = true ∧ inV u vs = b
  | [], vs, b, h, e => by
    cases h
    have e : vs = [] := e
    subst e
    exact ⟨rfl, rfl⟩
  | r :: rs, vs, b, h, ⟨v, vr, ev, h1, h2⟩ => by
    subst ev
    cases r with
    | own k => cases h
    | exc c ns l => cases h
    | dat y =>
      unfold inF at h
      cases e1 : eqF d y with
      | none => simp only [e1] at h; cases h
      | some c =>
        cases e2 : inF d rs with
        | none => simp only [e1, e2] at h; cases h
        | some c2 =>
          simp only [e1, e2] at h
          cases h
          obtain ⟨g2, g3⟩ := eqF_ok e1 hu h1
          obtain ⟨k2, k3⟩ := inF_ok hu e2 h2
          refine ⟨by rw [List.all_cons, g2, k2]; rfl, ?_⟩
          unfold inV at k3 ⊢
          rw [List.any_cons, g3, k3]
theorem items_seq {K : PySem.W.Frag} {w : Wd} {S : Store} {y : R} {v : V} {rs : List R} (s : SR K w S) (r : Rel K w y v) (e : itemsR S y = some rs) : ∃ p vs, v = .ref p ∧ (SqL K w.H p vs ∨ SqT K w.H p vs) ∧ Rels K w rs vs := by
  obtain ⟨a, vs, e1, q, hz, h2⟩ := items_sq s r e
  exact ⟨a, vs, e1, q, h2⟩
theorem inR_ok {K : PySem.W.Frag} (n : Bool) : ∀ w S x y u v E Q, SR K w S → Rel K w x u → Rel K w y v → Hop K (Rel K) E w Q (inR n x y S) → rIn K n u v w.H Q := by
  intro w S x y u v E Q s rx ry h
  unfold inR at h
  cases x with
  | own k => exact h.elim
  | exc c ns l => exact h.elim
  | dat d =>
    cases e : itemsR S y with
    | none => simp only [e] at h; exact h.elim
    | some rs =>
      simp only [e] at h
      by_cases hf : flatD d = true
      · rw [if_pos hf] at h
        cases e2 : inF d rs with
        | none => simp only [e2] at h; exact h.elim
        | some b =>
          simp only [e2] at h
          obtain ⟨p, vs, e3, hq, hr⟩ := items_seq s ry e
          obtain ⟨k2, k3⟩ := inF_ok rx e2 hr
          refine ⟨p, vs, e3, hq, flat_ok hf rx, k2, ?_⟩
          rw [k3]
          exact hop_ok h s rfl
      · rw [if_neg hf] at h
        exact h.elim
end
/-! ### isinstance of own classes -/
structure InsB (K : PySem.W.Frag) (C : Addr) : Prop where
  cl : Cls K C
  ha : PySem.W.findIn K (.ref C) "__class__" = some (some (.builtin "object.__class__"))
  hn : PySem.W.specialIn K (.builtin "object.__class__") "__get__" = some (some (.builtin "getset_descriptor.__get__"))
  htk : PySem.W.takesIn K (.builtin "object.__class__") = some true
  hm : PySem.W.mroIn K C (.type "object") = some true
/-- what is known of isinstance(x, c) where x is of the type n -/
structure InsT (K : PySem.W.Frag) (n c : Str) (b : Bool) : Prop where
  ty : ∀ t : BTy, n = t.x → PySem.W.kitOne K (.type t.nm) (.ref (He.ga K c)) = some b
  non : n = "NoneType" → PySem.W.kitOne K (.type "NoneType") (.ref (He.ga K c)) = some b
  own : n ∉ bNames → InsB K (He.ga K n) ∧ PySem.W.kitOne K (.ref (He.ga K n)) (.ref (He.ga K c)) = some b
theorem tyN_at {K : PySem.W.Frag} {w : Wd} {S : Store} {x : R} {u : V} {n c : Str} {b : Bool} (s : SR K w S) (r : Rel K w x u) (e : tyN S x = some n) (T : InsT K n c b) : ∃ t, TyX K w.H u t ∧ PySem.W.kitOne K t (.ref (He.ga K c)) = some b := by
  have viaT : ∀ y : R, y = x → (tyR S y).map BTy.x = some n → ∃ t, TyX K w.H u t ∧ PySem.W.kitOne K t (.ref (He.ga K c)) = some b := by
    intro y ey h
    subst ey
    obtain ⟨t, e1, e2⟩ := Option.map_eq_some_iff.mp h
    exact ⟨_, ty_at s r e1, T.ty t e2.symm⟩
  have viaO : ∀ c' a dx fs, (if c' ∈ bNames then none else some c') = some n → u = .ref a → w.H a = some (.ins (He.ga K c') dx fs) → ∃ t, TyX K w.H u t ∧ PySem.W.kitOne K t (.ref (He.ga K c)) = some b := by
    intro c' a dx fs h eu ea
    by_cases z : c' ∈ bNames
    · rw [if_pos z] at h
      cases h
    · rw [if_neg z] at h
      cases h
      obtain ⟨I, k⟩ := T.own z
      subst eu
      exact ⟨_, .base (.ins ea I.cl I.ha I.hn I.htk I.hm), k⟩
  cases x with
  | exc c ns l => cases e
  | own k =>
    unfold tyN at e
    cases ek : S[k]? with
    | none => simp only [ek] at e; exact viaT (.own k) rfl e
    | some cc =>
      cases cc with
      | obj c' ns rs =>
        simp only [ek] at e
        obtain ⟨hk, e1⟩ := r
        obtain ⟨c2, hc, hr⟩ := s.get hk
        rw [ek] at hc
        cases hc
        obtain ⟨dx, fs, h1, h2, h3⟩ := hr
        exact viaO c' _ dx fs e e1 h1
      | lst rs => simp only [ek] at e; exact viaT (.own k) rfl e
      | tup rs => simp only [ek] at e; exact viaT (.own k) rfl e
  | dat d =>
    cases d with
    | obj c' ns l =>
      obtain ⟨a, dx, fs, e1, _, h1, h2, h3⟩ := r
      exact viaO c' a dx fs e e1 h1
    | non =>
      cases e
      cases (show u = .non from r)
      exact ⟨_, .base .non, T.non rfl⟩
    | bl b => exact viaT _ rfl e
    | int b => exact viaT _ rfl e
    | str b => exact viaT _ rfl e
    | tup b => exact viaT _ rfl e
    | lst b => exact viaT _ rfl e
    | slst b => exact viaT _ rfl e
section
variable {X : Cx} {xr : XR} {W : WX} {a : Expr} {ma : MP.Env → M R} {pos p0 p1 : Pos}
theorem e_isC {CC : Calls} (c : Str) (hg : Gl X "isinstance") (hm : X.mg "isinstance" = none) (hgC : Gl X c) (hmC : X.mg c = some (.ref (He.ga X.K c))) (hdb : (c == ("__debug__" : Str)) = false) (hI : ∀ n b, CC.ins n c = some b → InsT X.K n c b)
    (he : starEach [a, .Name c p1] X.env = (false, eval a X.env) :: starEach [.Name c p1] X.env) (he2 : starEach [.Name c p1] X.env = (false, eval (.Name c p1) X.env) :: starEach [] X.env)
    (hpl : (backTo pos (starEach [.Name c p1] X.env)).any (·.1) = false) (ha : EOk X xr W a ma) : EOk X xr W (.Call (.Name "isinstance" p0) [a, .Name c p1] [] pos) (fun ρ => M.bind (ma ρ) fun x => isCR CC x c) := by
  obtain ⟨ta, pa, qa⟩ := ha
  have pC : PE X (.Name c p1) (tC (.ref (He.ga X.K c))) := pe_glob hgC hmC rfl hdb
  refine ⟨_, pe_callB call_isi hg hm (by first | rfl | decide +kernel) (pa_cons pa (pa_cons pC pa_nil he2) he) (by decide) (by decide) he hpl, fun σ w S ρ Q er sr h => qa σ w S ρ _ er sr (h.bind fun w1 x u S1 e1 s1 rx h1 => ?_)⟩
  unfold isCR at h1
  cases e : tyN S1 x with
  | none => simp only [e] at h1; exact h1.elim
  | some n =>
    simp only [e] at h1
    cases e2 : CC.ins n c with
    | none => simp only [e2] at h1; exact h1.elim
    | some b =>
      simp only [e2] at h1
      obtain ⟨t, ty, k⟩ := tyN_at s1 rx e (hI n b e2)
      exact ⟨u, .ref (He.ga X.K c), t, _, b, rfl, .own _, ty, k, hop_ok h1 s1 rfl⟩
end
end MP
set_option Elab.async false
set_option linter.all false
set_option maxRecDepth 100000
set_option maxHeartbeats 4000000
/-! MPSide: what holds of the code's form. -/
namespace MP
open PySem PySem.Spec PyProof.Rows L2
theorem star_e (e : IE) (r : List Expr) (env : PySem.Env) : starEach (e.e :: r) env = (false, eval e.e env) :: starEach r env := by
  cases e <;> rfl
theorem star_nil (env : PySem.Env) : starEach [] env = [] := rfl
theorem plain_es (pos : Pos) (env : PySem.Env) : ∀ es : IEs, (backTo pos (starEach es.es env)).any (·.1) = false
  | .nil => rfl
  | .cons e r => by
    show (backTo pos (starEach (e.e :: r.es) env)).any (·.1) = false
    rw [star_e]
    show (false || (backTo pos (starEach r.es env)).any (·.1)) = false
    rw [plain_es pos env r]
    rfl
theorem allp_es (pos : Pos) (env : PySem.Env) : ∀ es : IEs, (backTo pos (starEach es.es env)).all (fun x => !x.1) = true
  | .nil => rfl
  | .cons e r => by
    show (backTo pos (starEach (e.e :: r.es) env)).all (fun x => !x.1) = true
    rw [star_e]
    show (true && (backTo pos (starEach r.es env)).all (fun x => !x.1)) = true
    rw [allp_es pos env r]
    rfl
def IEs.len : IEs → Nat
  | .nil => 0
  | .cons _ r => r.len + 1
def IKs.nms : IKs → List Str
  | .nil => []
  | .cons n _ _ r => n :: r.nms
theorem len_es : ∀ es : IEs, es.es.length = es.len
  | .nil => rfl
  | .cons e r => by
    show r.es.length + 1 = _
    rw [len_es r]
    rfl
theorem kw_all (pos : Pos) (env : PySem.Env) : ∀ ks : IKs, (backToKw pos (keywordEach ks.ks env)).all (·.1.isSome) = true ∧ (backToKw pos (keywordEach ks.ks env)).filterMap (·.1) = ks.nms ∧ (backToKw pos (keywordEach ks.ks env)).any (·.1.isNone) = false
  | .nil => ⟨rfl, rfl, rfl⟩
  | .cons n e p r => by
    obtain ⟨h1, h2, h3⟩ := kw_all pos env r
    refine ⟨?_, ?_, ?_⟩
    · show (true && (backToKw pos (keywordEach r.ks env)).all (·.1.isSome)) = true
      rw [h1]
      rfl
    · show n :: (backToKw pos (keywordEach r.ks env)).filterMap (·.1) = _
      rw [h2]
      rfl
    · show (false || (backToKw pos (keywordEach r.ks env)).any (·.1.isNone)) = false
      rw [h3]
      rfl
theorem behind_ok (op : Cop) (e : IE) : behindInMarks op.o e.e = false := by
  cases e <;> rfl
theorem last_ok (op op2 : Cop) (e e2 : IE) : lastMarks [op.o, op2.o] [e.e, e2.e] = false := behind_ok op2 e2
/-- an attribute's base -/
def plainB : IE → Bool
  | .callKK _ _ _ _ _ _ => false
  | _ => true
theorem base_ok (e : IE) (f : Str) (env : PySem.Env) (h : plainB e = true) : attributeBase e.e f env (eval e.e env) = eval e.e env := by
  cases e with
  | callKK => cases h
  | _ => rfl
theorem folded_ok (it : II) (env : PySem.Env) (x : Value) : foldedSetIterable it.e env x = pure x := by
  cases it with
  | of e => cases e <;> rfl
  | _ => rfl
def plainI : IE → Bool
  | .tup _ _ _ => false
  | _ => true
theorem plainIx (e : IE) (h : plainI e = true) : PlainIx e.e := by
  cases e with
  | tup => cases h
  | _ => intro o i; rfl
/-- a test that is an expression's value -/
def tstV : IE → Bool
  | .cmp _ _ _ _ => false
  | .isN _ _ _ _ _ => false
  | .not _ _ => false
  | .and _ _ _ => false
  | .or _ _ _ => false
  | .ifx _ _ _ _ => false
  | .chain _ _ _ _ _ _ => false
  | .inn _ _ _ _ => false
  | _ => true
theorem tst_ok (e : IE) (env : PySem.Env) (h : tstV e = true) : ∀ whole, isTrue e.e env whole = (do let v ← whole; standAt e.e.pos; holding [v] (truthy v)) := by
  cases e <;> first | (cases h; done) | (intro w; rfl)
def noLc : IE → Bool
  | .lc _ _ _ _ _ _ _ _ => false
  | .lc2 _ _ _ _ _ _ _ _ _ _ _ _ => false
  | _ => true
theorem swap_ok (e : IE) (t : Option Expr) (line : Nat) (env : PySem.Env) (h : noLc e = true) : swapsWith e.e t line env = pure false := by
  cases e <;> first | (cases h; done) | rfl
theorem ev_len (C : Calls) : ∀ (es : IEs) (ρ : MP.Env) (S : Store) (rs : List R) (S' : Store), evEs C es ρ S = .ok rs S' → rs.length = es.len
  | .nil, ρ, S, rs, S', h => by
    cases (show Res.ok [] S = Res.ok rs S' from h)
    rfl
  | .cons e r, ρ, S, rs, S', h => by
    obtain ⟨x, S1, _, h2⟩ := bind_ok (show M.bind _ _ S = _ from h)
    obtain ⟨xs, S2, h3, h4⟩ := bind_ok h2
    cases (show Res.ok (x :: xs) S2 = Res.ok rs S' from h4)
    show xs.length + 1 = r.len + 1
    rw [ev_len C r ρ S1 xs S' h3]
theorem ek_len (C : Calls) : ∀ (ks : IKs) (ρ : MP.Env) (S : Store) (rs : List R) (S' : Store), evKs C ks ρ S = .ok rs S' → rs.length = ks.nms.length
  | .nil, ρ, S, rs, S', h => by
    cases (show Res.ok [] S = Res.ok rs S' from h)
    rfl
  | .cons n e p r, ρ, S, rs, S', h => by
    obtain ⟨x, S1, _, h2⟩ := bind_ok (show M.bind _ _ S = _ from h)
    obtain ⟨xs, S2, h3, h4⟩ := bind_ok h2
    cases (show Res.ok (x :: xs) S2 = Res.ok rs S' from h4)
    show xs.length + 1 = r.nms.length + 1
    rw [ek_len C r ρ S1 xs S' h3]
/-! ### the static tables -/
structure SC where
  N : List Str
  sc : Scope
  calm : Bool
structure ST where
  T : Tab
  tops : List (Nat × Str)
  hots : List (Nat × Str)
  cls : List (Str × Nat)
  attrs : List (Str × Str)
  xcs : List (Str × List (Str × Bool))
  blt : List Str
  gis : List (Str × Int)
  exn : List Str
  kws : List (Nat × Nat × List Str × List Nat)
  math : List (Str × String)
  mets : List (Str × Str × Nat)
  ops : List Str
  props : List (Str × Str × Nat)
  dfs : List (Nat × List Int)
def okV (Γ : SC) (i : Nat) (x : Str) : Bool := decide (Γ.N[i]? = some x) && (match Γ.sc.names.lookup x with | some .local => true | some .cell => true | some .free => true | _ => false) && !(x == ("__debug__" : Str)) && !(x == ("__classdict__" : Str))
def okG (Γ : SC) (x : Str) : Bool := decide (Γ.sc.names.lookup x = some .globalImplicit)
def okN (Γ : SC) (i : Nat) (x : Str) : Bool := decide (Γ.N[i]? = some x) && (match Γ.sc.names.lookup x with | some .local => true | some .cell => true | _ => false)
def okT (Γ : SC) : IT → Bool
  | .one i x _ => okN Γ i x
  | .many l _ _ => Γ.calm && l.all fun q => okN Γ q.1 q.2.1
def IT.many? : IT → Bool
  | .one _ _ _ => false
  | .many _ _ _ => true
def Cop.isEq : Cop → Bool
  | .eq => true
  | .ne => true
  | _ => false
def Bf.calm : Bf → Bool
  | .max => true
  | .min => true
  | .sum => true
  | .all => true
  | .tuple => true
  | .list => true
  | _ => false
/-- an operator's method -/
def Bop.dn : Bop → Str
  | .add => "__add__" | .sub => "__sub__" | .mul => "__mul__" | .fdiv => "__floordiv__" | .mod => "__mod__" | .pow => "__pow__"
theorem dn_ok (op : Bop) : dunder op.o.info.2 = op.dn := by
  cases op <;> decide +kernel
theorem meth_look (X : Cx) (o : IE) (n : Str) (p1 p : Pos) (es : IEs) (h : plainB o = true) (hl : es.len < 20) (hp : (p1.endLine == p.line) = true) : MForm X o.e n p1 p es.es where
  base := base_ok o n _ h
  few := by
    have q1 := allp_es p X.env es
    have q2 : es.es.length = es.len := len_es es
    rw [Bool.and_eq_true, Bool.and_eq_true]
    refine ⟨⟨q1, rfl⟩, decide_eq_true ?_⟩
    rw [q2]
    show es.len + 0 + 0 < 30
    omega
  line := hp
mutual
def okE (s : ST) (Γ : SC) : IE → Bool
  | .var i x _ => okV Γ i x
  | .int _ _ _ => true
  | .bl _ _ _ => true
  | .non _ _ => true
  | .str _ _ _ => true
  | .gint i x _ => okG Γ x && decide ((x, i) ∈ s.gis) && !(x == ("__debug__" : Str))
  | .bin _ _ a b _ => okE s Γ a && okE s Γ b
  | .neg a _ => okE s Γ a
  | .cmp _ a b _ => okE s Γ a && okE s Γ b
  | .isN _ a _ _ _ => okE s Γ a
  | .not a _ => okE s Γ a && okTst a
  | .and a r _ => okE s Γ a && okTst a && okEs s Γ r && okTsts r
  | .or a r _ => okE s Γ a && okTst a && okEs s Γ r && okTsts r
  | .ifx c a b _ => okE s Γ c && okTst c && okE s Γ a && okE s Γ b
  | .lst _ es _ => okEs s Γ es && decide (es.len ≤ 1000)
  | .tup es _ _ => okEs s Γ es && decide (es.len ≤ 1000)
  | .ix a i _ => okE s Γ a && okE s Γ i && plainI i
  | .sl _ a lo hi _ _ => okE s Γ a && okEs s Γ lo && decide (lo.len ≤ 1) && okEs s Γ hi && decide (hi.len ≤ 1)
  | .attr a c f _ => okE s Γ a && decide ((c, f) ∈ s.attrs) && plainB a
  | .call f x a es _ _ => okG Γ x && (if Γ.calm then decide ((f, x) ∈ s.tops) else decide ((f, x) ∈ s.hots)) && okE s Γ a && okEs s Γ es
  | .callK f x a es kw pm _ _ => Γ.calm && okG Γ x && decide ((f, x) ∈ s.tops) && decide ((f, es.len + 1, kw.nms, pm) ∈ s.kws) && okE s Γ a && okEs s Γ es && okKs s Γ kw
  | .callKK f x kw pm _ _ => Γ.calm && okG Γ x && decide ((f, x) ∈ s.tops) && decide ((f, 0, kw.nms, pm) ∈ s.kws) && okKs s Γ kw
  | .bi _ f a es _ _ => (Γ.calm || !f.calm) && okG Γ f.x && decide (f.x ∈ s.blt) && okE s Γ a && okEs s Γ es
  | .gcd l a b _ _ => okG Γ (if l then "lcm" else "gcd") && decide (((if l then "lcm" else "gcd" : Str), (if l then "math.lcm" else "math.gcd")) ∈ s.math) && okE s Γ a && okE s Γ b
  | .make _ f c a es _ _ => Γ.calm && okG Γ c && decide ((c, f) ∈ s.cls) && okE s Γ a && okEs s Γ es
  | .meth f c o n es p1 p => Γ.calm && decide ((c, n, f) ∈ s.mets) && plainB o && decide (es.len < 20) && (p1.endLine == p.line) && okE s Γ o && okEs s Γ es
  | .callD f x a es ds _ _ => Γ.calm && okG Γ x && decide ((f, x) ∈ s.tops) && decide ((f, ds) ∈ s.dfs) && okE s Γ a && okEs s Γ es
  | .makeD _ f c a es ds _ _ => Γ.calm && okG Γ c && decide ((c, f) ∈ s.cls) && decide ((f, ds) ∈ s.dfs) && okE s Γ a && okEs s Γ es
  | .opm f c op a b _ => Γ.calm && decide ((c, op.dn, f) ∈ s.mets) && decide (c ∈ s.ops) && okE s Γ a && okE s Γ b
  | .prop f c o n _ => Γ.calm && decide ((c, n, f) ∈ s.props) && plainB o && okE s Γ o
  | .chain _ _ a b c _ => okE s Γ a && okE s Γ b && okE s Γ c
  | .inn _ a b _ => okE s Γ a && okE s Γ b
  | .lmeth o n es p1 p => okE s Γ o && okEs s Γ es && plainB o && decide (es.len < 20) && (p1.endLine == p.line) && (match n, es with
    | .append, .nil => false
    | _, _ => true)
  | .isT a T _ _ _ => okG Γ "isinstance" && decide (("isinstance" : Str) ∈ s.blt) && okG Γ T.x && decide (T.x ∈ s.blt) && okE s Γ a
  | .isC a c _ _ _ => okG Γ "isinstance" && decide (("isinstance" : Str) ∈ s.blt) && okG Γ c && decide (c ∈ s.exn) && okE s Γ a
  | .xIs i x c _ _ _ _ => okV Γ i x && okG Γ "isinstance" && decide (("isinstance" : Str) ∈ s.blt) && okG Γ c && decide (c ∈ s.exn)
  | .xAt i x _ _ _ => okV Γ i x
  | .lc _ e t it cs own sc _ => Γ.calm && okII s Γ t.many? it && blkC Γ.N Γ.sc sc own && okT ⟨Γ.N, sc, true⟩ t && (t.ix.all fun i => decide (i ∈ own.map (·.2))) && okEs s ⟨Γ.N, sc, true⟩ cs && okTsts cs && decide (cs.len ≤ 1) && okE s ⟨Γ.N, sc, true⟩ e
  | .lc2 _ e t it cs t2 it2 cs2 own vs2 sc _ => Γ.calm && okII s Γ t.many? it && blkC Γ.N Γ.sc sc own && okT ⟨Γ.N, sc, true⟩ t && (t.ix.all fun i => decide (i ∈ own.map (·.2))) && okEs s ⟨Γ.N, sc, true⟩ cs && okTsts cs && decide (cs.len ≤ 1) &&
      okII s ⟨Γ.N, sc, true⟩ t2.many? it2 && okT ⟨Γ.N, sc, true⟩ t2 && (t2.ix.all fun i => decide (i ∈ vs2)) && (vs2.all fun i => decide (i ∈ own.map (·.2))) && okEs s ⟨Γ.N, sc, true⟩ cs2 && okTsts cs2 && decide (cs2.len ≤ 1) && okE s ⟨Γ.N, sc, true⟩ e
def okEs (s : ST) (Γ : SC) : IEs → Bool
  | .nil => true
  | .cons e r => okE s Γ e && okEs s Γ r
def okKs (s : ST) (Γ : SC) : IKs → Bool
  | .nil => true
  | .cons _ e _ r => okE s Γ e && okKs s Γ r
def okII (s : ST) (Γ : SC) (m : Bool) : II → Bool
  | .of e => okE s Γ e
  | .rng1 a _ _ => okG Γ "range" && decide (("range" : Str) ∈ s.blt) && okE s Γ a
  | .rng2 a b _ _ => okG Γ "range" && decide (("range" : Str) ∈ s.blt) && okE s Γ a && okE s Γ b
  | .enum a _ _ => m && okG Γ "enumerate" && decide (("enumerate" : Str) ∈ s.blt) && okE s Γ a
  | .zip a b _ _ => m && okG Γ "zip" && decide (("zip" : Str) ∈ s.blt) && okE s Γ a && okE s Γ b
  | .zip3 _ _ _ _ _ => false
/-- fit to be a test -/
def okTst : IE → Bool
  | .ifx _ _ _ _ => false
  | _ => true
def okTsts : IEs → Bool
  | .nil => true
  | .cons e r => okTst e && okTsts r
end
end MP
set_option Elab.async false
set_option linter.all false
set_option maxRecDepth 100000
set_option maxHeartbeats 4000000
/-! MPSound: what is sound of expressions. -/
namespace MP
open PySem PySem.Spec PyProof.Rows L2
/-- where the defs and the classes stand -/
structure FA where
  adr : Nat → Addr
  fd : Nat → FuncData
  ps : Nat → List Str
/-- the promise of the n-th evaluation -/
def spF (K : PySem.W.Frag) (T : Tab) (n f : Nat) : Sp := fun vs H Q E => ∃ w S rs, w.H = H ∧ SR K w S ∧ Rels K w rs vs ∧ Hop K (Rel K) E w Q (callN T n f rs S)
structure GF (P : Program) (w : World) (K : PySem.W.Frag) (mg : Str → Option Value) (base : Heap) (s : ST) (a : FA) : Prop where
  top : ∀ q ∈ s.tops, mg q.2 = some (.ref (a.adr q.1)) ∧ PySem.W.keepIn K (.ref (a.adr q.1)) = true ∧ Binds K (a.fd q.1) (a.ps q.1) [] ∧ (q.2 == ("__debug__" : Str)) = false ∧ ∃ F, s.T.fns[q.1]? = some F
  hot : ∀ q ∈ s.hots, q ∈ s.tops
  cls : ∀ q ∈ s.cls, Mk K (He.ga K q.1) (a.adr q.2) ∧ mg q.1 = some (.ref (He.ga K q.1)) ∧ Binds K (a.fd q.2) (a.ps q.2) [] ∧ (q.1 == ("__debug__" : Str)) = false ∧ ∃ F, s.T.fns[q.2]? = some F
  attrs : ∀ q ∈ s.attrs, Cls K (He.ga K q.1) ∧ NoAttr K (He.ga K q.1) q.2
  blt : ∀ x ∈ s.blt, mg x = none
  gis : ∀ q ∈ s.gis, ∃ t, mg q.1 = some (.int q.2 t)
  exn : ∀ x ∈ s.exn, mg x = some (.ref (He.ga K x)) ∧ (x == ("__debug__" : Str)) = false
  kws : ∀ q ∈ s.kws, KwB (a.fd q.1) (a.ps q.1) q.2.1 q.2.2.1 q.2.2.2
  math : ∀ q ∈ s.math, mg q.1 = some (.builtin q.2)
  sub : ∀ c' c b, s.T.sub c' c = some b → c ∈ s.exn → ExcC K (He.ga K c') ∧ PySem.W.kitOne K (.ref (He.ga K c')) (.ref (He.ga K c)) = some b
  subE : SubE K s.T.sub
  xf : ∀ c f, s.T.xf c f = true → XfC K (He.ga K c) ∧ PySem.W.findIn K (.ref (He.ga K c)) f = some none
  xcs : ∀ q ∈ s.xcs, ∃ fI fd ps, OexC K (He.ga K q.1) ∧ PySem.W.findIn K (.ref (He.ga K q.1)) "__init__" = some (some (.ref fI)) ∧ PySem.W.typeIn K (.ref fI) = some (.type "function") ∧ q.2.map (·.1) ≠ [] ∧ (q.2.map (·.1)).length ≤ 900 ∧
    FnOk P w K mg base (L2N.CX P w) 2 fI fd ps (spO (He.ga K q.1) (q.2.map (·.1)) (kpOf q.2)) ∧ Binds K fd ps [] ∧ mg q.1 = some (.ref (He.ga K q.1)) ∧ (q.1 == ("__debug__" : Str)) = false
  mets : ∀ q ∈ s.mets, Cls K (He.ga K q.1) ∧ Meth K (He.ga K q.1) q.2.1 (a.adr q.2.2) ∧ Binds K (a.fd q.2.2) (a.ps q.2.2) [] ∧ ∃ F, s.T.fns[q.2.2]? = some F
  opc : ∀ c ∈ s.ops, PySem.W.selfFirst K (He.ga K c) = true
  props : ∀ q ∈ s.props, Cls K (He.ga K q.1) ∧ (∃ p, PropOf K (He.ga K q.1) q.2.1 p (a.adr q.2.2)) ∧ Binds K (a.fd q.2.2) (a.ps q.2.2) [] ∧ ∃ F, s.T.fns[q.2.2]? = some F
  dfs : ∀ q ∈ s.dfs, ∃ dv, Vals (q.2.map V.int) dv ∧ Binds K (a.fd q.1) (a.ps q.1) dv
  ins : ∀ n c b, s.T.ins n c = some b → InsT K n c b
/-- the defs keep their promises at level n -/
structure FL (P : Program) (w : World) (K : PySem.W.Frag) (mg : Str → Option Value) (base : Heap) (s : ST) (a : FA) (n : Nat) : Prop where
  calm : ∀ f F, s.T.fns[f]? = some F → FnOk P w K mg base (L2N.CX P w) (3 * n + 1) (a.adr f) (a.fd f) (a.ps f) (spF K s.T n f)
  hot : ∀ q ∈ s.hots, L2H.FnH P w K mg base (L2N.CX P w) (3 * n + 1) (a.adr q.1) (a.fd q.1) (a.ps q.1) (spF K s.T n q.1)
structure XF (s : ST) (a : FA) (n : Nat) (Γ : SC) (X : Cx) (xr : XR) (W : WX) : Prop where
  gf : GF X.prog X.w X.K X.mg X.base s a
  fl : FL X.prog X.w X.K X.mg X.base s a n
  N : X.N = Γ.N
  nd : X.N.Nodup
  sc : ∀ x k, Γ.sc.names.lookup x = some k → X.env.scope.names.lookup x = some k ∨ (k = .free ∧ X.env.scope.names.lookup x = some .cell)
  fnc : ∀ x, Γ.sc.names.lookup x = some .cell → X.fn x = true
  calm : Γ.calm = true → X.calm = true ∧ Room (3 * n + 3) X.A ∧ xr = xr0
  hot : Γ.calm = false → L2H.RoomH (3 * n + 3) X.A ∧ L2H.HotC X ∧ XAt X xr
  tk : L2N.Takes X W
  xok : xr.Ok
section
variable {s : ST} {a : FA} {n : Nat} {Γ : SC} {X : Cx} {xr : XR} {W : WX}
theorem XF.units (x : XF s a n Γ X xr W) : X.A.units + 64 < cLine := by
  cases h : Γ.calm with
  | true => exact (x.calm h).2.1.units
  | false =>
    have := (x.hot h).1.un
    omega
theorem XF.xat (x : XF s a n Γ X xr W) : XAt X xr := by
  cases h : Γ.calm with
  | true =>
    have e := (x.calm h).2.2
    subst e
    exact fun _ _ _ _ _ z => z.elim
  | false => exact (x.hot h).2.2
theorem XF.gl (x : XF s a n Γ X xr W) {y : Str} (h : okG Γ y = true) : Gl X y := by
  rcases x.sc y _ (of_decide_eq_true h) with q | q
  · exact q
  · cases q.1
theorem XF.vis (x : XF s a n Γ X xr W) {i : Nat} {y : Str} (h : okV Γ i y = true) : X.N[i]? = some y ∧ Vis X.env.scope y ∧ (y == ("__debug__" : Str)) = false ∧ (y == ("__classdict__" : Str)) = false := by
  unfold okV at h
  rw [Bool.and_eq_true, Bool.and_eq_true, Bool.and_eq_true] at h
  obtain ⟨⟨⟨h1, h2⟩, h3⟩, h4⟩ := h
  refine ⟨by rw [x.N]; exact of_decide_eq_true h1, ?_, by simpa using h3, by simpa using h4⟩
  cases e : Γ.sc.names.lookup y with
  | none => rw [e] at h2; cases h2
  | some k =>
    rcases x.sc y k e with q | ⟨q1, q2⟩
    · cases k with
      | «local» => exact .inl q
      | cell => exact .inr (.inl q)
      | free => exact .inr (.inr q)
      | _ => rw [e] at h2; cases h2
    · exact .inr (.inl q2)
theorem XF.nm (x : XF s a n Γ X xr W) {i : Nat} {y : Str} (h : okN Γ i y = true) : NmOk X i y := by
  unfold okN at h
  rw [Bool.and_eq_true] at h
  obtain ⟨h1, h2⟩ := h
  have e1 : X.N[i]? = some y := by rw [x.N]; exact of_decide_eq_true h1
  cases e : Γ.sc.names.lookup y with
  | none => rw [e] at h2; cases h2
  | some k =>
    rcases x.sc y k e with q | ⟨q1, q2⟩
    · cases k with
      | «local» => exact ⟨e1, .inl q, .inr q⟩
      | cell => exact ⟨e1, .inr q, .inl (x.fnc y e)⟩
      | _ => rw [e] at h2; cases h2
    · subst q1
      rw [e] at h2
      cases h2
theorem XF.tg (x : XF s a n Γ X xr W) {t : IT} (h : okT Γ t = true) : ITOk X t := by
  cases t with
  | one i y p => exact x.nm h
  | many l k p =>
    have h : (Γ.calm && l.all fun q => okN Γ q.1 q.2.1) = true := h
    rw [Bool.and_eq_true] at h
    exact ⟨(x.calm h.1).1, fun q hq => x.nm (List.all_eq_true.mp h.2 q hq)⟩
/-- within a comprehension -/
theorem XF.blk (x : XF s a n Γ X xr W) (hc : Γ.calm = true) (sc : Scope) : Blks X sc fun Y => XF s a n ⟨Γ.N, sc, true⟩ Y xr W0 := fun st H C cl fp =>
  { gf := x.gf
    fl := x.fl
    N := x.N
    nd := x.nd
    sc := fun y k h => by
      have e : ∀ (names : List (Str × NameKind)) (k : NameKind), names.lookup y = some k → (names.map fun (n, k) => if (k == NameKind.free && X.env.scope.kind == .function && X.env.kindOf n == some .cell) then (n, NameKind.cell) else (n, k)).lookup y = some k ∨ (k = .free ∧ (names.map fun (n, k) => if (k == NameKind.free && X.env.scope.kind == .function && X.env.kindOf n == some .cell) then (n, NameKind.cell) else (n, k)).lookup y = some .cell) := by
        intro names
        induction names with
        | nil => intro k h; cases h
        | cons q r ih =>
          intro k h
          obtain ⟨z, kz⟩ := q
          rw [List.lookup_cons] at h
          rw [List.map_cons]
          by_cases hz : y == z
          · rw [hz] at h
            cases h
            by_cases hk : (k == NameKind.free && X.env.scope.kind == .function && X.env.kindOf z == some .cell) = true
            · right
              refine ⟨?_, ?_⟩
              · rw [Bool.and_eq_true, Bool.and_eq_true] at hk
                exact eq_of_beq hk.1.1
              · simp only [if_pos hk]
                rw [List.lookup_cons, hz]
            · left
              simp only [if_neg hk]
              rw [List.lookup_cons, hz]
          · have hz' : (y == z) = false := by simpa using hz
            rw [hz'] at h
            have q := ih k h
            have lk : ∀ (w : Str × NameKind) (l : List (Str × NameKind)), w.1 = z → (w :: l).lookup y = l.lookup y := fun w l hw => by
              obtain ⟨w1, w2⟩ := w
              have hw' : w1 = z := hw
              subst hw'
              rw [List.lookup_cons, hz']
            have one : (if (kz == NameKind.free && X.env.scope.kind == .function && X.env.kindOf z == some .cell) = true then (z, NameKind.cell) else (z, kz)).1 = z := by split <;> rfl
            rw [lk _ _ one]
            exact q
      exact e sc.names k h
    fnc := fun y h => by
      show (sc.names.lookup y == some .cell) = true
      have h : sc.names.lookup y = some .cell := h
      rw [h]
      rfl
    calm := fun _ => x.calm hc
    hot := fun h => Bool.noConfusion h
    tk := takes0
    xok := x.xok }
theorem spF_ok {K : PySem.W.Frag} {T : Tab} {n f : Nat} : SpOk K (spF K T n f) (fun rs => callN T n f rs) := fun w S rs vs Q E s r h => ⟨w, S, rs, rfl, s, r, h⟩
/-! ### built-in functions -/
theorem e_bif {m : Bool} {e : Expr} {es : List Expr} {ma : MP.Env → M R} {ms : MP.Env → M (List R)} {p0 pos : Pos} (f : Bf) (hx : xr.Ok) (hc : f.calm = true → X.calm = true) (hg : Gl X f.x) (hm : X.mg f.x = none)
    (he : starEach (e :: es) X.env = (false, eval e X.env) :: starEach es X.env) (hpl : (backTo pos (starEach es X.env)).any (·.1) = false) (ha : EOk X xr W e ma) (hs : AOk X xr W es ms) :
    EOk X xr W (.Call (.Name f.x p0) (e :: es) [] pos) (fun ρ => M.bind (ma ρ) fun x => M.bind (ms ρ) fun xs => biR m f (x :: xs)) := by
  cases f with
  | len => exact e_bi hx call_len_seq hg hm (by first | rfl | decide +kernel) (by decide) (by decide) he hpl ha hs (len_ok m)
  | sum => exact e_bi hx (cr_sumAny (hc rfl)) hg hm (by first | rfl | decide +kernel) (by decide) (by decide) he hpl ha hs (sum_ok m)
  | int => exact e_biT hx call_int1 hg hm (by first | rfl | decide +kernel) (by decide) (by decide) he hpl ha hs (int_ok m)
  | abs => exact e_bi hx call_abs hg hm (by first | rfl | decide +kernel) (by decide) (by decide) he hpl ha hs (abs_ok m)
  | max => exact e_bi hx (cr_maxAny (hc rfl)) hg hm (by first | rfl | decide +kernel) (by decide) (by decide) he hpl ha hs (max_ok m)
  | min => exact e_bi hx (cr_minAny (hc rfl)) hg hm (by first | rfl | decide +kernel) (by decide) (by decide) he hpl ha hs (min_ok m)
  | all => exact e_bi hx (cr_all (hc rfl)) hg hm (by first | rfl | decide +kernel) (by decide) (by decide) he hpl ha hs (all_ok m)
  | list => exact e_biT hx call_list_of hg hm (by first | rfl | decide +kernel) (by decide) (by decide) he hpl ha hs (list_ok m)
  | tuple => exact e_biT hx call_tuple_of hg hm (by first | rfl | decide +kernel) (by decide) (by decide) he hpl ha hs (tuple_ok m)
end
end MP
set_option Elab.async false
set_option linter.all false
set_option maxRecDepth 100000
set_option maxHeartbeats 4000000
/-! MPSound2: expressions are sound. -/
namespace MP
open PySem PySem.Spec PyProof.Rows L2
section
variable {X : Cx} {xr : XR} {W : WX} {a b : IE} {ma mb : MP.Env → M R} {p : Pos}
theorem b_op (hx : xr.Ok) (m : Bool) (op : Bop) (ha : EOk X xr W a.e ma) (hb : EOk X xr W b.e mb) : EOk X xr W (.BinOp a.e op.o b.e p) (fun ρ => M.bind (ma ρ) fun x => M.bind (mb ρ) fun y => binR m op x y) := by
  cases op with
  | add => exact e_bin2 hx op_addAny (binadd_ok m) ha hb
  | sub => exact e_bin2 hx op_sub (fun w S x y u v E Q s r1 r2 h => rI_I0 (binsub_ok m w S x y u v E Q s r1 r2 h)) ha hb
  | mul => exact e_bin2 hx op_mulAny (binmul_ok m) ha hb
  | fdiv => exact e_bin2 hx op_fdivW (bindiv_ok m) ha hb
  | mod => exact e_bin2 hx op_mod (binmod_ok m) ha hb
  | pow => exact e_bin2 hx op_powW (binpow_ok m) ha hb
theorem b_cmp (hx : xr.Ok) (hu : X.A.units + 64 < cLine) (op : Cop) (ha : EOk X xr W a.e ma) (hb : EOk X xr W b.e mb) : EOk X xr W (.Compare a.e [op.o] [b.e] p) (fun ρ => M.bind (ma ρ) fun x => M.bind (mb ρ) fun y => cmpR op x y) ∧
    TOk X xr W (.Compare a.e [op.o] [b.e] p) (fun ρ => M.bind (M.bind (ma ρ) fun x => M.bind (mb ρ) fun y => cmpR op x y) truB) := by
  have hm := behind_ok op b
  cases op with
  | lt =>
    have k := cmp_int (X := X) (op := .lt) (g := fun i j => decide (i < j)) (fun x y S h => cmpR_n .lt (fun z => nomatch z) (fun z => nomatch z) x y S h) (fun _ _ _ => rfl)
    exact ⟨e_cmp2 hx op_lt hm k ha hb, t_cmp2 hx op_lt hm k ha hb⟩
  | le =>
    have k := cmp_int (X := X) (op := .le) (g := fun i j => decide (i ≤ j)) (fun x y S h => cmpR_n .le (fun z => nomatch z) (fun z => nomatch z) x y S h) (fun _ _ _ => rfl)
    exact ⟨e_cmp2 hx op_le hm k ha hb, t_cmp2 hx op_le hm k ha hb⟩
  | gt =>
    have k := cmp_int (X := X) (op := .gt) (g := fun i j => decide (j < i)) (fun x y S h => cmpR_n .gt (fun z => nomatch z) (fun z => nomatch z) x y S h) (fun _ _ _ => rfl)
    exact ⟨e_cmp2 hx op_gt hm k ha hb, t_cmp2 hx op_gt hm k ha hb⟩
  | ge =>
    have k := cmp_int (X := X) (op := .ge) (g := fun i j => decide (j ≤ i)) (fun x y S h => cmpR_n .ge (fun z => nomatch z) (fun z => nomatch z) x y S h) (fun _ _ _ => rfl)
    exact ⟨e_cmp2 hx op_ge hm k ha hb, t_cmp2 hx op_ge hm k ha hb⟩
  | eq => exact ⟨e_cmp2 hx (op_eqAny hu) hm cmpeq_ok ha hb, t_cmp2 hx (op_eqAny hu) hm cmpeq_ok ha hb⟩
  | ne => exact ⟨e_cmp2 hx (op_neAny hu) hm cmpne_ok ha hb, t_cmp2 hx (op_neAny hu) hm cmpne_ok ha hb⟩
/-- both, for an expression that is tested by its value -/
theorem both {e : IE} {m : MP.Env → M R} (h : EOk X xr W e.e m) (hv : tstV e = true) : EOk X xr W e.e m ∧ (okTst e = true → TOk X xr W e.e (fun ρ => M.bind (m ρ) truB)) := ⟨h, fun _ => t_val h (tst_ok e X.env hv)⟩
end
abbrev SE (s : ST) (a : FA) (n : Nat) (e : IE) : Prop := ∀ (Γ : SC) (X : Cx) (xr : XR) (W : WX), XF s a n Γ X xr W → okE s Γ e = true → EOk X xr W e.e (evE (s.T.C n).toCalls e) ∧ (okTst e = true → TOk X xr W e.e (fun ρ => M.bind (evE (s.T.C n).toCalls e ρ) truB))
structure SEs' (s : ST) (n : Nat) (X : Cx) (xr : XR) (W : WX) (es : IEs) : Prop where
  all : AOk X xr W es.es (evEs (s.T.C n).toCalls es)
  bool : okTsts es = true → es ≠ .nil → ∀ p, (EOk X xr W (.BoolOp .And es.es p) (evAnd (s.T.C n).toCalls es) ∧ WOk X xr W (.BoolOp .And es.es p) (fun ρ => M.bind (evAnd (s.T.C n).toCalls es ρ) truB)) ∧
    (EOk X xr W (.BoolOp .Or es.es p) (evOr (s.T.C n).toCalls es) ∧ WOk X xr W (.BoolOp .Or es.es p) (fun ρ => M.bind (evOr (s.T.C n).toCalls es ρ) truB))
  ifs : okTsts es = true → es.len ≤ 1 → TsOk X xr W es.es (evTs (s.T.C n).toCalls es)
  opt : es.len ≤ 1 → POk X xr W es.o (fun ρ => M.bind (evEs (s.T.C n).toCalls es ρ) optI)
abbrev SEs (s : ST) (a : FA) (n : Nat) (es : IEs) : Prop := ∀ (Γ : SC) (X : Cx) (xr : XR) (W : WX), XF s a n Γ X xr W → okEs s Γ es = true → SEs' s n X xr W es
abbrev SKs (s : ST) (a : FA) (n : Nat) (es : IKs) : Prop := ∀ (Γ : SC) (X : Cx) (xr : XR) (W : WX), XF s a n Γ X xr W → okKs s Γ es = true → KOk X xr W es.ks (evKs (s.T.C n).toCalls es)
abbrev SII (s : ST) (a : FA) (n : Nat) (it : II) : Prop := ∀ (Γ : SC) (X : Cx) (xr : XR) (W : WX), XF s a n Γ X xr W → ∀ t : IT, okII s Γ t.many? it = true → IOk X xr W t.e it.e (evII (s.T.C n).toCalls it)
section
variable {s : ST} {a : FA} {n : Nat} {Γ : SC} {X : Cx} {xr : XR} {W : WX}
theorem c_nil : SEs' s n X xr W .nil where
  all := a_nil
  bool := fun _ h => absurd rfl h
  ifs := fun _ _ => ts_nil
  opt := fun _ => o_none
theorem c_cons {e : IE} {r : IEs} (x : XF s a n Γ X xr W) (he : EOk X xr W e.e (evE (s.T.C n).toCalls e) ∧ (okTst e = true → TOk X xr W e.e (fun ρ => M.bind (evE (s.T.C n).toCalls e ρ) truB))) (hr : SEs' s n X xr W r) : SEs' s n X xr W (.cons e r) where
  all := a_cons x.xok he.1 hr.all (star_e e _ _)
  bool := fun ht _ p => by
    have ht : (okTst e && okTsts r) = true := by simpa only [okTsts] using ht
    rw [Bool.and_eq_true] at ht
    cases r with
    | nil => exact ⟨⟨e_one he.1, w_one (he.2 ht.1)⟩, ⟨e_one he.1, w_one (he.2 ht.1)⟩⟩
    | cons e2 r2 =>
      have q := hr.bool ht.2 (fun z => nomatch z) p
      exact ⟨⟨e_and x.xok he.1 q.1.1, w_and x.xok (he.2 ht.1) q.1.2⟩, ⟨e_or x.xok he.1 q.2.1, w_or x.xok (he.2 ht.1) q.2.2⟩⟩
  ifs := fun ht hl => by
    have ht : (okTst e && okTsts r) = true := by simpa only [okTsts] using ht
    rw [Bool.and_eq_true] at ht
    cases r with
    | nil => exact ts_one (he.2 ht.1)
    | cons e2 r2 => exact absurd hl (by simp [IEs.len])
  opt := fun hl => by
    cases r with
    | nil =>
      have q := o_some he.1
      have e9 : (fun ρ => M.bind (evEs (s.T.C n).toCalls (.cons e .nil) ρ) optI) = fun ρ => M.bind (evE (s.T.C n).toCalls e ρ) fun x => optI [x] := by
        funext ρ
        show M.bind (M.bind _ fun x => M.bind (M.pure []) fun xs => M.pure (x :: xs)) optI = _
        rw [bind_assoc]
        rfl
      rw [e9]
      exact q
    | cons e2 r2 => exact absurd hl (by simp [IEs.len])
end
section
variable {s : ST} {a : FA} {n : Nat}
/-! ### the cases -/
theorem k_var {i x p} : SE s a n (.var i x p) := fun Γ X xr W x h => by
  simp only [okE] at h
  have v := x.vis h
  exact both (e := .var _ _ _) (e_var v.1 v.2.1 v.2.2.1 v.2.2.2) rfl
theorem k_int {i k p} : SE s a n (.int i k p) := fun Γ X xr W x h => both (e := .int _ _ _) e_int rfl
theorem k_bl {i k p} : SE s a n (.bl i k p) := fun Γ X xr W x h => both (e := .bl _ _ _) e_bl rfl
theorem k_non {k p} : SE s a n (.non k p) := fun Γ X xr W x h => both (e := .non _ _) e_non rfl
theorem k_str {z k p} : SE s a n (.str z k p) := fun Γ X xr W x h => both (e := .str _ _ _) e_str rfl
theorem k_gint {i y p} : SE s a n (.gint i y p) := fun Γ X xr W x h => by
  simp only [okE, Bool.and_eq_true, decide_eq_true_eq] at h
  exact both (e := .gint _ _ _) (e_gint (x.gl h.1.1) (x.gf.gis _ h.1.2) (by simpa using h.2)) rfl
theorem k_bin {m op e1 e2 p} (h1 : SE s a n e1) (h2 : SE s a n e2) : SE s a n (.bin m op e1 e2 p) := fun Γ X xr W x h => by
  simp only [okE, Bool.and_eq_true] at h
  exact both (e := .bin m op e1 e2 p) (b_op x.xok m op (h1 Γ X xr W x h.1).1 (h2 Γ X xr W x h.2).1) rfl
theorem k_neg {e1 p} (h1 : SE s a n e1) : SE s a n (.neg e1 p) := fun Γ X xr W x h => by
  simp only [okE] at h
  exact both (e := .neg e1 p) (e_neg (h1 Γ X xr W x h).1) rfl
theorem k_cmp {op e1 e2 p} (h1 : SE s a n e1) (h2 : SE s a n e2) : SE s a n (.cmp op e1 e2 p) := fun Γ X xr W x h => by
  simp only [okE, Bool.and_eq_true] at h
  have q := b_cmp (p := p) x.xok x.units op (h1 Γ X xr W x h.1).1 (h2 Γ X xr W x h.2).1
  exact ⟨q.1, fun _ => q.2⟩
theorem k_isN {b e1 k p1 p} (h1 : SE s a n e1) : SE s a n (.isN b e1 k p1 p) := fun Γ X xr W x h => by
  simp only [okE] at h
  have q := (h1 Γ X xr W x h).1
  exact ⟨e_isN q, fun _ => t_isN q⟩
theorem k_not {e1 p} (h1 : SE s a n e1) : SE s a n (.not e1 p) := fun Γ X xr W x h => by
  simp only [okE, Bool.and_eq_true] at h
  have q := h1 Γ X xr W x h.1
  exact ⟨e_not q.1, fun _ => t_not (q.2 h.2)⟩
theorem k_and {e1 r p} (h1 : SE s a n e1) (h2 : SEs s a n r) : SE s a n (.and e1 r p) := fun Γ X xr W x h => by
  simp only [okE, Bool.and_eq_true] at h
  have q := h1 Γ X xr W x h.1.1.1
  have c := c_cons x q (h2 Γ X xr W x h.1.2)
  have ht : okTsts (.cons e1 r) = true := by simp only [okTsts, Bool.and_eq_true]; exact ⟨h.1.1.2, h.2⟩
  have z := (c.bool ht (fun z => nomatch z) p).1
  cases r with
  | nil => exact ⟨z.1, fun _ => z.2.t⟩
  | cons e2 r2 => exact ⟨z.1, fun _ => z.2.t⟩
theorem k_or {e1 r p} (h1 : SE s a n e1) (h2 : SEs s a n r) : SE s a n (.or e1 r p) := fun Γ X xr W x h => by
  simp only [okE, Bool.and_eq_true] at h
  have q := h1 Γ X xr W x h.1.1.1
  have c := c_cons x q (h2 Γ X xr W x h.1.2)
  have ht : okTsts (.cons e1 r) = true := by simp only [okTsts, Bool.and_eq_true]; exact ⟨h.1.1.2, h.2⟩
  have z := (c.bool ht (fun z => nomatch z) p).2
  cases r with
  | nil => exact ⟨z.1, fun _ => z.2.t⟩
  | cons e2 r2 => exact ⟨z.1, fun _ => z.2.t⟩
theorem k_ifx {c e1 e2 p} (h0 : SE s a n c) (h1 : SE s a n e1) (h2 : SE s a n e2) : SE s a n (.ifx c e1 e2 p) := fun Γ X xr W x h => by
  simp only [okE, Bool.and_eq_true] at h
  exact ⟨e_ifx x.xok ((h0 Γ X xr W x h.1.1.1).2 h.1.1.2) (h1 Γ X xr W x h.1.2).1 (h2 Γ X xr W x h.2).1, fun z => by simp [okTst] at z⟩
theorem k_lst {m es p} (h1 : SEs s a n es) : SE s a n (.lst m es p) := fun Γ X xr W x h => by
  simp only [okE, Bool.and_eq_true, decide_eq_true_eq] at h
  exact both (e := .lst m es p) (e_lst m (h1 Γ X xr W x h.1).all fun ρ S rs S' e => by rw [ev_len _ _ _ _ _ _ e]; exact h.2) rfl
theorem k_tup {es k p} (h1 : SEs s a n es) : SE s a n (.tup es k p) := fun Γ X xr W x h => by
  simp only [okE, Bool.and_eq_true, decide_eq_true_eq] at h
  exact both (e := .tup es k p) (e_tup (h1 Γ X xr W x h.1).all fun ρ S rs S' e => by rw [ev_len _ _ _ _ _ _ e]; exact h.2) rfl
theorem k_ix {e1 e2 p} (h1 : SE s a n e1) (h2 : SE s a n e2) : SE s a n (.ix e1 e2 p) := fun Γ X xr W x h => by
  simp only [okE, Bool.and_eq_true] at h
  exact both (e := .ix e1 e2 p) (e_ix x.xok (plainIx e2 h.2) (h1 Γ X xr W x h.1.1).1 (h2 Γ X xr W x h.1.2).1) rfl
theorem k_sl {m e1 lo hi p2 p} (h1 : SE s a n e1) (h2 : SEs s a n lo) (h3 : SEs s a n hi) : SE s a n (.sl m e1 lo hi p2 p) := fun Γ X xr W x h => by
  simp only [okE, Bool.and_eq_true, decide_eq_true_eq] at h
  exact both (e := .sl m e1 lo hi p2 p) (e_sl m x.xok (h1 Γ X xr W x h.1.1.1.1).1 ((h2 Γ X xr W x h.1.1.1.2).opt h.1.1.2) ((h3 Γ X xr W x h.1.2).opt h.2)) rfl
theorem k_attr {e1 c f p} (h1 : SE s a n e1) : SE s a n (.attr e1 c f p) := fun Γ X xr W x h => by
  simp only [okE, Bool.and_eq_true, decide_eq_true_eq] at h
  have q := x.gf.attrs _ h.1.2
  exact both (e := .attr e1 c f p) (e_attr q.1 q.2 (base_ok e1 f _ h.2) (h1 Γ X xr W x h.1.1).1) rfl
theorem k_call {f y e1 es p0 p} (h1 : SE s a n e1) (h2 : SEs s a n es) : SE s a n (.call f y e1 es p0 p) := fun Γ X xr W x h => by
  simp only [okE, Bool.and_eq_true] at h
  obtain ⟨⟨⟨hg, hf⟩, he⟩, hes⟩ := h
  refine both (e := .call f y e1 es p0 p) ?_ rfl
  cases hc : Γ.calm with
  | true =>
    rw [hc, if_pos rfl] at hf
    obtain ⟨g1, g2, g3, g4, F, g5⟩ := x.gf.top _ (of_decide_eq_true hf)
    exact e_call x.xok (x.fl.calm f F g5) spF_ok ((x.calm hc).2.1.mono (by omega)) (x.gl hg) g1 g2 g3 x.tk g4 (star_e e1 _ _) (plain_es p _ es) (h1 Γ X xr W x he).1 (h2 Γ X xr W x hes).all
  | false =>
    rw [hc, if_neg Bool.false_ne_true] at hf
    have hf := of_decide_eq_true hf
    obtain ⟨g1, g2, g3, g4, F, g5⟩ := x.gf.top _ (x.gf.hot _ hf)
    exact e_callH x.xok (x.fl.hot _ hf) spF_ok ((x.hot hc).1.mono (by omega)) (x.hot hc).2.1 (x.gl hg) g1 g2 g3 x.tk g4 (star_e e1 _ _) (plain_es p _ es) (h1 Γ X xr W x he).1 (h2 Γ X xr W x hes).all
theorem k_callK {f y e1 es kw pm p0 p} (h1 : SE s a n e1) (h2 : SEs s a n es) (h3 : SKs s a n kw) : SE s a n (.callK f y e1 es kw pm p0 p) := fun Γ X xr W x h => by
  simp only [okE, Bool.and_eq_true, decide_eq_true_eq] at h
  obtain ⟨⟨⟨⟨⟨⟨hc, hg⟩, hf⟩, hk⟩, he⟩, hes⟩, hkw⟩ := h
  obtain ⟨g1, g2, g3, g4, F, g5⟩ := x.gf.top _ hf
  obtain ⟨k1, k2, k3⟩ := kw_all p X.env kw
  refine both (e := .callK f y e1 es kw pm p0 p) (e_callK x.xok (x.fl.calm f F g5) spF_ok ((x.calm hc).2.1.mono (by omega)) (x.gl hg) g1 g2 (x.gf.kws _ hk) x.tk g4 (star_e e1 _ _) k1 k2 ?_ (h1 Γ X xr W x he).1 (h2 Γ X xr W x hes).all (h3 Γ X xr W x hkw)
    (fun ρ S xs S' e => by rw [ev_len _ _ _ _ _ _ e]) (fun ρ S xs S' e => ek_len _ _ _ _ _ _ e)) rfl
  rw [k3, show (backTo p (starEach (e1.e :: es.es) X.env)).any (·.1) = false from plain_es p X.env (.cons e1 es)]
  rfl
theorem k_callKK {f y kw pm p0 p} (h3 : SKs s a n kw) : SE s a n (.callKK f y kw pm p0 p) := fun Γ X xr W x h => by
  simp only [okE, Bool.and_eq_true, decide_eq_true_eq] at h
  obtain ⟨⟨⟨⟨hc, hg⟩, hf⟩, hk⟩, hkw⟩ := h
  obtain ⟨g1, g2, g3, g4, F, g5⟩ := x.gf.top _ hf
  obtain ⟨k1, k2, k3⟩ := kw_all p X.env kw
  refine both (e := .callKK f y kw pm p0 p) (e_callKK x.xok (x.fl.calm f F g5) spF_ok ((x.calm hc).2.1.mono (by omega)) (x.gl hg) g1 g2 (x.gf.kws _ hk) x.tk g4 k1 k2 ?_ (h3 Γ X xr W x hkw) (fun ρ S xs S' e => ek_len _ _ _ _ _ _ e)) rfl
  rw [k3]
  rfl
theorem k_bi {m f e1 es p0 p} (h1 : SE s a n e1) (h2 : SEs s a n es) : SE s a n (.bi m f e1 es p0 p) := fun Γ X xr W x h => by
  simp only [okE, Bool.and_eq_true, decide_eq_true_eq] at h
  obtain ⟨⟨⟨⟨hc, hg⟩, hb⟩, he⟩, hes⟩ := h
  refine both (e := .bi m f e1 es p0 p) (e_bif f x.xok (fun z => ?_) (x.gl hg) (x.gf.blt _ hb) (star_e e1 _ _) (plain_es p _ es) (h1 Γ X xr W x he).1 (h2 Γ X xr W x hes).all) rfl
  rw [z] at hc
  have hc' : Γ.calm = true := by simpa using hc
  exact (x.calm hc').1
theorem k_gcd {l e1 e2 p0 p} (h1 : SE s a n e1) (h2 : SE s a n e2) : SE s a n (.gcd l e1 e2 p0 p) := fun Γ X xr W x h => by
  simp only [okE, Bool.and_eq_true, decide_eq_true_eq] at h
  obtain ⟨⟨⟨hg, hm⟩, ha⟩, hb⟩ := h
  have q := x.gf.math _ hm
  have s2 : starEach [e2.e] X.env = (false, eval e2.e X.env) :: starEach [] X.env := star_e e2 _ _
  have pl : (backTo p (starEach [e2.e] X.env)).any (·.1) = false := plain_es p _ (.cons e2 .nil)
  refine both (e := .gcd l e1 e2 p0 p) ?_ rfl
  cases l with
  | true => exact e_lcm x.xok (x.gl hg) q (by decide) (star_e e1 _ _) s2 pl (h1 Γ X xr W x ha).1 (h2 Γ X xr W x hb).1
  | false => exact e_gcd x.xok (x.gl hg) q (by decide) (star_e e1 _ _) s2 pl (h1 Γ X xr W x ha).1 (h2 Γ X xr W x hb).1
theorem k_make {m f c e1 es p0 p} (h1 : SE s a n e1) (h2 : SEs s a n es) : SE s a n (.make m f c e1 es p0 p) := fun Γ X xr W x h => by
  simp only [okE, Bool.and_eq_true, decide_eq_true_eq] at h
  obtain ⟨⟨⟨⟨hc, hg⟩, hf⟩, he⟩, hes⟩ := h
  obtain ⟨g1, g2, g3, g4, F, g5⟩ := x.gf.cls _ hf
  exact both (e := .make m f c e1 es p0 p) (e_make (CC := (s.T.C n).toCalls) (fi := f) x.xok g1 (x.fl.calm f F g5) spF_ok ((x.calm hc).2.1.mono (by omega)) (x.gl hg) g2 g3 x.tk g4 (star_e e1 _ _) (plain_es p _ es) (h1 Γ X xr W x he).1 (h2 Γ X xr W x hes).all) rfl
theorem k_lmeth {o nm es p1 p} (h1 : SE s a n o) (h2 : SEs s a n es) : SE s a n (.lmeth o nm es p1 p) := fun Γ X xr W x h => by
  simp only [okE, Bool.and_eq_true, decide_eq_true_eq] at h
  obtain ⟨⟨⟨⟨⟨ho, hes⟩, hb⟩, hl⟩, hp⟩, hn⟩ := h
  refine both (e := .lmeth o nm es p1 p) ?_ rfl
  have qo := (h1 Γ X xr W x ho).1
  have qs := h2 Γ X xr W x hes
  cases es with
  | nil =>
    cases nm with
    | append => cases hn
    | pop => exact e_lm0 PySem.F.slot_list_pop PySem.F.type_list_pop (mt_pop) pop_ok (base_ok o _ _ hb) hp qo
  | cons e1 r =>
    have few : ((backTo p (starEach (e1.e :: r.es) X.env)).all (fun x => !x.1) && (backToKw p (keywordEach [] X.env)).all (fun x => x.1.isSome) && decide ((e1.e :: r.es).length + ([] : List Keyword).length + (if ([] : List Keyword).isEmpty then 0 else 1) < 30)) = true := by
      have q1 := allp_es p X.env (.cons e1 r)
      have q2 : (e1.e :: r.es).length = (IEs.cons e1 r).len := len_es (.cons e1 r)
      rw [Bool.and_eq_true, Bool.and_eq_true]
      refine ⟨⟨q1, rfl⟩, decide_eq_true ?_⟩
      rw [q2]
      show (IEs.cons e1 r).len + 0 + 0 < 30
      omega
    have ne : ∀ ρ S rs S', evEs (s.T.C n).toCalls (.cons e1 r) ρ S = .ok rs S' → rs ≠ [] := fun ρ S rs S' e z => by
      have q := ev_len _ _ _ _ _ _ e
      rw [z] at q
      cases q
    cases nm with
    | append => exact e_lm x.xok PySem.F.slot_list_append PySem.F.type_list_append (mt_append) (fun w S y u rs vs E Q s1 r1 _ r2 h => append_ok w S y u rs vs E Q s1 r1 r2 h) ne (base_ok o _ _ hb) few hp (star_e e1 _ _) (plain_es p _ r) qo qs.all
    | pop => exact e_lm x.xok PySem.F.slot_list_pop PySem.F.type_list_pop (mt_popAt) popAt_ok ne (base_ok o _ _ hb) few hp (star_e e1 _ _) (plain_es p _ r) qo qs.all
theorem k_meth {f c o nm es p1 p} (h1 : SE s a n o) (h2 : SEs s a n es) : SE s a n (.meth f c o nm es p1 p) := fun Γ X xr W x h => by
  simp only [okE, Bool.and_eq_true, decide_eq_true_eq] at h
  obtain ⟨⟨⟨⟨⟨⟨hc, hm⟩, hb⟩, hl⟩, hp⟩, ho⟩, hes⟩ := h
  obtain ⟨g1, g2, g3, F, g4⟩ := x.gf.mets _ hm
  refine both (e := .meth f c o nm es p1 p) ?_ rfl
  have qs := h2 Γ X xr W x hes
  cases es with
  | nil => exact e_meth0 x.xok g1 g2 (x.fl.calm f F g4) spF_ok ((x.calm hc).2.1.mono (by omega)) g3 x.tk (meth_look X o nm p1 p .nil hb hl hp) (h1 Γ X xr W x ho).1
  | cons e1 r => exact e_meth x.xok g1 g2 (x.fl.calm f F g4) spF_ok ((x.calm hc).2.1.mono (by omega)) g3 x.tk (star_e e1 _ _) (plain_es p _ r) (meth_look X o nm p1 p (.cons e1 r) hb hl hp) (h1 Γ X xr W x ho).1 qs.all
theorem k_callD {f y e1 es ds p0 p} (h1 : SE s a n e1) (h2 : SEs s a n es) : SE s a n (.callD f y e1 es ds p0 p) := fun Γ X xr W x h => by
  simp only [okE, Bool.and_eq_true, decide_eq_true_eq] at h
  obtain ⟨⟨⟨⟨⟨hc, hg⟩, hf⟩, hd⟩, he⟩, hes⟩ := h
  obtain ⟨g1, g2, g3, g4, F, g5⟩ := x.gf.top _ hf
  exact both (e := .callD f y e1 es ds p0 p) (e_callD x.xok (x.fl.calm f F g5) spF_ok ((x.calm hc).2.1.mono (by omega)) (x.gl hg) g1 g2 (x.gf.dfs _ hd) x.tk g4 (star_e e1 _ _) (plain_es p _ es) (h1 Γ X xr W x he).1 (h2 Γ X xr W x hes).all) rfl
theorem k_makeD {m f c e1 es ds p0 p} (h1 : SE s a n e1) (h2 : SEs s a n es) : SE s a n (.makeD m f c e1 es ds p0 p) := fun Γ X xr W x h => by
  simp only [okE, Bool.and_eq_true, decide_eq_true_eq] at h
  obtain ⟨⟨⟨⟨⟨hc, hg⟩, hf⟩, hd⟩, he⟩, hes⟩ := h
  obtain ⟨g1, g2, g3, g4, F, g5⟩ := x.gf.cls _ hf
  exact both (e := .makeD m f c e1 es ds p0 p) (e_makeD (CC := (s.T.C n).toCalls) (fi := f) x.xok g1 (x.fl.calm f F g5) spF_ok ((x.calm hc).2.1.mono (by omega)) (x.gl hg) g2 (x.gf.dfs _ hd) x.tk g4 (star_e e1 _ _) (plain_es p _ es) (h1 Γ X xr W x he).1 (h2 Γ X xr W x hes).all) rfl
theorem k_opm {f c op e1 e2 p} (h1 : SE s a n e1) (h2 : SE s a n e2) : SE s a n (.opm f c op e1 e2 p) := fun Γ X xr W x h => by
  simp only [okE, Bool.and_eq_true, decide_eq_true_eq] at h
  obtain ⟨⟨⟨⟨hc, hm⟩, ho⟩, he1⟩, he2⟩ := h
  obtain ⟨g1, g2, g3, F, g4⟩ := x.gf.mets _ hm
  rw [← dn_ok] at g2
  exact both (e := .opm f c op e1 e2 p) (e_opm (CC := (s.T.C n).toCalls) (fi := f) x.xok (x.gf.opc _ ho) g2 (x.fl.calm f F g4) spF_ok ((x.calm hc).2.1.mono (by omega)) g3 x.tk (h1 Γ X xr W x he1).1 (h2 Γ X xr W x he2).1) rfl
theorem k_prop {f c o nm p} (h1 : SE s a n o) : SE s a n (.prop f c o nm p) := fun Γ X xr W x h => by
  simp only [okE, Bool.and_eq_true, decide_eq_true_eq] at h
  obtain ⟨⟨⟨hc, hm⟩, hb⟩, ho⟩ := h
  obtain ⟨g1, ⟨pa, g2⟩, g3, F, g4⟩ := x.gf.props _ hm
  exact both (e := .prop f c o nm p) (e_prop (CC := (s.T.C n).toCalls) (fi := f) x.xok g1 g2 (x.fl.calm f F g4) spF_ok ((x.calm hc).2.1.mono (by omega)) g3 (L2N.passes_call (takes0 (X := X.nox)) fun _ _ _ _ z => z.elim) (base_ok o nm _ hb) (h1 Γ X xr W x ho).1) rfl
theorem c_ok (m : Bool) (hu : X.A.units + 64 < cLine) (op : Cop) : ∃ r, OpR X (compareOp op.o) r ∧ ∀ w S x y u v E Q, SR X.K w S → Rel X.K w x u → Rel X.K w y v → Hop X.K (Rel X.K) E w Q (cmpR op x y S) → r u v w.H Q := by
  cases op with
  | lt => exact ⟨_, op_lt, cmp_int (X := X) (op := .lt) (g := fun i j => decide (i < j)) (fun x y S h => cmpR_n .lt (fun z => nomatch z) (fun z => nomatch z) x y S h) (fun _ _ _ => rfl)⟩
  | le => exact ⟨_, op_le, cmp_int (X := X) (op := .le) (g := fun i j => decide (i ≤ j)) (fun x y S h => cmpR_n .le (fun z => nomatch z) (fun z => nomatch z) x y S h) (fun _ _ _ => rfl)⟩
  | gt => exact ⟨_, op_gt, cmp_int (X := X) (op := .gt) (g := fun i j => decide (j < i)) (fun x y S h => cmpR_n .gt (fun z => nomatch z) (fun z => nomatch z) x y S h) (fun _ _ _ => rfl)⟩
  | ge => exact ⟨_, op_ge, cmp_int (X := X) (op := .ge) (g := fun i j => decide (j ≤ i)) (fun x y S h => cmpR_n .ge (fun z => nomatch z) (fun z => nomatch z) x y S h) (fun _ _ _ => rfl)⟩
  | eq => exact ⟨_, op_eqAny hu, cmpeq_ok⟩
  | ne => exact ⟨_, op_neAny hu, cmpne_ok⟩
theorem k_chain {op op2 e1 e2 e3 p} (h1 : SE s a n e1) (h2 : SE s a n e2) (h3 : SE s a n e3) : SE s a n (.chain op op2 e1 e2 e3 p) := fun Γ X xr W x h => by
  simp only [okE, Bool.and_eq_true] at h
  obtain ⟨r, ho, hr⟩ := c_ok (X := X) true x.units op
  obtain ⟨r2, ho2, hr2⟩ := c_ok (X := X) true x.units op2
  have q := e_chain (pos := p) (f := fun x y => cmpR op x y) (g := fun x y => cmpR op2 x y) x.xok ho ho2 (last_ok op op2 e2 e3) hr hr2 (h1 Γ X xr W x h.1.1).1 (h2 Γ X xr W x h.1.2).1 (h3 Γ X xr W x h.2).1
  exact ⟨q.1, fun _ => q.2⟩
theorem k_inn {b e1 e2 p} (h1 : SE s a n e1) (h2 : SE s a n e2) : SE s a n (.inn b e1 e2 p) := fun Γ X xr W x h => by
  simp only [okE, Bool.and_eq_true] at h
  have a1 := (h1 Γ X xr W x h.1).1
  have a2 := (h2 Γ X xr W x h.2).1
  cases b with
  | true => exact ⟨e_cmp2 x.xok op_notIn_seq (by cases e2 <;> rfl) (inR_ok true) a1 a2, fun _ => t_cmp2 x.xok op_notIn_seq (by cases e2 <;> rfl) (inR_ok true) a1 a2⟩
  | false => exact ⟨e_cmp2 x.xok op_in_seq (by cases e2 <;> rfl) (inR_ok false) a1 a2, fun _ => t_cmp2 x.xok op_in_seq (by cases e2 <;> rfl) (inR_ok false) a1 a2⟩
theorem k_isC {e1 c p1 p0 p} (h1 : SE s a n e1) : SE s a n (.isC e1 c p1 p0 p) := fun Γ X xr W x h => by
  simp only [okE, Bool.and_eq_true, decide_eq_true_eq] at h
  obtain ⟨⟨⟨⟨hg, hb⟩, hgC⟩, hC⟩, ha⟩ := h
  have q := x.gf.exn _ hC
  exact both (e := .isC e1 c p1 p0 p) (e_isC (CC := (s.T.C n).toCalls) c (x.gl hg) (x.gf.blt _ hb) (x.gl hgC) q.1 q.2 (fun n' b e => x.gf.ins n' c b e) (star_e e1 _ _) rfl rfl (h1 Γ X xr W x ha).1) rfl
theorem k_isT {e1 T p1 p0 p} (h1 : SE s a n e1) : SE s a n (.isT e1 T p1 p0 p) := fun Γ X xr W x h => by
  simp only [okE, Bool.and_eq_true, decide_eq_true_eq] at h
  obtain ⟨⟨⟨⟨hg, hb⟩, hgT⟩, hbT⟩, ha⟩ := h
  exact both (e := .isT e1 T p1 p0 p) (e_isT T (x.gl hg) (x.gf.blt _ hb) (x.gl hgT) (x.gf.blt _ hbT) (star_e e1 _ _) rfl rfl (h1 Γ X xr W x ha).1) rfl
theorem k_xIs {i y c px p1 p0 p} : SE s a n (.xIs i y c px p1 p0 p) := fun Γ X xr W x h => by
  simp only [okE, Bool.and_eq_true, decide_eq_true_eq] at h
  obtain ⟨⟨⟨⟨hv, hg⟩, hb⟩, hgc⟩, hc⟩ := h
  have v := x.vis hv
  have q := x.gf.exn _ hc
  exact both (e := .xIs i y c px p1 p0 p) (x_is x.xat v.1 v.2.1 v.2.2.1 v.2.2.2 (x.gl hg) (x.gf.blt _ hb) (x.gl hgc) q.1 q.2 (fun c' b e => x.gf.sub c' c b e hc) rfl rfl rfl) rfl
theorem k_xAt {i y f px p} : SE s a n (.xAt i y f px p) := fun Γ X xr W x h => by
  simp only [okE] at h
  have v := x.vis h
  exact both (e := .xAt i y f px p) (x_at x.xat v.1 v.2.1 v.2.2.1 v.2.2.2 (fun c e => x.gf.xf c f e) rfl) rfl
theorem k_lc {m e t it cs own sc p} (h1 : SE s a n e) (h2 : SII s a n it) (h3 : SEs s a n cs) : SE s a n (.lc m e t it cs own sc p) := fun Γ X xr W x h => by
  simp only [okE, Bool.and_eq_true, decide_eq_true_eq] at h
  obtain ⟨⟨⟨⟨⟨⟨⟨⟨hc, hi⟩, hk⟩, ht⟩, ho⟩, hcs⟩, hts⟩, hl⟩, he⟩ := h
  have own_ok : BlkOk X.N X.env.scope sc own := by
    have q := blkOk_by hk
    rw [x.N]
    refine ⟨q.kind, q.uniq, q.ix, fun y hy e => ?_, q.own⟩
    rcases q.free y hy e with z | z
    · rcases x.sc _ _ z with w | w
      · exact .inl w
      · cases w.1
    · rcases x.sc _ _ z with w | w
      · exact .inr w
      · exact .inl w.2
  have B := x.blk hc sc
  exact both (e := .lc m e t it cs own sc p) (e_lc x.xok (x.calm hc).1 x.nd (h2 Γ X xr W x t hi) own_ok (fun i hi => of_decide_eq_true (List.all_eq_true.mp ho i hi)) (fun st H C cl fp => (B st H C cl fp).tg ht)
    (fun st H C cl fp => (h3 _ _ xr W0 (B st H C cl fp) hcs).ifs hts hl) (fun st H C cl fp => (h1 _ _ xr W0 (B st H C cl fp) he).1) (folded_ok it X.env)) rfl
theorem blk_of {Γ : SC} {X : Cx} {xr : XR} {W : WX} {sc : Scope} {own : List (Str × Nat)} (x : XF s a n Γ X xr W) (hk : blkC Γ.N Γ.sc sc own = true) : BlkOk X.N X.env.scope sc own := by
  have q := blkOk_by hk
  rw [x.N]
  refine ⟨q.kind, q.uniq, q.ix, fun y hy e => ?_, q.own⟩
  rcases q.free y hy e with z | z
  · rcases x.sc _ _ z with w | w
    · exact .inl w
    · cases w.1
  · rcases x.sc _ _ z with w | w
    · exact .inr w
    · exact .inl w.2
theorem e_lc2 {X : Cx} {xr : XR} {W : WX} {elt iter iter2 : Expr} {ifs ifs2 : List Expr} {sc : Scope} {own : List (Str × Nat)} {pos : Pos} {t t2 : IT} {me : MP.Env → M R} {mc mc2 : MP.Env → M Bool} {mi mi2 : MP.Env → M (List Itm × Gd)} {m : Bool} {vs2 : List Nat}
    (hx : xr.Ok) (hc : X.calm = true) (hN : X.N.Nodup) (hi : IOk X xr W t.e iter mi) (ok : BlkOk X.N X.env.scope sc own) (hown : ∀ i ∈ t.ix, i ∈ own.map (·.2)) (hown2 : ∀ i ∈ t2.ix, i ∈ vs2) (hv : ∀ i ∈ vs2, i ∈ own.map (·.2)) (hg : Blks X sc fun Y => ITOk Y t) (hg2 : Blks X sc fun Y => ITOk Y t2)
    (ht : Blks X sc fun Y => TsOk Y xr W0 ifs mc) (ht2 : Blks X sc fun Y => TsOk Y xr W0 ifs2 mc2) (hi2 : Blks X sc fun Y => IOk Y xr W0 t2.e iter2 mi2) (he : Blks X sc fun Y => EOk Y xr W0 elt me) (hs : ∀ x, foldedSetIterable iter X.env x = pure x) (hs2 : ∀ env x, foldedSetIterable iter2 env x = pure x) :
    EOk X xr W (.ListComp elt [⟨t.e, iter, ifs, 0⟩, ⟨t2.e, iter2, ifs2, 0⟩] sc pos) (fun ρ => M.bind (mi ρ) fun q => M.bind (lcLoop q.2 (lcTurn t q.2 mc (fun ρ' => M.bind (mi2 ρ') fun q2 =>
      lcLoop q2.2 (lcTurn t2 q2.2 mc2 (fun ρ2 => M.bind (me ρ2) fun r => M.pure [r]) (wipeE ρ' vs2)) q2.1) (wipeE ρ (own.map (·.2)))) q.1) (lcOut m)) :=
  ⟨_, pe_lc2 (tt := rdT X.K xr W0 mc) (tt1 := rdT X.K xr W0 mc2) (wi1 := rdI X.K xr W0 mi2) (te := rdE X.K xr W0 me) hc hN hi.rd ok hv (fun s H C cl fp => pg_T (X := X.blk s H sc (compEnvC sc cl C X.env) fp) hN t (hg s H C cl fp)) (fun s H C cl fp => ht s H C cl fp)
    (fun s H C cl fp => (hi2 s H C cl fp).rd) (fun s H C cl fp => pg_T (X := X.blk s H sc (compEnvC sc cl C X.env) fp) hN t2 (hg2 s H C cl fp)) (fun s H C cl fp => ht2 s H C cl fp) (fun s H C cl fp => (he s H C cl fp).rd) hs hs2, lc2_rd hx hown hown2⟩
theorem k_lc2 {m e t it cs t2 it2 cs2 own vs2 sc p} (h1 : SE s a n e) (h2 : SII s a n it) (h3 : SEs s a n cs) (h4 : SII s a n it2) (h5 : SEs s a n cs2) : SE s a n (.lc2 m e t it cs t2 it2 cs2 own vs2 sc p) := fun Γ X xr W x h => by
  simp only [okE, Bool.and_eq_true, decide_eq_true_eq] at h
  obtain ⟨⟨⟨⟨⟨⟨⟨⟨⟨⟨⟨⟨⟨⟨⟨hc, hi⟩, hk⟩, ht⟩, ho⟩, hcs⟩, hts⟩, hl⟩, hi2⟩, ht2⟩, ho2⟩, hv⟩, hcs2⟩, hts2⟩, hl2⟩, he⟩ := h
  have B := x.blk hc sc
  exact both (e := .lc2 m e t it cs t2 it2 cs2 own vs2 sc p) (e_lc2 x.xok (x.calm hc).1 x.nd (h2 Γ X xr W x t hi) (blk_of x hk) (fun i hi => of_decide_eq_true (List.all_eq_true.mp ho i hi)) (fun i hi => of_decide_eq_true (List.all_eq_true.mp ho2 i hi)) (fun i hi => of_decide_eq_true (List.all_eq_true.mp hv i hi))
    (fun st H C cl fp => (B st H C cl fp).tg ht) (fun st H C cl fp => (B st H C cl fp).tg ht2)
    (fun st H C cl fp => (h3 _ _ xr W0 (B st H C cl fp) hcs).ifs hts hl) (fun st H C cl fp => (h5 _ _ xr W0 (B st H C cl fp) hcs2).ifs hts2 hl2) (fun st H C cl fp => h4 _ _ xr W0 (B st H C cl fp) t2 hi2) (fun st H C cl fp => (h1 _ _ xr W0 (B st H C cl fp) he).1) (folded_ok it X.env) (fun env => folded_ok it2 env)) rfl
theorem t_tup {t : IT} (h : t.many? = true) : ∃ elts kk tp, t.e = .Tuple elts kk tp := by
  cases t with
  | one => cases h
  | many l k p => exact ⟨_, _, _, rfl⟩
theorem k_of {e} (h1 : SE s a n e) : SII s a n (.of e) := fun Γ X xr W x t h => by
  simp only [okII] at h
  exact i_of (h1 Γ X xr W x h).1
theorem k_rng1 {e p0 p} (h1 : SE s a n e) : SII s a n (.rng1 e p0 p) := fun Γ X xr W x t h => by
  simp only [okII, Bool.and_eq_true, decide_eq_true_eq] at h
  exact i_rng1 (x.gl h.1.1) (x.gf.blt _ h.1.2) (star_e e _ _) (h1 Γ X xr W x h.2).1
theorem k_rng2 {e e2 p0 p} (h1 : SE s a n e) (h2 : SE s a n e2) : SII s a n (.rng2 e e2 p0 p) := fun Γ X xr W x t h => by
  simp only [okII, Bool.and_eq_true, decide_eq_true_eq] at h
  exact i_rng2 x.xok (x.gl h.1.1.1) (x.gf.blt _ h.1.1.2) (star_e e _ _) (star_e e2 _ _) rfl (h1 Γ X xr W x h.1.2).1 (h2 Γ X xr W x h.2).1
theorem k_enum {e p0 p} (h1 : SE s a n e) : SII s a n (.enum e p0 p) := fun Γ X xr W x t h => by
  simp only [okII, Bool.and_eq_true, decide_eq_true_eq] at h
  obtain ⟨l, k, tp, et⟩ := t_tup h.1.1.1
  rw [et]
  exact i_enum (x.gl h.1.1.2) (x.gf.blt _ h.1.2) (star_e e _ _) (h1 Γ X xr W x h.2).1
theorem k_zip {e e2 p0 p} (h1 : SE s a n e) (h2 : SE s a n e2) : SII s a n (.zip e e2 p0 p) := fun Γ X xr W x t h => by
  simp only [okII, Bool.and_eq_true, decide_eq_true_eq] at h
  obtain ⟨l, k, tp, et⟩ := t_tup h.1.1.1.1
  rw [et]
  exact i_zip x.xok (x.gl h.1.1.1.2) (x.gf.blt _ h.1.1.2) (star_e e _ _) (star_e e2 _ _) (plain_es p _ (.cons e2 .nil)) (h1 Γ X xr W x h.1.2).1 (h2 Γ X xr W x h.2).1
theorem k_no {e} (h : ∀ Γ, okE s Γ e = false) : SE s a n e := fun Γ X xr W x q => by
  rw [h] at q
  cases q
theorem k_noI {it} (h : ∀ Γ m, okII s Γ m it = false) : SII s a n it := fun Γ X xr W x t q => by
  rw [h] at q
  cases q
end
mutual
theorem sE (s : ST) (a : FA) (n : Nat) : ∀ e : IE, SE s a n e
  | .var _ _ _ => k_var
  | .int _ _ _ => k_int
  | .bl _ _ _ => k_bl
  | .non _ _ => k_non
  | .str _ _ _ => k_str
  | .gint _ _ _ => k_gint
  | .bin _ _ e1 e2 _ => k_bin (sE s a n e1) (sE s a n e2)
  | .neg e1 _ => k_neg (sE s a n e1)
  | .cmp _ e1 e2 _ => k_cmp (sE s a n e1) (sE s a n e2)
  | .isN _ e1 _ _ _ => k_isN (sE s a n e1)
  | .not e1 _ => k_not (sE s a n e1)
  | .and e1 r _ => k_and (sE s a n e1) (sEs s a n r)
  | .or e1 r _ => k_or (sE s a n e1) (sEs s a n r)
  | .ifx c e1 e2 _ => k_ifx (sE s a n c) (sE s a n e1) (sE s a n e2)
  | .lst _ es _ => k_lst (sEs s a n es)
  | .tup es _ _ => k_tup (sEs s a n es)
  | .ix e1 e2 _ => k_ix (sE s a n e1) (sE s a n e2)
  | .sl _ e1 lo hi _ _ => k_sl (sE s a n e1) (sEs s a n lo) (sEs s a n hi)
  | .attr e1 _ _ _ => k_attr (sE s a n e1)
  | .call _ _ e1 es _ _ => k_call (sE s a n e1) (sEs s a n es)
  | .callK _ _ e1 es kw _ _ _ => k_callK (sE s a n e1) (sEs s a n es) (sKs s a n kw)
  | .callKK _ _ kw _ _ _ => k_callKK (sKs s a n kw)
  | .bi _ _ e1 es _ _ => k_bi (sE s a n e1) (sEs s a n es)
  | .gcd _ e1 e2 _ _ => k_gcd (sE s a n e1) (sE s a n e2)
  | .make _ _ _ e1 es _ _ => k_make (sE s a n e1) (sEs s a n es)
  | .meth _ _ o _ es _ _ => k_meth (sE s a n o) (sEs s a n es)
  | .callD _ _ e1 es _ _ _ => k_callD (sE s a n e1) (sEs s a n es)
  | .makeD _ _ _ e1 es _ _ _ => k_makeD (sE s a n e1) (sEs s a n es)
  | .opm _ _ _ e1 e2 _ => k_opm (sE s a n e1) (sE s a n e2)
  | .prop _ _ o _ _ => k_prop (sE s a n o)
  | .chain _ _ e1 e2 e3 _ => k_chain (sE s a n e1) (sE s a n e2) (sE s a n e3)
  | .inn _ e1 e2 _ => k_inn (sE s a n e1) (sE s a n e2)
  | .lmeth o _ es _ _ => k_lmeth (sE s a n o) (sEs s a n es)
  | .isT e1 _ _ _ _ => k_isT (sE s a n e1)
  | .isC e1 _ _ _ _ => k_isC (sE s a n e1)
  | .xIs _ _ _ _ _ _ _ => k_xIs
  | .xAt _ _ _ _ _ => k_xAt
  | .lc _ e _ it cs _ _ _ => k_lc (sE s a n e) (sII s a n it) (sEs s a n cs)
  | .lc2 _ e _ it cs _ it2 cs2 _ _ _ _ => k_lc2 (sE s a n e) (sII s a n it) (sEs s a n cs) (sII s a n it2) (sEs s a n cs2)
theorem sEs (s : ST) (a : FA) (n : Nat) : ∀ es : IEs, SEs s a n es
  | .nil => fun _ _ _ _ _ _ => c_nil
  | .cons e r => fun Γ X xr W x h => by
    have h : (okE s Γ e && okEs s Γ r) = true := by simpa only [okEs] using h
    rw [Bool.and_eq_true] at h
    exact c_cons x (sE s a n e Γ X xr W x h.1) (sEs s a n r Γ X xr W x h.2)
theorem sKs (s : ST) (a : FA) (n : Nat) : ∀ es : IKs, SKs s a n es
  | .nil => fun _ _ _ _ _ _ => k_nil
  | .cons _ e _ r => fun Γ X xr W x h => by
    have h : (okE s Γ e && okKs s Γ r) = true := by simpa only [okKs] using h
    rw [Bool.and_eq_true] at h
    exact k_cons x.xok (sE s a n e Γ X xr W x h.1).1 (sKs s a n r Γ X xr W x h.2)
theorem sII (s : ST) (a : FA) (n : Nat) : ∀ it : II, SII s a n it
  | .of e => k_of (sE s a n e)
  | .rng1 e _ _ => k_rng1 (sE s a n e)
  | .rng2 e e2 _ _ => k_rng2 (sE s a n e) (sE s a n e2)
  | .enum e _ _ => k_enum (sE s a n e)
  | .zip e e2 _ _ => k_zip (sE s a n e) (sE s a n e2)
  | .zip3 _ _ _ _ _ => k_noI fun _ _ => by simp only [okII]
end
end MP
set_option Elab.async false
set_option linter.all false
set_option maxRecDepth 100000
set_option maxHeartbeats 4000000
/-! MPSound3: statements are sound. -/
namespace MP
open PySem PySem.Spec PyProof.Rows L2
def swB (Γ : SC) (x : Str) (px p : Pos) (sc : Scope) : Bool := (Γ.sc.names.lookup x == some .local) && (px.line == p.line) && !(sc.names.any fun (n, k) => n == x && (k == .local || k == .cell))
def isTupE : IE → Bool
  | .tup _ _ _ => true
  | _ => false
def ISs.isNil : ISs → Bool
  | .nil => true
  | _ => false
def IEs.isNil : IEs → Bool
  | .nil => true
  | _ => false
mutual
def okS (s : ST) (Γ : SC) : IS → Bool
  | .asg t e _ => okT Γ t && okE s Γ e && (match t with
    | .one _ _ _ => true
    | .many _ _ _ => !isTupE e)
  | .aug i x op e _ _ => okV Γ i x && okN Γ i x && okE s Γ e && (match op with
    | .add => true
    | .sub => true
    | _ => false)
  | .setIx a i e _ _ => okE s Γ a && okE s Γ i && okE s Γ e
  | .setAt o c f e _ _ => okE s Γ o && okE s Γ e && decide ((c, f) ∈ s.attrs)
  | .expr e _ => okE s Γ e && noLc e
  | .ret e _ => okE s Γ e
  | .ite c a b _ => okE s Γ c && okTst c && okSs s Γ a && okSs s Γ b
  | .for_ t it b _ => Γ.calm && okT Γ t && okII s Γ t.many? it && okSs s Γ b
  | .while_ c b _ => Γ.calm && okE s Γ c && okTst c && okSs s Γ b
  | .raise c _ a _ _ _ => (match s.T.xc c with
    | none => true
    | some X => Γ.calm && okG Γ c && okEs s Γ a && !a.isNil && s.xcs.any fun q => decide (q.1 = c) && decide (X.fs = q.2))
  | .pass _ => true
  | .brk _ => true
  | .cont _ => true
  | .try1 b c i n sss _ _ _ _ => Γ.calm && okSs s Γ b && okG Γ c && decide (c ∈ s.exn) && decide (Γ.N[i]? = some n) && decide (Γ.sc.names.lookup n = some .local) && !sss.isNil && okSs s ⟨Γ.N, Γ.sc, false⟩ sss
def okSs (s : ST) (Γ : SC) : ISs → Bool
  | .nil => true
  | .cons t r => okS s Γ t && okSs s Γ r
end
structure XS (s : ST) (a : FA) (n : Nat) (Γ : SC) (X : Cx) (xr : XR) (W : WX) : Prop extends XF s a n Γ X xr W where
  env : X.env.scope = Γ.sc
  knd : X.env.scope.kind = .function
  po : Γ.calm = true → PassesOwn (model X.prog X.w) X.A X.env X.xe
  stk : X.stack = X.env :: X.outer
  frm : X.env.frame = some X.env.locals
abbrev SS (s : ST) (a : FA) (n : Nat) (st : IS) : Prop := ∀ (Γ : SC) (X : Cx) (xr : XR) (W : WX), XS s a n Γ X xr W → okS s Γ st = true → SOk X xr W st.s (evS (s.T.C n) st)
abbrev SSs (s : ST) (a : FA) (n : Nat) (st : ISs) : Prop := ∀ (Γ : SC) (X : Cx) (xr : XR) (W : WX), XS s a n Γ X xr W → okSs s Γ st = true → SsOk X xr W st.ss (evSs (s.T.C n) st)
theorem swap_other (e : IE) (line : Nat) (env : PySem.Env) (t : Expr) (h : ∀ x p, t ≠ .Name x p) : swapsWith e.e (some t) line env = pure false := by
  cases e <;> first | rfl | (cases t <;> first | rfl | exact absurd rfl (h _ _))
theorem swap_many (e : IE) (env : PySem.Env) (ts : List Expr) (k : Nat) (p : Pos) (h : isTupE e = false) : swappedStores [.Tuple ts k p] e.e env = pure none := by
  cases e <;> first | rfl | cases h
theorem asg_sub (o i : IE) (ps : Pos) (env : PySem.Env) : ∀ v, assign (.Subscript o.e i.e ps) env v = (do
      let ov ← holding [v] (eval o.e env)
      let iv ← holding [v, ov] (eval i.e env)
      standAt ps
      holding [v, ov, iv] (setItem ov iv v)
      release [v, ov, iv] []) := by
  cases i <;> intro v <;> rfl
section
variable {s : ST} {a : FA} {n : Nat}
theorem swap_name {Γ : SC} {X : Cx} {xr : XR} {W : WX} (x : XS s a n Γ X xr W) {elt : Expr} {gs : List Comprehension} {sc : Scope} {p px : Pos} {y : Str} {line : Nat} : swapsWith (.ListComp elt gs sc p) (some (.Name y px)) line X.env = pure (swB Γ y px p sc) := by
  have bk : X.env.blockKind = .function := by
    unfold Env.blockKind
    rw [x.knd]
    rfl
  have kd : X.env.kindOf y = Γ.sc.names.lookup y := by
    unfold Env.kindOf
    rw [x.env]
  show (pure (X.env.blockKind == .function && X.env.kindOf y == some .local && px.line == p.line && !(sc.names.any fun (n, k) => n == y && (k == .local || k == .cell))) : Sem Bool) = _
  rw [bk, kd]
  unfold swB
  rfl
theorem sw_loc {Γ : SC} {X : Cx} {xr : XR} {W : WX} (x : XS s a n Γ X xr W) {sc : Scope} {p px : Pos} {y : Str} (h : swB Γ y px p sc = true) : X.env.scope.names.lookup y = some .local := by
  unfold swB at h
  rw [Bool.and_eq_true, Bool.and_eq_true] at h
  rw [x.env]
  exact eq_of_beq h.1.1
theorem z_asg {t e p} : SS s a n (.asg t e p) := fun Γ X xr W x h => by
  simp only [okS, Bool.and_eq_true] at h
  obtain ⟨⟨ht, he⟩, hm⟩ := h
  have q := (sE s a n e Γ X xr W x.toXF he).1
  have ito := x.toXF.tg ht
  cases t with
  | many l k pt =>
    obtain ⟨te, pe, qe⟩ := q
    have hm' : isTupE e = false := by simpa using hm
    exact s_set (t := .many l k pt) x.xok (ps_asg pe (pg_T x.nd (.many l k pt) ito) (swap_other e p.line X.env (.Tuple (l.map fun q => .Name q.2.1 q.2.2) k pt) (fun _ _ z => nomatch z)) (swap_many e _ _ _ _ hm') rfl) qe
  | one i y pt =>
    have viaSet : swapsWith e.e (some (.Name y pt)) p.line X.env = pure false → SOk X xr W (IS.asg (.one i y pt) e p).s (evS (s.T.C n) (.asg (.one i y pt) e p)) := fun hs => by
      obtain ⟨te, pe, qe⟩ := q
      exact s_set (t := .one i y pt) x.xok (ps_set x.nd ito.1 ito.2.1 pe hs ito.2.2) qe
    by_cases hl : noLc e = true
    · exact viaSet (swap_ok e _ _ _ hl)
    · cases e with
      | lc m e t it cs own sc pl =>
        cases hb : swB Γ y pt pl sc with
        | false => exact viaSet (by rw [← hb]; exact swap_name x)
        | true =>
          simp only [okE, Bool.and_eq_true, decide_eq_true_eq] at he
          obtain ⟨⟨⟨⟨⟨⟨⟨⟨hc, hi⟩, hk⟩, ht⟩, ho⟩, hcs⟩, hts⟩, hln⟩, he⟩ := he
          have B := x.toXF.blk hc sc
          exact s_set (t := .one i y pt) x.xok (ps_setLc (tt := rdT X.K xr W0 (fun ρ' => evTs (s.T.C n).toCalls cs ρ')) (te := rdE X.K xr W0 (evE (s.T.C n).toCalls e)) (x.calm hc).1 x.nd ito.1 (sw_loc x hb) (by rw [← hb]; exact swap_name x) (sII s a n it Γ X xr W x.toXF t hi).rd (blk_of x.toXF hk)
            (fun st H C cl fp => pg_T (X := X.blk st H sc (compEnvC sc cl C X.env) fp) x.nd t ((B st H C cl fp).tg ht)) (fun st H C cl fp => (sEs s a n cs _ _ xr W0 (B st H C cl fp) hcs).ifs hts hln) (fun st H C cl fp => (sE s a n e _ _ xr W0 (B st H C cl fp) he).1.rd) (folded_ok it X.env))
            (lc_rd (m := m) x.xok (fun i hi => of_decide_eq_true (List.all_eq_true.mp ho i hi)))
      | lc2 m e t it cs t2 it2 cs2 own vs2 sc pl =>
        cases hb : swB Γ y pt pl sc with
        | false => exact viaSet (by rw [← hb]; exact swap_name x)
        | true =>
          simp only [okE, Bool.and_eq_true, decide_eq_true_eq] at he
          obtain ⟨⟨⟨⟨⟨⟨⟨⟨⟨⟨⟨⟨⟨⟨⟨hc, hi⟩, hk⟩, ht⟩, ho⟩, hcs⟩, hts⟩, hl⟩, hi2⟩, ht2⟩, ho2⟩, hv⟩, hcs2⟩, hts2⟩, hl2⟩, he⟩ := he
          have B := x.toXF.blk hc sc
          exact s_set (t := .one i y pt) x.xok (ps_setLc2 (tt := rdT X.K xr W0 (fun ρ' => evTs (s.T.C n).toCalls cs ρ')) (tt1 := rdT X.K xr W0 (fun ρ' => evTs (s.T.C n).toCalls cs2 ρ')) (wi1 := rdI X.K xr W0 (evII (s.T.C n).toCalls it2)) (te := rdE X.K xr W0 (evE (s.T.C n).toCalls e)) (x.calm hc).1 x.nd ito.1 (sw_loc x hb) (by rw [← hb]; exact swap_name x) (sII s a n it Γ X xr W x.toXF t hi).rd (blk_of x.toXF hk) (fun i hi => of_decide_eq_true (List.all_eq_true.mp hv i hi))
            (fun st H C cl fp => pg_T (X := X.blk st H sc (compEnvC sc cl C X.env) fp) x.nd t ((B st H C cl fp).tg ht)) (fun st H C cl fp => (sEs s a n cs _ _ xr W0 (B st H C cl fp) hcs).ifs hts hl)
            (fun st H C cl fp => (sII s a n it2 _ _ xr W0 (B st H C cl fp) t2 hi2).rd) (fun st H C cl fp => pg_T (X := X.blk st H sc (compEnvC sc cl C X.env) fp) x.nd t2 ((B st H C cl fp).tg ht2)) (fun st H C cl fp => (sEs s a n cs2 _ _ xr W0 (B st H C cl fp) hcs2).ifs hts2 hl2)
            (fun st H C cl fp => (sE s a n e _ _ xr W0 (B st H C cl fp) he).1.rd) (folded_ok it X.env) (fun env => folded_ok it2 env))
            (lc2_rd (m := m) x.xok (fun i hi => of_decide_eq_true (List.all_eq_true.mp ho i hi)) (fun i hi => of_decide_eq_true (List.all_eq_true.mp ho2 i hi)))
      | _ => exact absurd rfl hl
theorem z_aug {i y op e px p} : SS s a n (.aug i y op e px p) := fun Γ X xr W x h => by
  simp only [okS, Bool.and_eq_true] at h
  obtain ⟨⟨⟨hv, hn⟩, he⟩, ho⟩ := h
  have nm := x.toXF.nm hn
  obtain ⟨te, pe, qe⟩ := (sE s a n e Γ X xr W x.toXF he).1
  have key : ∀ (f : Int → Int → Int) (hf : ∀ i j, binR false op (.dat (.int i)) (.dat (.int j)) = M.pure (.dat (.int (f i j)))), ∀ σ w S ρ D, EnvR X.K xr w σ ρ → SR X.K w S → HopS X.K xr W w D (evS (s.T.C n) (.aug i y op e px p) ρ S) → tAug i te (ipI f) D σ w.H := by
    intro f hf σ w S ρ D er sr h
    have h : HopS X.K xr W w D (SRes.of ρ ((M.bind (getV ρ i) fun x => M.bind (evE (s.T.C n).toCalls e ρ) fun y => match x, y with
      | .dat (.int _), .dat (.int _) => binR false op x y
      | _, _ => M.stuck) S) fun r S1 => .go .next (ρ.set i (some r)) S1) := h
    cases ei : ρ[i]? with
    | none =>
      have z : getV ρ i = M.stuck := by unfold getV; rw [ei]
      rw [z] at h
      exact h.elim
    | some o =>
      cases o with
      | none =>
        have z : getV ρ i = M.stuck := by unfold getV; rw [ei]
        rw [z] at h
        exact h.elim
      | some r =>
        obtain ⟨v, h1, h2⟩ := er.get i r ei
        refine ⟨v, h1, ?_⟩
        have h3 : Hop X.K (Rel X.K) (WE W σ) w (fun z H2 => D.nx (σ.set i (some z)) H2) ((M.bind (getV ρ i) fun x => M.bind (evE (s.T.C n).toCalls e ρ) fun y => match x, y with
          | .dat (.int _), .dat (.int _) => binR false op x y
          | _, _ => M.stuck) S) := hopS_of x.xok er h fun w1 a b S1 e1 s1 rr h4 => h4 w1 _ (Ext.refl _) s1 ((er.ext x.xok e1).set rr.toX)
        cases r with
        | exc c ns l =>
          have z : getV ρ i = M.stuck := by unfold getV; rw [ei]
          rw [z] at h3
          exact h3.elim
        | own k =>
          have z : getV ρ i = M.pure (.own k) := by unfold getV; rw [ei]
          rw [z, pure_bind] at h3
          refine qe σ w S ρ _ er sr (h3.bind fun w1 b bv S1 e1 s1 rb h4 => ?_)
          exact h4.elim
        | dat d =>
          have z : getV ρ i = M.pure (.dat d) := by unfold getV; rw [ei]
          rw [z, pure_bind] at h3
          refine qe σ w S ρ _ er sr (h3.bind fun w1 b bv S1 e1 s1 rb h4 => ?_)
          cases d with
          | int j =>
            cases b with
            | own k => exact h4.elim
            | exc c ns l => exact h4.elim
            | dat d2 =>
              cases d2 with
              | int j2 =>
                dsimp only at h4
                rw [hf] at h4
                exact ⟨j, j2, h2, rb, h4 w1 _ (Ext.refl _) s1 rfl⟩
              | _ => exact h4.elim
          | _ => exact h4.elim
  cases op with
  | add => exact ⟨_, ps_aug x.nd nm.1 nm.2.1 pe ip_add nm.2.2, key _ fun _ _ => rfl⟩
  | sub => exact ⟨_, ps_aug x.nd nm.1 nm.2.1 pe ip_sub nm.2.2, key _ fun _ _ => rfl⟩
  | _ => cases ho
theorem z_setIx {o i e ps p} : SS s a n (.setIx o i e ps p) := fun Γ X xr W x h => by
  simp only [okS, Bool.and_eq_true] at h
  exact s_setIx x.xok (swap_other e _ _ _ (fun _ _ z => nomatch z)) (asg_sub o i ps _) (sE s a n e Γ X xr W x.toXF h.2).1 (sE s a n o Γ X xr W x.toXF h.1.1).1 (sE s a n i Γ X xr W x.toXF h.1.2).1
theorem z_setAt {o c f e ps p} : SS s a n (.setAt o c f e ps p) := fun Γ X xr W x h => by
  simp only [okS, Bool.and_eq_true, decide_eq_true_eq] at h
  have q := x.gf.attrs _ h.2
  exact s_setAt x.xok q.1 q.2 (swap_other e _ _ _ (fun _ _ z => nomatch z)) (sE s a n e Γ X xr W x.toXF h.1.2).1 (sE s a n o Γ X xr W x.toXF h.1.1).1
theorem z_expr {e p} : SS s a n (.expr e p) := fun Γ X xr W x h => by
  simp only [okS, Bool.and_eq_true] at h
  exact s_expr x.xok (swap_ok e _ _ _ h.2) (sE s a n e Γ X xr W x.toXF h.1).1
theorem z_ret {e p} : SS s a n (.ret e p) := fun Γ X xr W x h => by
  simp only [okS] at h
  exact s_ret x.xok (sE s a n e Γ X xr W x.toXF h).1
theorem z_ite {c b1 b2 p} (h1 : SSs s a n b1) (h2 : SSs s a n b2) : SS s a n (.ite c b1 b2 p) := fun Γ X xr W x h => by
  simp only [okS, Bool.and_eq_true] at h
  exact s_if x.xok ((sE s a n c Γ X xr W x.toXF h.1.1.1).2 h.1.1.2) (h1 Γ X xr W x h.1.2) (h2 Γ X xr W x h.2)
theorem z_for {t it b p} (h1 : SSs s a n b) : SS s a n (.for_ t it b p) := fun Γ X xr W x h => by
  simp only [okS, Bool.and_eq_true] at h
  obtain ⟨⟨⟨hc, ht⟩, hi⟩, hb⟩ := h
  exact s_for x.xok (x.po hc) (x.calm hc).1 x.nd (x.toXF.tg ht) (folded_ok it X.env) (sII s a n it Γ X xr W x.toXF t hi) (h1 Γ X xr W x hb)
theorem z_while {c b p} (h1 : SSs s a n b) : SS s a n (.while_ c b p) := fun Γ X xr W x h => by
  simp only [okS, Bool.and_eq_true] at h
  obtain ⟨⟨⟨hc, he⟩, ht⟩, hb⟩ := h
  exact s_while x.xok (x.po hc) ((sE s a n c Γ X xr W x.toXF he).2 ht) (h1 Γ X xr W x hb)
theorem z_brk {p} : SS s a n (.brk p) := fun Γ X xr W x h => s_brk
theorem z_cont {p} : SS s a n (.cont p) := fun Γ X xr W x h => s_cont
theorem z_pass {p} : SS s a n (.pass p) := fun Γ X xr W x h => s_pass
theorem z_raise {c f es pn pc p} : SS s a n (.raise c f es pn pc p) := fun Γ X xr W x h => by
  simp only [okS] at h
  cases ex : s.T.xc c with
  | none =>
    refine ⟨_, ps_never, fun σ w S ρ D er sr h => ?_⟩
    have h : HopS X.K xr W w D (match s.T.xc c with
      | none => .stuck
      | some _ => SRes.of ρ ((M.bind (evEs (s.T.C n).toCalls es ρ) fun rs => raiseR (s.T.C n) c rs) S) fun _ _ => .stuck) := h
    rw [ex] at h
    exact h
  | some Y =>
    simp only [ex, Bool.and_eq_true] at h
    obtain ⟨⟨⟨⟨hc, hg⟩, hes⟩, hn⟩, hx⟩ := h
    obtain ⟨q, hq, hq2⟩ := List.any_eq_true.mp hx
    rw [Bool.and_eq_true] at hq2
    have e1 := of_decide_eq_true hq2.1
    have e2 := of_decide_eq_true hq2.2
    obtain ⟨c', fs⟩ := q
    dsimp only at e1 e2
    subst e1
    obtain ⟨fI, fd, ps, T, iC, tI, hne, hl, F1, hb, hm, hd⟩ := x.gf.xcs _ hq
    cases es with
    | nil => cases hn
    | cons e r =>
      have hxc : (s.T.C n).xc c' = some ⟨fs⟩ := by
        show s.T.xc c' = _
        rw [ex, ← e2]
      have ev : evS (s.T.C n) (.raise c' f (.cons e r) pn pc p) = fun ρ S => SRes.of ρ ((M.bind (evEs (s.T.C n).toCalls (.cons e r) ρ) fun rs => raiseR (s.T.C n) c' rs) S) fun _ _ => .stuck := by
        funext ρ S
        show (match (s.T.C n).xc c' with
          | none => SRes.stuck
          | some _ => SRes.of ρ ((M.bind (evEs (s.T.C n).toCalls (.cons e r) ρ) fun rs => raiseR (s.T.C n) c' rs) S) fun _ _ => .stuck) = _
        rw [hxc]
      rw [ev]
      exact s_raise (fs := fs) x.xok (x.calm hc).1 x.tk hxc (fun ta pa => pmk_flds T iC tI hne hl F1 ((x.calm hc).2.1.mono (by omega)) hb (L2N.passes_call x.tk fun _ _ _ _ z => z.elim) (x.toXF.gl hg) hm pa hd (star_e e _ _) (plain_es pc _ r)) (sEs s a n (.cons e r) Γ X xr W x.toXF hes).all
theorem z_try {b c i nm sss pc ph h p} (h1 : SSs s a n b) (h2 : SSs s a n sss) : SS s a n (.try1 b c i nm sss pc ph h p) := fun Γ X xr W x hh => by
  simp only [okS, Bool.and_eq_true, decide_eq_true_eq] at hh
  obtain ⟨⟨⟨⟨⟨⟨⟨hc, hb⟩, hg⟩, hx⟩, hN⟩, hl⟩, hn⟩, hs⟩ := hh
  have e0 := (x.calm hc).2.2
  subst e0
  have q := x.gf.exn _ hx
  cases sss with
  | nil => cases hn
  | cons s0 sr =>
    have kn : X.env.kindOf nm = some .local := by
      unfold Env.kindOf
      rw [x.env]
      exact hl
    refine s_try (b₀ := s0.s) (suite := sr.ss) (hds := h.hs) (f := evSs (s.T.C n) b) (g := evSs (s.T.C n) (.cons s0 sr)) x.stk x.frm x.nd (by rw [x.N]; exact hN) kn ⟨x.toXF.gl hg, q.2, .inl q.1⟩ x.gf.subE (fun W' pn xe tk po => ?_) fun a' oe cls d pn hz hf => ?_
    · exact h1 Γ (X.tr pn xe) xr0 W' { gf := x.gf, fl := x.fl, N := x.N, nd := x.nd, sc := x.sc, fnc := x.fnc, calm := fun _ => x.calm hc, hot := (fun z => by rw [hc] at z; cases z), tk := tk, xok := x.xok, env := x.env, knd := x.knd, po := fun _ => po, stk := x.stk, frm := x.frm } hb
    · have rm := (x.calm hc).2.1
      obtain ⟨vs, hv⟩ := hf
      obtain ⟨u, hu⟩ : ∃ u, vs[2]? = some u := ⟨.none, hz.2.2 vs hv⟩
      exact h2 ⟨Γ.N, Γ.sc, false⟩ (X.suite a' ((a', oe) :: pn)) (xrS X.K a' cls d) W0 { gf := x.gf, fl := x.fl, N := x.N, nd := x.nd, sc := x.sc, fnc := x.fnc, calm := (fun z => Bool.noConfusion z), hot := fun _ => ⟨⟨rm.dp, rm.un⟩, ⟨(a', oe), ⟨rfl, vs, hv, hz.2.2 vs hv⟩, List.mem_cons_self⟩, fun w c ns l v hxr => ⟨a', oe, d, X, pn, rfl, hxr.1, ⟨hz.1.trans hxr.2.1, hz.2.1⟩, ⟨vs, hv⟩, hxr.2.2⟩⟩, tk := takes0, xok := xrS_ok, env := x.env, knd := x.knd, po := (fun z => Bool.noConfusion z), stk := x.stk, frm := x.frm } hs
end
mutual
theorem sS (s : ST) (a : FA) (n : Nat) : ∀ st : IS, SS s a n st
  | .asg _ _ _ => z_asg
  | .aug _ _ _ _ _ _ => z_aug
  | .setIx _ _ _ _ _ => z_setIx
  | .setAt _ _ _ _ _ _ => z_setAt
  | .expr _ _ => z_expr
  | .ret _ _ => z_ret
  | .ite _ b1 b2 _ => z_ite (sSs s a n b1) (sSs s a n b2)
  | .for_ _ _ b _ => z_for (sSs s a n b)
  | .while_ _ b _ => z_while (sSs s a n b)
  | .brk _ => z_brk
  | .cont _ => z_cont
  | .raise _ _ _ _ _ _ => z_raise
  | .pass _ => z_pass
  | .try1 b _ _ _ sss _ _ _ _ => z_try (sSs s a n b) (sSs s a n sss)
theorem sSs (s : ST) (a : FA) (n : Nat) : ∀ st : ISs, SSs s a n st
  | .nil => fun _ _ _ _ _ _ => ss_nil
  | .cons t r => fun Γ X xr W x h => by
    have h : (okS s Γ t && okSs s Γ r) = true := by simpa only [okSs] using h
    rw [Bool.and_eq_true] at h
    exact ss_cons (sS s a n t Γ X xr W x h.1) (sSs s a n r Γ X xr W x h.2)
end
end MP
set_option Elab.async false
set_option linter.all false
set_option maxRecDepth 100000
set_option maxHeartbeats 4000000
/-! MPFn: the defs keep their promises. -/
namespace MP
open PySem PySem.Spec PyProof.Rows L2
theorem ExcD.keep {K : PySem.W.Frag} {w w' : Wd} {ns : List Str} {l : List D} {d : Option Addr} (x : ∀ a o, ¬ w.Live a → w.H a = some o → ¬ w'.Live a ∧ w'.H a = some o) (h : ExcD K w ns l d) : ExcD K w' ns l d := by
  rcases h with h | ⟨dd, fs, e, nl, hd, hf⟩
  · exact .inl h
  · refine .inr ⟨dd, fs, e, (x _ _ nl hd).1, (x _ _ nl hd).2, fun f y hy => ?_⟩
    obtain ⟨v, h1, h2⟩ := hf f y hy
    exact ⟨v, h1, Rep.imp x _ _ h2⟩
/-- from a body's end to a call's -/
theorem seal_ok {K : PySem.W.Frag} {xr : XR} {w : Wd} {S : Store} {E : XK} {Q : VK} (s : SR K w S) : ∀ {r : SRes}, Hop K (Rel K) E w Q (sealS S.length r) → HopS K xr (fun cls d _ H => E cls d H) w { nx := fun _ H' => Q .non H', rt := Q } r := by
  have key : ∀ (r : R) (S' : Store), Hop K (Rel K) E w Q (sealR S.length r S') → ∀ w' v, Ext w w' → SR K w' S' → Rel K w' r v → Q v w'.H := by
    intro r S' h w' v x s' rv
    unfold sealR at h
    by_cases hb : (S'.take S.length).all (Cell.below S.length) = true ∧ S.length ≤ S'.length
    · rw [if_pos hb] at h
      have l3 : S.length ≤ w'.n := by rw [s'.n]; exact hb.2
      have ln : w.n = S.length := s.n
      cases r with
      | dat d => exact h (w'.cut S.length) v (x.cut ln) (s'.cut l3 hb.1) (Rel.cut (r := .dat d) l3 rfl rv)
      | exc c ns l => exact rv.elim
      | own k =>
        dsimp only at h
        by_cases hk : k < S.length
        · rw [if_pos hk] at h
          exact h (w'.cut S.length) v (x.cut ln) (s'.cut l3 hb.1) (Rel.cut (r := .own k) l3 (decide_eq_true hk) rv)
        · rw [if_neg hk] at h
          cases ed : toD S.length S' 8 (.own k) with
          | none => rw [ed] at h; exact h.elim
          | some d =>
            rw [ed] at h
            exact h (w'.cut S.length) v (x.cut ln) (s'.cut l3 hb.1) (toD_ok s' l3 8 _ d v ed rv)
    · rw [if_neg hb] at h
      exact h.elim
  intro r h
  match r, h with
  | .go .next ρ S', h => exact fun w' σ x s' _ => key (.dat .non) S' h w' .non x s' rfl
  | .go .brk ρ S', h => exact h.elim
  | .go .cont ρ S', h => exact h.elim
  | .go (.ret r) ρ S', h => exact fun w' v x s' rv => key r S' h w' v x s' rv
  | .stuck, h => exact h.elim
  | .exc c ns l ρ S', h =>
    intro w' σ d x s' _ hd
    dsimp only [sealS] at h
    by_cases hb : (S'.take S.length).all (Cell.below S.length) = true ∧ S.length ≤ S'.length
    · rw [if_pos hb] at h
      have l3 : S.length ≤ w'.n := by rw [s'.n]; exact hb.2
      exact h (w'.cut S.length) d (x.cut s.n) (s'.cut l3 hb.1) (hd.keep (cut_keep l3))
    · rw [if_neg hb] at h
      exact h.elim
theorem start_env {K : PySem.W.Frag} {w : Wd} {F : Fn} {rs : List R} {vs : List V} (r : Rels K w rs vs) : EnvR K xr0 w (L2.start F.N vs) (MP.start F rs) := by
  have l := r.length
  refine ⟨by unfold MP.start L2.start; rw [List.length_append, List.length_append, List.length_map, List.length_map, List.length_replicate, List.length_replicate, l], fun i q h => ?_⟩
  unfold MP.start at h
  by_cases hi : i < rs.length
  · rw [List.getElem?_append_left (by simpa using hi), List.getElem?_map] at h
    cases e : rs[i]? with
    | none => rw [e] at h; cases h
    | some z =>
      rw [e] at h
      cases h
      obtain ⟨v, h1, h2⟩ := r.get e
      refine ⟨v, ?_, h2.toX⟩
      unfold L2.start
      rw [List.getElem?_append_left (by rw [List.length_map, ← l]; exact hi), List.getElem?_map, h1]
      rfl
  · rw [List.getElem?_append_right (by simpa using hi), List.getElem?_replicate] at h
    split at h <;> cases h
structure FDef (K : PySem.W.Frag) (a : FA) (f : Nat) (F : Fn) : Prop where
  fun_ : ∃ x qual params dvs kws, FunD K x qual params F.body.ss F.sc dvs kws (a.adr f) (a.fd f)
  S : FnScope F.N (a.ps f) F.sc
  np : (a.ps f).length = F.np
section
variable {P : Program} {w : World} {K : PySem.W.Frag} {mg : Str → Option Value} {base : Heap} {s : ST} {a : FA} {n f : Nat} {F : Fn}
theorem run_of (hF : s.T.fns[f]? = some F) {vs : List V} {H : Hp} {Q : VK} {E : XK} (h : spF K s.T (n + 1) f vs H Q E) : ∃ w S rs, w.H = H ∧ SR K w S ∧ Rels K w rs vs ∧ rs.length = F.np ∧ Hop K (Rel K) E w Q (sealS S.length (evSs (s.T.C n) F.body (MP.start F rs) S)) := by
  obtain ⟨w, S, rs, e, sr, rr, hh⟩ := h
  have hh : Hop K (Rel K) E w Q ((match s.T.fns[f]? with
    | some F => runF (s.T.C n) F rs
    | none => M.stuck) S) := hh
  rw [hF] at hh
  have hh : Hop K (Rel K) E w Q (if rs.length = F.np then sealS S.length (evSs (s.T.C n) F.body (MP.start F rs) S) else .stuck) := hh
  by_cases hl : rs.length = F.np
  · rw [if_pos hl] at hh
    exact ⟨w, S, rs, e, sr, rr, hl, hh⟩
  · rw [if_neg hl] at hh
    exact hh.elim
theorem spF_len (hF : s.T.fns[f]? = some F) (d : FDef K a f F) : ∀ (m : Nat) vs H Q E, spF K s.T m f vs H Q E → vs.length = (a.ps f).length := by
  intro m vs H Q E h
  cases m with
  | zero =>
    obtain ⟨_, _, _, _, _, _, hh⟩ := h
    exact hh.elim
  | succ n =>
    obtain ⟨w, S, rs, e, sr, rr, hl, hh⟩ := run_of hF h
    rw [← rr.length, hl, d.np]
/-- the facts of a def's frame -/
theorem fl_zero (hd : ∀ (f : Nat) (F : Fn), s.T.fns[f]? = some F → FDef K a f F) (hh : ∀ q ∈ s.hots, ∃ F : Fn, s.T.fns[q.1]? = some F) : FL P w K mg base s a 0 where
  calm := fun f F hF => ⟨spF_len hF (hd f F hF) 0, fun A outer st H args us vs Q E _ _ _ _ h => by
    obtain ⟨_, _, _, _, _, _, hh⟩ := h
    exact hh.elim⟩
  hot := fun q hq => by
    obtain ⟨F, hF⟩ := hh q hq
    exact ⟨spF_len hF (hd _ F hF) 0, fun A outer st H args us vs Q E p _ _ _ _ _ _ h => by
      obtain ⟨_, _, _, _, _, _, hh⟩ := h
      exact hh.elim⟩
theorem fl_succ (gf : GF P w K mg base s a) (hd : ∀ (f : Nat) (F : Fn), s.T.fns[f]? = some F → FDef K a f F) (hok : ∀ (f : Nat) (F : Fn), s.T.fns[f]? = some F → okSs s ⟨F.N, F.sc, true⟩ F.body = true)
    (hh : ∀ q ∈ s.hots, ∃ F : Fn, s.T.fns[q.1]? = some F ∧ okSs s ⟨F.N, F.sc, false⟩ F.body = true) (fl : FL P w K mg base s a n) : FL P w K mg base s a (n + 1) where
  calm := fun f F hF => by
    have d := hd f F hF
    obtain ⟨x, qual, params, dvs, kws, FD⟩ := d.fun_
    show FnOk P w K mg base (L2N.CX P w) (3 * n + 3 + 1) (a.adr f) (a.fd f) (a.ps f) (spF K s.T (n + 1) f)
    refine FD.ok d.S (spF_len hF d (n + 1)) fun cdv A outer st H vs Q E room hsp => ?_
    obtain ⟨w0, S, rs, e, sr, rr, hl, hop⟩ := run_of hF hsp
    have X := (XS.mk (s := s) (a := a) (n := n) (Γ := ⟨F.N, F.sc, true⟩) (X := cxOf (L2N.CX P w) P w K mg base F.N qual F.sc (a.adr f) cdv A outer st H E) (xr := xr0) (W := fun cls d _ H => E cls d H)
      { gf := gf, fl := fl, N := rfl, nd := d.S.nd, sc := (fun _ _ h => .inl h), fnc := (fun _ _ => rfl), calm := (fun _ => ⟨rfl, room, rfl⟩), hot := (fun z => Bool.noConfusion z), tk := L2N.takes_of rfl rfl rfl rfl, xok := xr0_ok } rfl d.S.kind (fun _ => PassesOwn.leaving) rfl rfl)
    obtain ⟨t, pt, q⟩ := sSs s a n F.body _ _ _ _ X (hok f F hF)
    refine ⟨t, pt, ?_⟩
    rw [← e]
    exact q _ w0 S (MP.start F rs) _ (start_env rr) sr (seal_ok sr hop)
  hot := fun q hq => by
    obtain ⟨F, hF, ho⟩ := hh q hq
    have d := hd q.1 F hF
    obtain ⟨x, qual, params, dvs, kws, FD⟩ := d.fun_
    obtain ⟨oc, od, dV, kV, doc, pm, an, cdv, ct, osl, efd, lk, hcd, _, _⟩ := FD.ex
    have ok : L2H.FnH P w K mg base (L2N.CX P w) (3 * n + 3 + 1) (a.adr q.1) (PySem.W.fnOf x qual params F.body.ss F.sc dV kV doc pm an cdv ct) (a.ps q.1) (spF K s.T (n + 1) q.1) := by
      refine L2H.fn_ofH (by rw [← efd]; exact lk) hcd d.S (spF_len hF d (n + 1)) fun A outer st H vs Q E p hot room hsp => ?_
      obtain ⟨w0, S, rs, e, sr, rr, hl, hop⟩ := run_of hF hsp
      have X := (XS.mk (s := s) (a := a) (n := n) (Γ := ⟨F.N, F.sc, false⟩) (X := L2H.cxH (L2N.CX P w) P w K mg base F.N qual F.sc (a.adr q.1) cdv A outer st H E p) (xr := xr0) (W := fun cls d _ H => E cls d H)
        { gf := gf, fl := fl, N := rfl, nd := d.S.nd, sc := (fun _ _ h => .inl h), fnc := (fun _ _ => rfl), calm := (fun z => Bool.noConfusion z), hot := (fun _ => ⟨room, ⟨p, hot, List.mem_cons_self⟩, fun _ _ _ _ _ z => z.elim⟩), tk := L2N.takes_of rfl rfl rfl rfl, xok := xr0_ok } rfl d.S.kind (fun z => Bool.noConfusion z) rfl rfl)
      obtain ⟨t, pt, q'⟩ := sSs s a n F.body _ _ _ _ X ho
      refine ⟨t, pt, ?_⟩
      rw [← e]
      exact q' _ w0 S (MP.start F rs) _ (start_env rr) sr (seal_ok sr hop)
    rw [efd]
    exact ok
/-- at every level -/
theorem fl_all (gf : GF P w K mg base s a) (hd : ∀ (f : Nat) (F : Fn), s.T.fns[f]? = some F → FDef K a f F) (hok : ∀ (f : Nat) (F : Fn), s.T.fns[f]? = some F → okSs s ⟨F.N, F.sc, true⟩ F.body = true)
    (hh : ∀ q ∈ s.hots, ∃ F : Fn, s.T.fns[q.1]? = some F ∧ okSs s ⟨F.N, F.sc, false⟩ F.body = true) : ∀ n, FL P w K mg base s a n
  | 0 => fl_zero hd fun q hq => let ⟨F, h, _⟩ := hh q hq; ⟨F, h⟩
  | n + 1 => fl_succ gf hd hok hh (fl_all gf hd hok hh n)
end
end MP
set_option Elab.async false
set_option linter.all false
set_option maxRecDepth 100000
set_option maxHeartbeats 4000000
/-! MPHead: the facts that the head hands over. -/
namespace MP
open PySem PySem.Spec PyProof.Rows L2 He
/-- tables: the defs, known answers of isinstance, fields that may be read of an exception, exceptions with fields -/
def mkTab (fns : List Fn) (subs : List ((Str × Str) × Bool)) (xfs : List (Str × Str)) (xcs : List (Str × List (Str × Bool))) (inss : List ((Str × Str) × Bool)) : Tab where
  fns := fns
  sub := fun c' c => subs.lookup (c', c)
  xf := fun c f => decide ((c, f) ∈ xfs)
  xc := fun c => (xcs.lookup c).map fun fs => ⟨fs⟩
  ins := fun n c => inss.lookup (n, c)
def oexB (K : PySem.W.Frag) (C : Addr) : Bool := match K.lookup C with
  | some ⟨.type t, _, .cls cd, sl⟩ => (match cd.mro, sl.toList with
    | .ref C' :: bm, [_, _, _, _, some (.builtin n), _] => decide (t = "type") && (decide (C' = C) && (decide (n = "ValueError.__new__") && (!cd.hasDel && (cd.hasDict && PySem.HandSPX.refsVE bm))))
    | _, _ => false)
  | _ => false
theorem oexB_ok {K : PySem.W.Frag} {C : Addr} (h : oexB K C = true) : ∃ nm q N bs bm sn sub ab col dd k0 k1 k2 k3 k5, K.lookup C = some (excClassObj nm q C N bs bm true sn sub ab col dd k0 k1 k2 k3 k5 "ValueError.__new__") ∧ PySem.HandSPX.refsVE bm = true := by
  unfold oexB at h
  split at h
  · rename_i t dd cd sl ho
    split at h
    · rename_i C' bm k0 k1 k2 k3 n k5 hm hs
      simp only [Bool.and_eq_true, decide_eq_true_eq, Bool.not_eq_true'] at h
      obtain ⟨h1, h2, h3, h4, h5, h6⟩ := h
      subst h1 h2 h3
      obtain ⟨nm, bs, mro, ns, qn, hd, sn, sub, ab, col, del⟩ := cd
      dsimp only at hm h4 h5
      subst hm h4 h5
      have hsl : sl = #[k0, k1, k2, k3, some (.builtin "ValueError.__new__"), k5] := by
        obtain ⟨l⟩ := sl
        simp only at hs
        rw [hs]
      subst hsl
      exact ⟨nm, qn, ns, bs, bm, sn, sub, ab, col, dd, k0, k1, k2, k3, k5, ho, h6⟩
    · cases h
  · cases h
def excCB (K : PySem.W.Frag) (C : Addr) : Bool := decide (PySem.W.findIn K (.ref C) "__getattribute__" = some (some (.builtin "BaseException.__getattribute__"))) && (decide (PySem.W.findIn K (.ref C) "__getattr__" = some none) && (decide (PySem.W.subIn K (.ref C) (.type "BaseException") = some true) && (PySem.W.hasDictIn K C &&
  (decide (PySem.W.findIn K (.ref C) "__class__" = some (some (.builtin "object.__class__"))) && (decide (PySem.W.specialIn K (.builtin "object.__class__") "__get__" = some (some (.builtin "getset_descriptor.__get__"))) && (decide (PySem.W.takesIn K (.builtin "object.__class__") = some true) && decide (PySem.W.mroIn K C (.type "object") = some true)))))))
theorem excCB_ok {K : PySem.W.Frag} {C : Addr} (h : excCB K C = true) : ExcC K C := by
  obtain ⟨h1, h⟩ := ba h
  obtain ⟨h2, h⟩ := ba h
  obtain ⟨h3, h⟩ := ba h
  obtain ⟨h4, h⟩ := ba h
  obtain ⟨h5, h⟩ := ba h
  obtain ⟨h6, h⟩ := ba h
  obtain ⟨h7, h8⟩ := ba h
  exact ⟨of_decide_eq_true h1, of_decide_eq_true h2, of_decide_eq_true h3, h4, of_decide_eq_true h5, of_decide_eq_true h6, of_decide_eq_true h7, of_decide_eq_true h8⟩
def oexAll (K : PySem.W.Frag) (q : Str × List (Str × Bool)) : Bool := (Fa.glo q.1).ok K && (oexB K (ga K q.1) && (decide (PySem.W.findIn K (.ref (ga K q.1)) "__setattr__" = some (some (.builtin "object.__setattr__"))) && (decide (PySem.W.subIn K (.ref (ga K q.1)) (.type "BaseException") = some true) && (decide (PySem.W.typeIn K (.ref (ga K q.1)) = some (.type "type")) && (PySem.W.keepIn K (.ref (ga K q.1)) &&
  (decide (PySem.W.findIn K (.ref (ga K q.1)) "__init__" = some (some (.ref (ma K (ga K q.1) "__init__")))) && (decide (PySem.W.typeIn K (.ref (ma K (ga K q.1) "__init__")) = some (.type "function")) && q.2.all fun f => (Fa.noat q.1 f.1).ok K)))))))
structure OexA (K : PySem.W.Frag) (q : Str × List (Str × Bool)) : Prop where
  glo : (Fa.glo q.1).ok K = true
  C : OexC K (ga K q.1)
  init : PySem.W.findIn K (.ref (ga K q.1)) "__init__" = some (some (.ref (ma K (ga K q.1) "__init__")))
  ty : PySem.W.typeIn K (.ref (ma K (ga K q.1) "__init__")) = some (.type "function")
  no : ∀ f ∈ q.2.map (·.1), PySem.W.findIn K (.ref (ga K q.1)) f = some none
theorem oexAll_ok {K : PySem.W.Frag} {q : Str × List (Str × Bool)} (h : oexAll K q = true) : OexA K q := by
  obtain ⟨h0, h⟩ := ba h
  obtain ⟨h1, h⟩ := ba h
  obtain ⟨h2, h⟩ := ba h
  obtain ⟨h3, h⟩ := ba h
  obtain ⟨h4, h⟩ := ba h
  obtain ⟨h5, h⟩ := ba h
  obtain ⟨h6, h⟩ := ba h
  obtain ⟨h7, h8⟩ := ba h
  exact ⟨h0, ⟨oexB_ok h1, of_decide_eq_true h2, of_decide_eq_true h3, of_decide_eq_true h4, h5⟩, of_decide_eq_true h6, of_decide_eq_true h7, fun f hf => by
    obtain ⟨g, hg, e⟩ := List.mem_map.mp hf
    subst e
    exact eqO_ok (List.all_eq_true.mp h8 g hg)⟩
def insBB (K : PySem.W.Frag) (C : Addr) : Bool := PySem.W.plainGet K C Str.empty && (PySem.W.hasDictIn K C && (PySem.W.plainOver K C && (decide (PySem.W.findIn K (.ref C) "__setattr__" = some (some (.builtin "object.__setattr__"))) && (decide (PySem.W.findIn K (.ref C) "__class__" = some (some (.builtin "object.__class__"))) && (decide (PySem.W.specialIn K (.builtin "object.__class__") "__get__" = some (some (.builtin "getset_descriptor.__get__"))) && (decide (PySem.W.takesIn K (.builtin "object.__class__") = some true) && decide (PySem.W.mroIn K C (.type "object") = some true)))))))
theorem insBB_ok {K : PySem.W.Frag} {C : Addr} (h : insBB K C = true) : InsB K C := by
  obtain ⟨h1, h⟩ := ba h
  obtain ⟨h2, h⟩ := ba h
  obtain ⟨h3, h⟩ := ba h
  obtain ⟨h4, h⟩ := ba h
  obtain ⟨h5, h⟩ := ba h
  obtain ⟨h6, h⟩ := ba h
  obtain ⟨h7, h8⟩ := ba h
  exact ⟨⟨h1, h2, h3, of_decide_eq_true h4⟩, of_decide_eq_true h5, of_decide_eq_true h6, of_decide_eq_true h7, of_decide_eq_true h8⟩
def allT : List BTy := [.int, .bool, .str, .list, .tuple]
def insAll (K : PySem.W.Frag) (q : (Str × Str) × Bool) : Bool := (allT.all fun t => !decide (q.1.1 = t.x) || decide (PySem.W.kitOne K (.type t.nm) (.ref (ga K q.1.2)) = some q.2)) && ((!decide (q.1.1 = "NoneType") || decide (PySem.W.kitOne K (.type "NoneType") (.ref (ga K q.1.2)) = some q.2)) &&
  (decide (q.1.1 ∈ bNames) || (insBB K (ga K q.1.1) && decide (PySem.W.kitOne K (.ref (ga K q.1.1)) (.ref (ga K q.1.2)) = some q.2))))
theorem insAll_ok {K : PySem.W.Frag} {q : (Str × Str) × Bool} (h : insAll K q = true) : InsT K q.1.1 q.1.2 q.2 := by
  obtain ⟨h1, h⟩ := ba h
  obtain ⟨h2, h3⟩ := ba h
  refine ⟨fun t e => ?_, fun e => ?_, fun e => ?_⟩
  · have h4 := List.all_eq_true.mp h1 t (by cases t <;> simp [allT])
    rw [decide_eq_true e, Bool.not_true, Bool.false_or] at h4
    exact of_decide_eq_true h4
  · rw [decide_eq_true e, Bool.not_true, Bool.false_or] at h2
    exact of_decide_eq_true h2
  · rw [decide_eq_false e, Bool.false_or] at h3
    obtain ⟨h4, h5⟩ := ba h3
    exact ⟨insBB_ok h4, of_decide_eq_true h5⟩
/-- the module's _kept, where it is used -/
def keptAllB (K : PySem.W.Frag) (xcs : List (Str × List (Str × Bool))) : Bool := !(xcs.any fun q => q.2.any (·.2)) || ((Fa.glo "_kept").ok K && ((Fa.free "isinstance").ok K && (Fa.free "list").ok K))
/-- all that is asked of the written part -/
def exM (s : ST) (subs : List ((Str × Str) × Bool)) (xfs : List (Str × Str)) (inss : List ((Str × Str) × Bool)) (K : PySem.W.Frag) : Bool :=
  (s.tops.all fun q => (Fa.glo q.2).ok K) && ((s.cls.all fun q => (Fa.glo q.1).ok K && (Fa.mkr q.1).ok K) && ((s.attrs.all fun q => (Fa.cls q.1).ok K && (Fa.noat q.1 q.2).ok K) && ((s.blt.all fun x => (Fa.free x).ok K) && ((s.gis.all fun q => (Fa.int q.1 q.2).ok K) && ((s.exn.all fun x => (Fa.glo x).ok K) &&
  ((s.math.all fun q => eqO (PySem.W.nsIn K mainGlobals q.1) (some (some (.builtin q.2)))) && ((subs.all fun q => excCB K (ga K q.1.1) && (decide (PySem.W.kitOne K (.ref (ga K q.1.1)) (.ref (ga K q.1.2)) = some q.2) && (!q.2 || decide (PySem.W.exmOne K (.ref (ga K q.1.1)) (.ref (ga K q.1.2)) = some true)))) &&
  ((xfs.all fun q => xfB K (ga K q.1) && (Fa.noat q.1 q.2).ok K) && ((s.xcs.all fun q => oexAll K q) && ((s.mets.all fun q => (Fa.cls q.1).ok K && (Fa.meth q.1 q.2.1).ok K) && ((s.ops.all fun c => PySem.W.selfFirst K (ga K c)) && ((inss.all fun q => insAll K q) && keptAllB K s.xcs))))))))))))
def obsM (n : Nat) (ex : PySem.W.Frag → Bool) (fn : List DefD) (g : Addr → Option Obj) : AlD := (ex (frG g (asD g n)) && (obsD [] fn (frG g (asD g n))).1, (obsD [] fn (frG g (asD g n))).2)
theorem obsM_says {n : Nat} {ex : PySem.W.Frag → Bool} {fn : List DefD} {g : Addr → Option Obj} (e : obsM n ex fn g = valD fn) : ex (frG g (asD g n)) = true ∧ SaysD [] fn (frG g (asD g n)) := by
  have e1 : (ex (frG g (asD g n)) && (obsD [] fn (frG g (asD g n))).1) = true := congrArg (fun z : AlD => z.1) e
  have e2 : (obsD [] fn (frG g (asD g n))).2 = fn.map DefD.val := congrArg (fun z : AlD => z.2) e
  obtain ⟨h1, h2⟩ := ba e1
  exact ⟨h1, Prod.ext h2 e2⟩
def hookM (n : Nat) (ex : PySem.W.Frag → Bool) (fn : List DefD) : PySem.W.Hook where
  α := AlD
  obs := fun s => obsM n ex fn s.heap.get?
  val := fun _ => valD fn
  says := fun _ h => ∃ K : PySem.W.Frag, K.In h ∧ ex K = true ∧ SaysD [] fn K
  of := fun _ _ e => ⟨_, frG_in, obsM_says e⟩
  keeps := fun _ _ _ ⟨K, hK, c⟩ k => ⟨K, PySem.W.Frag.In.keeps hK k, c⟩
theorem obsM_eq {n : Nat} {ex : PySem.W.Frag → Bool} {fn : List DefD} {g : Addr → Option Obj} {s : Shared} (h : ∀ a, g a = s.heap.get? a) : obsM n ex fn g = (hookM n ex fn).obs s := by
  have e : g = s.heap.get? := funext h
  rw [e] <;> rfl
/-! ### a def of the text and its code as data -/
/-- how its parameters are bound -/
inductive BindRow (F : Fn) (d : DefD) : Prop where
  | plain (h : d.dfl = []) (b : ∀ (kV doc pm : Value) (an : Option Addr) (cdv ct : Value) (us : List Value), us.length = (F.N.take F.np).length → bindArgs (PySem.W.fnOf d.name d.qual d.params d.body d.scope .none kV doc pm an cdv ct) ⟨us, []⟩ = pure ((F.N.take F.np).zip us))
  | dfl (h : d.dfl ≠ []) (b : ∀ (T : Addr) (kV doc pm : Value) (an : Option Addr) (cdv ct : Value) (us its : List Value), us.length = (F.N.take F.np).length → its.length = d.dfl.length →
      ∃ k, bindArgs (PySem.W.fnOf d.name d.qual d.params d.body d.scope (.ref T) kV doc pm an cdv ct) ⟨us, []⟩ = seqItems? (.ref T) >>= k ∧ k (some its.toArray) = pure ((F.N.take F.np).zip us))
structure RowOk (F : Fn) (d : DefD) : Prop where
  body : d.body = F.body.ss
  scope : d.scope = F.sc
  kwd : d.kwd = []
  S : FnScope F.N (F.N.take F.np) F.sc
  len : (F.N.take F.np).length = F.np
  bind : BindRow F d
inductive RowsOk : List Fn → List DefD → Prop
  | nil {fn : List DefD} : RowsOk [] fn
  | cons {F : Fn} {d : DefD} {Fs : List Fn} {ds : List DefD} (h : RowOk F d) (r : RowsOk Fs ds) : RowsOk (F :: Fs) (d :: ds)
theorem RowsOk.at {Fs : List Fn} {ds : List DefD} (r : RowsOk Fs ds) : ∀ {i : Nat} {F : Fn}, Fs[i]? = some F → ∃ d, ds[i]? = some d ∧ RowOk F d := by
  induction r with
  | nil => intro i F e; cases e
  | cons h r ih =>
    intro i F e
    cases i with
    | zero => cases e; exact ⟨_, rfl, h⟩
    | succ i => exact ih e
/-- an exception's __init__ -/
structure XRow (q : Str × List (Str × Bool)) (d : DefD) : Prop where
  at_ : d.at_ = (q.1, some ("__init__" : Str))
  dfl : d.dfl = []
  kwd : d.kwd = []
  ne : q.2.map (·.1) ≠ []
  nd : (q.2.map (·.1)).Nodup
  le : (q.2.map (·.1)).length ≤ 900
  body : InitB "self" (q.2.map (·.1)) (kpOf q.2) 0 d.body
  S : FnScope ("self" :: q.2.map (·.1)) ("self" :: q.2.map (·.1)) d.scope
  vis : ∀ x ∈ (("self" : Str) :: q.2.map (·.1)), d.scope.names.lookup x = some .local ∧ (x == ("__debug__" : Str)) = false ∧ (x == ("__classdict__" : Str)) = false
  gk : q.2.any (·.2) = true → d.scope.names.lookup ("_kept" : Str) = some .globalImplicit
  dbg : (q.1 == ("__debug__" : Str)) = false
  bind : ∀ (kV doc pm : Value) (an : Option Addr) (cdv ct : Value) (us : List Value), us.length = (("self" : Str) :: q.2.map (·.1)).length → bindArgs (PySem.W.fnOf d.name d.qual d.params d.body d.scope .none kV doc pm an cdv ct) ⟨us, []⟩ = pure ((("self" : Str) :: q.2.map (·.1)).zip us)
/-- the module's own _kept -/
structure KRow (d : DefD) : Prop where
  at_ : d.at_ = (("_kept" : Str), none)
  dfl : d.dfl = []
  kwd : d.kwd = []
  body : ∃ p1 p2 p3 p4 p5 p6 p7 er, d.body = [.If (.Call (.Name "isinstance" p1) [.Name "value" p2, .Name "list" p3] [] p4) er [] p5, .Return (some (.Name "value" p6)) p7]
  S : FnScope ["value"] ["value"] d.scope
  v0 : d.scope.names.lookup ("value" : Str) = some .local
  gi : d.scope.names.lookup ("isinstance" : Str) = some .globalImplicit
  gl : d.scope.names.lookup ("list" : Str) = some .globalImplicit
  bind : ∀ (kV doc pm : Value) (an : Option Addr) (cdv ct : Value) (us : List Value), us.length = [("value" : Str)].length → bindArgs (PySem.W.fnOf d.name d.qual d.params d.body d.scope .none kV doc pm an cdv ct) ⟨us, []⟩ = pure ([("value" : Str)].zip us)
theorem FunD.nil {K : PySem.W.Frag} {x qual : Str} {params : Arguments} {body : List Stmt} {scope : Scope} {dvs : List V} {kws : List (Str × V)} {f : Addr} {fd : FuncData} (F : FunD K x qual params body scope dvs kws f fd) (h1 : dvs = []) (h2 : kws = []) : FunD K x qual params body scope [] [] f fd := by
  subst h1 h2
  exact F
theorem krow_ok {P : Program} {w : World} {K : PySem.W.Frag} {mg : Str → Option Value} {base : Heap} {d : DefD} {fd : FuncData} (r : KRow d) (F : FunD K d.name d.qual d.params d.body d.scope (d.dvs K) (d.kws K) (fAd K d.at_) fd) (hg : mg "_kept" = some (.ref (ga K "_kept"))) (mi : mg "isinstance" = none) (ml : mg "list" = none) : KeptF P w K mg base := by
  have F' := FunD.nil F (by unfold DefD.dvs; rw [r.dfl]; rfl) (by unfold DefD.kws; rw [r.kwd]; rfl)
  have ea : fAd K d.at_ = ga K "_kept" := by rw [r.at_]; rfl
  rw [ea] at F'
  obtain ⟨p1, p2, p3, p4, p5, p6, p7, er, eb⟩ := r.body
  have b := F'.bindsN (ps := [("value" : Str)]) fun kV doc pm an cdv ct us hl => r.bind kV doc pm an cdv ct us hl
  have F2 := F'
  rw [eb] at F2
  exact ⟨_, fd, hg, F'.kp, kept_fn F2 r.S rfl r.v0 r.gi r.gl mi ml, b⟩
theorem xrow_ok {P : Program} {w : World} {K : PySem.W.Frag} {mg : Str → Option Value} {base : Heap} {q : Str × List (Str × Bool)} {d : DefD} {fd : FuncData} (r : XRow q d) (a : OexA K q) (F : FunD K d.name d.qual d.params d.body d.scope (d.dvs K) (d.kws K) (fAd K d.at_) fd) (hk : q.2.any (·.2) = true → KeptF P w K mg base) :
    FnOk P w K mg base (L2N.CX P w) 2 (ma K (ga K q.1) "__init__") fd (("self" : Str) :: q.2.map (·.1)) (spO (ga K q.1) (q.2.map (·.1)) (kpOf q.2)) ∧ Binds K fd (("self" : Str) :: q.2.map (·.1)) [] := by
  have F' := FunD.nil F (by unfold DefD.dvs; rw [r.dfl]; rfl) (by unfold DefD.kws; rw [r.kwd]; rfl)
  have ea : fAd K d.at_ = ma K (ga K q.1) "__init__" := by rw [r.at_]; rfl
  rw [ea] at F'
  refine ⟨F'.ok r.S (fun vs H Q E h => ?_) (fun cdv A outer s H vs Q E room h => ⟨_, init_all (C := ga K q.1) (fs := q.2.map (·.1)) (kp := kpOf q.2) (s := "self") rfl a.C r.nd r.le (fun x hx => ⟨.inl (r.vis x hx).1, (r.vis x hx).2⟩) a.no (fun i hi => ?_) r.body r.ne, ?_⟩), F'.bindsN fun kV doc pm an cdv ct us hl => r.bind kV doc pm an cdv ct us hl⟩
  · obtain ⟨a', ys, rfl, hl, _⟩ := h
    rw [List.length_cons, List.length_cons, hl]
  · have hany : q.2.any (·.2) = true := by
      unfold kpOf at hi
      cases e : q.2[i]? with
      | none => rw [e] at hi; cases hi
      | some z =>
        rw [e] at hi
        exact List.any_eq_true.mpr ⟨z, List.mem_of_getElem? e, hi⟩
    exact ⟨hk hany, r.gk hany, room, L2N.passes_call (L2N.takes_of rfl rfl rfl rfl) fun _ _ _ _ z => z.elim⟩
  · obtain ⟨a', ys, rfl, hl, _, hki, ha, hq⟩ := h
    refine ⟨a', ys, ?_, hl, hki, ha, fun d' H2 gs h1 h2 h3 h4 h5 h6 => hq d' H2 gs h1 h2 h3 h4 h5 h6⟩
    unfold L2.start
    rw [List.length_cons, List.length_cons, hl, Nat.sub_self]
    show some (V.ref a') :: ys.map some ++ [] = _
    rw [List.append_nil]
end MP
set_option Elab.async false
set_option linter.all false
set_option maxRecDepth 100000
set_option maxHeartbeats 4000000
/-! MPHead2: from the head's facts to the promises of all defs. -/
namespace MP
open PySem PySem.Spec PyProof.Rows L2 He
structure Stat (s : ST) (fns : List Fn) (subs : List ((Str × Str) × Bool)) (xfs : List (Str × Str)) (inss : List ((Str × Str) × Bool)) (fn xfn : List DefD) : Prop where
  T : s.T = mkTab fns subs xfs s.xcs inss
  rows : RowsOk fns fn
  xrows : ∀ (i : Nat) q, s.xcs[i]? = some q → ∃ d, xfn[i]? = some d ∧ XRow q d
  krow : (s.xcs.any fun q => q.2.any (·.2)) = true → ∃ (d : DefD) (i : Nat), (fn ++ xfn)[i]? = some d ∧ KRow d
  mets : ∀ q ∈ s.mets, ∃ d F, fn[q.2.2]? = some d ∧ d.at_ = (q.1, some q.2.1) ∧ fns[q.2.2]? = some F
  props : s.props = []
  dfs : ∀ q ∈ s.dfs, ∃ (d : DefD) (F : Fn) (j : Nat), fn[q.1]? = some d ∧ fns[q.1]? = some F ∧ d.dfl.drop j = q.2.map Dv.int ∧ d.dfl ≠ [] ∧ ∃ n : Nat, n + (d.dfl.length - j) = (F.N.take F.np).length ∧
    ∀ (T : Addr) (kV doc pm : Value) (an : Option Addr) (cdv ct : Value) (us its : List Value), us.length = n → its.length = d.dfl.length →
      ∃ k, bindArgs (PySem.W.fnOf d.name d.qual d.params d.body d.scope (.ref T) kV doc pm an cdv ct) ⟨us, []⟩ = seqItems? (.ref T) >>= k ∧ k (some its.toArray) = pure ((F.N.take F.np).zip (us ++ its.drop j))
  tops : ∀ q ∈ s.tops, ∃ d F, fn[q.1]? = some d ∧ d.at_ = (q.2, none) ∧ fns[q.1]? = some F ∧ (q.2 == ("__debug__" : Str)) = false
  hots : ∀ q ∈ s.hots, q ∈ s.tops
  cls : ∀ q ∈ s.cls, ∃ d F, fn[q.2]? = some d ∧ d.at_ = (q.1, some ("__init__" : Str)) ∧ fns[q.2]? = some F ∧ (q.1 == ("__debug__" : Str)) = false
  exn : ∀ x ∈ s.exn, (x == ("__debug__" : Str)) = false
  kws : ∀ q ∈ s.kws, ∃ d F, fn[q.1]? = some d ∧ fns[q.1]? = some F ∧ d.dfl = [] ∧ ∀ (kV doc pm : Value) (an : Option Addr) (cdv ct : Value) (us ws zs : List Value), us.length = q.2.1 → ws.length = q.2.2.1.length → (q.2.2.2.mapM fun i => (us ++ ws)[i]?) = some zs →
    bindArgs (PySem.W.fnOf d.name d.qual d.params d.body d.scope .none kV doc pm an cdv ct) ⟨us, q.2.2.1.zip ws⟩ = pure ((F.N.take F.np).zip zs)
  ok : fns.all (fun F => okSs s ⟨F.N, F.sc, true⟩ F.body) = true
  hot : ∀ q ∈ s.hots, ∃ F, fns[q.1]? = some F ∧ okSs s ⟨F.N, F.sc, false⟩ F.body = true
open Classical in
noncomputable def faOf (K : PySem.W.Frag) (fns : List Fn) (fn : List DefD) : FA where
  adr := fun f => match fn[f]? with
    | some d => fAd K d.at_
    | none => 0
  fd := fun f => if h : ∃ fd d, fn[f]? = some d ∧ FunD K d.name d.qual d.params d.body d.scope (d.dvs K) (d.kws K) (fAd K d.at_) fd then h.choose else PySem.W.fnOf "" "" ⟨[], [], none, [], [], none, []⟩ [] ⟨.function, [], false, false, []⟩ .none .none .none .none none .none .none
  ps := fun f => match fns[f]? with
    | some F => F.N.take F.np
    | none => []
theorem lookup_mem {α β : Type} [BEq α] [LawfulBEq α] {k : α} {v : β} : ∀ {l : List (α × β)}, l.lookup k = some v → (k, v) ∈ l
  | [], h => by cases h
  | (a, b) :: l, h => by
    rw [List.lookup_cons] at h
    cases e : k == a with
    | true =>
      rw [e] at h
      cases h
      rw [eq_of_beq e]
      exact List.mem_cons_self
    | false =>
      rw [e] at h
      exact List.mem_cons_of_mem _ (lookup_mem h)
section
variable {s : ST} {fns : List Fn} {subs : List ((Str × Str) × Bool)} {xfs : List (Str × Str)} {inss : List ((Str × Str) × Bool)} {fn xfn : List DefD} {P : Program} {w : World} {K : PySem.W.Frag} {mg : Str → Option Value} {base h : Heap}
theorem fd_at (c : SaysD [] (fn ++ xfn) K) {f : Nat} {d : DefD} (hd : fn[f]? = some d) : FunD K d.name d.qual d.params d.body d.scope (d.dvs K) (d.kws K) ((faOf K fns fn).adr f) ((faOf K fns fn).fd f) := by
  have hl := (List.getElem?_eq_some_iff.mp hd).1
  have hd2 : (fn ++ xfn)[f]? = some d := by rw [List.getElem?_append_left hl]; exact hd
  obtain ⟨fd, F⟩ := c.def_ f hd2
  have hx : ∃ fd d, fn[f]? = some d ∧ FunD K d.name d.qual d.params d.body d.scope (d.dvs K) (d.kws K) (fAd K d.at_) fd := ⟨fd, d, hd, F⟩
  have ea : (faOf K fns fn).adr f = fAd K d.at_ := by
    show (match fn[f]? with
      | some d => fAd K d.at_
      | none => 0) = _
    rw [hd]
  have ef : (faOf K fns fn).fd f = hx.choose := dif_pos hx
  obtain ⟨d2, h1, h2⟩ := hx.choose_spec
  rw [hd] at h1
  cases h1
  rw [ea, ef]
  exact h2
theorem fdef (St : Stat s fns subs xfs inss fn xfn) (c : SaysD [] (fn ++ xfn) K) {f : Nat} {F : Fn} (hF : fns[f]? = some F) : ∃ d, fn[f]? = some d ∧ RowOk F d ∧ FDef K (faOf K fns fn) f F ∧ FunD K d.name d.qual d.params d.body d.scope (d.dvs K) [] ((faOf K fns fn).adr f) ((faOf K fns fn).fd f) ∧ (faOf K fns fn).ps f = F.N.take F.np := by
  obtain ⟨d, hd, r⟩ := St.rows.at hF
  have D := fd_at (fns := fns) (xfn := xfn) c hd
  have D' : FunD K d.name d.qual d.params d.body d.scope (d.dvs K) [] ((faOf K fns fn).adr f) ((faOf K fns fn).fd f) := by
    have e : d.kws K = [] := by unfold DefD.kws; rw [r.kwd]; rfl
    rw [← e]
    exact D
  have ep : (faOf K fns fn).ps f = F.N.take F.np := by
    show (match fns[f]? with
      | some F => F.N.take F.np
      | none => []) = _
    rw [hF]
  refine ⟨d, hd, r, ⟨⟨d.name, d.qual, d.params, d.dvs K, [], ?_⟩, by rw [ep]; exact r.S, by rw [ep]; exact r.len⟩, D', ep⟩
  have D2 := D'
  rw [r.body, r.scope] at D2
  exact D2
theorem bind_of {F : Fn} {d : DefD} {f : Nat} (r : RowOk F d) (D : FunD K d.name d.qual d.params d.body d.scope (d.dvs K) [] ((faOf K fns fn).adr f) ((faOf K fns fn).fd f)) : Binds K ((faOf K fns fn).fd f) (F.N.take F.np) [] := by
  cases r.bind with
  | plain h b => exact (FunD.nil D (by unfold DefD.dvs; rw [h]; rfl) rfl).bindsN fun kV doc pm an cdv ct us hl => b kV doc pm an cdv ct us hl
  | dfl h b =>
    have l : (d.dvs K).length = d.dfl.length := by unfold DefD.dvs; rw [List.length_map]
    have ne : d.dvs K ≠ [] := fun e => h (List.eq_nil_of_length_eq_zero (by rw [← l, e]; rfl))
    obtain ⟨ds, h1, h2⟩ := D.binds1 (ps := F.N.take F.np) (F.N.take F.np).length (d.dvs K).length ne (by omega) fun T kV doc pm an cdv ct us its hl hi => by
      obtain ⟨k, e1, e2⟩ := b T kV doc pm an cdv ct us its hl (by rw [← l]; exact hi)
      refine ⟨k, e1, ?_⟩
      rw [List.drop_eq_nil_of_le (by omega), List.append_nil]
      exact e2
    rw [List.drop_length] at h1
    cases h1
    exact h2
theorem gf_of (St : Stat s fns subs xfs inss fn xfn) (X : K.In h) (G : h.Ns mainGlobals mg) (ex : exM s subs xfs inss K = true) (c : SaysD [] (fn ++ xfn) K) : GF P w K mg base s (faOf K fns fn) := by
  obtain ⟨x1, ex⟩ := ba ex
  obtain ⟨x2, ex⟩ := ba ex
  obtain ⟨x3, ex⟩ := ba ex
  obtain ⟨x4, ex⟩ := ba ex
  obtain ⟨x5, ex⟩ := ba ex
  obtain ⟨x6, ex⟩ := ba ex
  obtain ⟨x7, ex⟩ := ba ex
  obtain ⟨x8, ex⟩ := ba ex
  obtain ⟨x9, ex⟩ := ba ex
  obtain ⟨x10, ex⟩ := ba ex
  obtain ⟨x11, ex⟩ := ba ex
  obtain ⟨x12, ex⟩ := ba ex
  obtain ⟨x13, x14⟩ := ba ex
  have eT : s.T.fns = fns := by rw [St.T]; rfl
  have bnd : ∀ {f : Nat} {F : Fn}, fns[f]? = some F → Binds K ((faOf K fns fn).fd f) ((faOf K fns fn).ps f) [] := fun {f F} hF => by
    obtain ⟨d, hd, r, _, D, ep⟩ := fdef St c hF
    rw [ep]
    exact bind_of r D
  have kept : (s.xcs.any fun q => q.2.any (·.2)) = true → KeptF P w K mg base := fun hk => by
    obtain ⟨d, i, hd, kr⟩ := St.krow hk
    obtain ⟨fd, F⟩ := c.def_ i hd
    unfold keptAllB at x14
    rw [hk, Bool.not_true, Bool.false_or] at x14
    obtain ⟨y1, y2⟩ := ba x14
    obtain ⟨y2, y3⟩ := ba y2
    exact krow_ok kr F (glo_ok X G y1) (free_ok X G y2) (free_ok X G y3)
  refine ⟨fun q hq => ?_, St.hots, fun q hq => ?_, fun q hq => ?_, fun x hx => free_ok X G (List.all_eq_true.mp x4 x hx), fun q hq => He.int_ok X G (List.all_eq_true.mp x5 q hq), fun x hx => ⟨glo_ok X G (List.all_eq_true.mp x6 x hx), St.exn x hx⟩, fun q hq => ?_, fun q hq => PySem.W.mg_of X G (eqO_ok (List.all_eq_true.mp x7 q hq)), fun c' c0 b e _ => ?_, fun c' c0 e => ?_, fun c0 f e => ?_, fun q hq => ?_, fun q hq => ?_, fun c0 hc0 => List.all_eq_true.mp x12 c0 hc0, fun q hq => (by rw [St.props] at hq; cases hq), fun q hq => ?_, fun n c0 b e => ?_⟩
  · obtain ⟨d, F, hd, ha, hF, hn⟩ := St.tops q hq
    have D := fd_at (fns := fns) (xfn := xfn) c hd
    have ea : (faOf K fns fn).adr q.1 = ga K q.2 := by
      show (match fn[q.1]? with
        | some d => fAd K d.at_
        | none => 0) = _
      rw [hd]
      show fAd K d.at_ = _
      rw [ha]
      rfl
    refine ⟨?_, D.kp, bnd hF, hn, F, by rw [eT]; exact hF⟩
    rw [ea]
    exact glo_ok X G (List.all_eq_true.mp x1 q hq)
  · obtain ⟨d, F, hd, ha, hF, hn⟩ := St.cls q hq
    obtain ⟨g1, g2⟩ := ba (List.all_eq_true.mp x2 q hq)
    obtain ⟨m1, g2⟩ := ba g2
    obtain ⟨m2, g2⟩ := ba g2
    obtain ⟨m3, m4⟩ := ba g2
    have ea : (faOf K fns fn).adr q.2 = ma K (ga K q.1) "__init__" := by
      show (match fn[q.2]? with
        | some d => fAd K d.at_
        | none => 0) = _
      rw [hd]
      show fAd K d.at_ = _
      rw [ha]
      rfl
    rw [ea]
    exact ⟨⟨m1, eqO_ok m2, m3, m4⟩, glo_ok X G g1, bnd hF, hn, F, by rw [eT]; exact hF⟩
  · obtain ⟨g1, g2⟩ := ba (List.all_eq_true.mp x3 q hq)
    obtain ⟨c1, g1⟩ := ba g1
    obtain ⟨c2, g1⟩ := ba g1
    obtain ⟨c3, c4⟩ := ba g1
    exact ⟨⟨c1, c2, c3, eqO_ok c4⟩, eqO_ok g2⟩
  · obtain ⟨d, F, hd, hF, hdf, hb⟩ := St.kws q hq
    obtain ⟨d2, hd2, r, _, D, ep⟩ := fdef St c hF
    rw [hd] at hd2
    cases hd2
    obtain ⟨oc, od, dV, kV, doc, pm, an, cdv, ct, osl, e, lk, hcd, hD, hK⟩ := (FunD.nil D (by unfold DefD.dvs; rw [hdf]; rfl) rfl).ex
    rcases hD with ⟨_, e0⟩ | ⟨e0, _⟩
    · subst e0
      rw [e, ep]
      exact fun us ws zs l1 l2 e3 => hb kV doc pm an cdv ct us ws zs l1 l2 e3
    · exact absurd rfl e0
  · rw [St.T] at e
    have hm := lookup_mem (show subs.lookup (c', c0) = some b from e)
    obtain ⟨g1, g2⟩ := ba (List.all_eq_true.mp x8 _ hm)
    obtain ⟨g2, _⟩ := ba g2
    exact ⟨excCB_ok g1, of_decide_eq_true g2⟩
  · rw [St.T] at e
    have hm := lookup_mem (show subs.lookup (c', c0) = some true from e)
    obtain ⟨g1, g2⟩ := ba (List.all_eq_true.mp x8 _ hm)
    obtain ⟨_, g2⟩ := ba g2
    exact of_decide_eq_true (by simpa using g2)
  · rw [St.T] at e
    have hm := of_decide_eq_true (show decide ((c0, f) ∈ xfs) = true from e)
    obtain ⟨g1, g2⟩ := ba (List.all_eq_true.mp x9 _ hm)
    exact ⟨xfB_ok g1, eqO_ok g2⟩
  · obtain ⟨i, hi, e⟩ := List.mem_iff_getElem.mp hq
    have e2 : s.xcs[i]? = some q := by rw [List.getElem?_eq_getElem hi, e]
    obtain ⟨d, hd, r⟩ := St.xrows i q e2
    have a := oexAll_ok (List.all_eq_true.mp x10 q hq)
    have hd2 : (fn ++ xfn)[fn.length + i]? = some d := by
      rw [List.getElem?_append_right (Nat.le_add_right _ _), Nat.add_sub_cancel_left]
      exact hd
    obtain ⟨fd, F⟩ := c.def_ (fn.length + i) hd2
    obtain ⟨f1, f2⟩ := xrow_ok (P := P) (w := w) (mg := mg) (base := base) r a F fun hk => kept (List.any_eq_true.mpr ⟨q, hq, hk⟩)
    exact ⟨_, fd, _, a.C, a.init, a.ty, r.ne, r.le, f1, f2, glo_ok X G a.glo, r.dbg⟩
  · obtain ⟨d, F, hd, ha, hF⟩ := St.mets q hq
    obtain ⟨g1, g2⟩ := ba (List.all_eq_true.mp x11 q hq)
    obtain ⟨c1, g1⟩ := ba g1
    obtain ⟨c2, g1⟩ := ba g1
    obtain ⟨c3, c4⟩ := ba g1
    obtain ⟨m1, g2⟩ := ba g2
    obtain ⟨m2, m3⟩ := ba g2
    have ea : (faOf K fns fn).adr q.2.2 = ma K (ga K q.1) q.2.1 := by
      show (match fn[q.2.2]? with
        | some d => fAd K d.at_
        | none => 0) = _
      rw [hd]
      show fAd K d.at_ = _
      rw [ha]
      rfl
    rw [ea]
    exact ⟨⟨c1, c2, c3, eqO_ok c4⟩, ⟨eqO_ok m1, m2, m3⟩, bnd hF, F, by rw [eT]; exact hF⟩
  · obtain ⟨d, F, j, hd, hF, hdr, hne, n, hn, hb⟩ := St.dfs q hq
    obtain ⟨d2, hd2, r, _, D, ep⟩ := fdef St c hF
    rw [hd] at hd2
    cases hd2
    have l : (d.dvs K).length = d.dfl.length := by unfold DefD.dvs; rw [List.length_map]
    have ne : d.dvs K ≠ [] := fun e => hne (List.eq_nil_of_length_eq_zero (by rw [← l, e]; rfl))
    rw [ep]
    obtain ⟨ds, h1, h2⟩ := D.binds1 n j ne (by rw [l]; exact hn) fun T kV doc pm an cdv ct us its hl hi => hb T kV doc pm an cdv ct us its hl (by rw [← l]; exact hi)
    have e2 : (d.dvs K).drop j = q.2.map V.int := by
      unfold DefD.dvs
      rw [← List.map_drop, hdr, List.map_map]
      rfl
    rw [e2] at h1
    exact ⟨ds, h1, h2⟩
  · rw [St.T] at e
    have hm := lookup_mem (show inss.lookup (n, c0) = some b from e)
    exact insAll_ok (List.all_eq_true.mp x13 _ hm)
/-- all defs keep their promises at every level -/
theorem fl_of (St : Stat s fns subs xfs inss fn xfn) (X : K.In h) (G : h.Ns mainGlobals mg) (ex : exM s subs xfs inss K = true) (c : SaysD [] (fn ++ xfn) K) (n : Nat) : FL P w K mg base s (faOf K fns fn) n := by
  have eT : s.T.fns = fns := by rw [St.T]; rfl
  refine fl_all (gf_of St X G ex c) (fun f F hF => ?_) (fun f F hF => ?_) (fun q hq => ?_) n
  · rw [eT] at hF
    obtain ⟨d, _, _, D, _⟩ := fdef St c hF
    exact D
  · rw [eT] at hF
    exact List.all_eq_true.mp St.ok F (List.mem_of_getElem? hF)
  · obtain ⟨F, h1, h2⟩ := St.hot q hq
    exact ⟨F, by rw [eT]; exact h1, h2⟩
/-- the law's promise: the 0-th def, at a list of ints -/
theorem law_of (St : Stat s fns subs xfs inss fn xfn) (X : K.In h) (G : h.Ns mainGlobals mg) (ex : exM s subs xfs inss K = true) (c : SaysD [] (fn ++ xfn) K) {fa : Addr} {F : Fn} (hF : fns[0]? = some F) {x : Str} (hps : F.N.take F.np = [x]) (h0 : (0, ("law" : Str)) ∈ s.tops) (hfa : mg ("law" : Str) = some (.ref fa)) (hdf : ∀ d, fn[0]? = some d → d.dfl = []) (n : Nat) :
    ∃ fd : FuncData, (∀ (st : Shared) (u : Value), BindsTo st fd ⟨[u], []⟩ [(x, u)]) ∧ ∀ base : Heap, FnOk P w K mg base (L2N.CX P w) (3 * n + 1) fa fd [x] (spF K s.T n 0) := by
  obtain ⟨d, hd, r, D, DD, ep⟩ := fdef St c hF
  have g := (gf_of (P := P) (w := w) (base := h) St X G ex c).top _ h0
  have e := hfa.symm.trans g.1
  cases e
  refine ⟨(faOf K fns fn).fd 0, fun st u => ?_, fun base => ?_⟩
  · cases r.bind with
    | dfl h b => exact absurd (hdf d hd) h
    | plain h b =>
      have DD' := FunD.nil DD (by unfold DefD.dvs; rw [h]; rfl) rfl
      have b := FunD.bindsA (ps := [x]) DD' (fun kV doc pm an cdv ct us hl => by
        have q := b kV doc pm an cdv ct us (by rw [hps]; exact hl)
        rw [hps] at q
        exact q) st [u] rfl
      exact b
  · have q := (fl_of (P := P) (w := w) (base := base) St X G ex c n).calm 0 F (by rw [St.T]; exact hF)
    rw [ep, hps] at q
    exact q
/-- a script that the law takes -/
theorem slst_rel {w : Wd} {a : Addr} {ns : List Int} {H : Hp} (hw : w.H = H) (hl : w.n = 0) (hh : w.hid = []) (hz : ns.length ≤ sizeLine) (hS : SqL K H a (ns.map V.int)) : Rel K w (.dat (.slst (ns.map D.int))) (.ref a) := by
  refine ⟨a, ns.map V.int, rfl, ?_, by rw [List.length_map]; exact hz, ?_⟩
  · rcases hS with hS | hS
    · refine .inl ⟨fun z => ?_, by rw [hw]; exact hS⟩
      rcases z with ⟨k, hk, _⟩ | z
      · rw [hl] at hk
        exact absurd hk (Nat.not_lt_zero _)
      · rw [hh] at z
        cases z
    · exact .inr hS
  · clear hS hz
    induction ns with
    | nil => rfl
    | cons i ns ih => exact ⟨.int i, ns.map V.int, rfl, rfl, ih⟩
theorem sp_law {T : Tab} {n : Nat} {H : Hp} {a : Addr} {ns : List Int} {f : Nat} (hz : ns.length ≤ sizeLine) (hS : SqL K H a (ns.map V.int)) (hv : callN T n f [.dat (.slst (ns.map D.int))] [] = .ok (.dat (.bl true)) []) : spF K T n f [.ref a] H (fun v _ => v = .bl true) fun _ _ _ => False := by
  refine ⟨⟨H, 0, fun _ => 0, []⟩, [], [.dat (.slst (ns.map D.int))], rfl, ⟨rfl, (fun i j hi => absurd hi (Nat.not_lt_zero _)), (fun b hb => absurd hb (by simp)), (fun k c e => absurd e (by simp))⟩, ⟨_, _, rfl, slst_rel rfl rfl rfl hz hS, rfl⟩, ?_⟩
  rw [hv]
  intro w' v _ _ r
  exact r
end
end MP
set_option Elab.async false
set_option linter.all false
set_option maxRecDepth 100000
set_option maxHeartbeats 4000000
/-! MPHead3: the static tables by deciding. -/
namespace MP
open PySem PySem.Spec PyProof.Rows L2 He
section
variable {s : ST} {fns : List Fn} {fn : List DefD}
def topsB (tops : List (Nat × Str)) (fns : List Fn) (fn : List DefD) : Bool := tops.all fun q => match fn[q.1]?, fns[q.1]? with
  | some d, some _ => decide (d.at_ = (q.2, none)) && !(q.2 == ("__debug__" : Str))
  | _, _ => false
theorem tops_by (h : topsB s.tops fns fn = true) : ∀ q ∈ s.tops, ∃ d F, fn[q.1]? = some d ∧ d.at_ = (q.2, none) ∧ fns[q.1]? = some F ∧ (q.2 == ("__debug__" : Str)) = false := fun q hq => by
  have h1 := List.all_eq_true.mp h q hq
  cases e : fn[q.1]? with
  | none => simp only [e] at h1; cases h1
  | some d =>
    cases e2 : fns[q.1]? with
    | none => simp only [e, e2] at h1; cases h1
    | some F =>
      simp only [e, e2] at h1
      obtain ⟨h2, h3⟩ := ba h1
      exact ⟨d, F, rfl, of_decide_eq_true h2, rfl, by simpa using h3⟩
def clsB (cls : List (Str × Nat)) (fns : List Fn) (fn : List DefD) : Bool := cls.all fun q => match fn[q.2]?, fns[q.2]? with
  | some d, some _ => decide (d.at_ = (q.1, some ("__init__" : Str))) && !(q.1 == ("__debug__" : Str))
  | _, _ => false
theorem cls_by (h : clsB s.cls fns fn = true) : ∀ q ∈ s.cls, ∃ d F, fn[q.2]? = some d ∧ d.at_ = (q.1, some ("__init__" : Str)) ∧ fns[q.2]? = some F ∧ (q.1 == ("__debug__" : Str)) = false := fun q hq => by
  have h1 := List.all_eq_true.mp h q hq
  cases e : fn[q.2]? with
  | none => simp only [e] at h1; cases h1
  | some d =>
    cases e2 : fns[q.2]? with
    | none => simp only [e, e2] at h1; cases h1
    | some F =>
      simp only [e, e2] at h1
      obtain ⟨h2, h3⟩ := ba h1
      exact ⟨d, F, rfl, of_decide_eq_true h2, rfl, by simpa using h3⟩
theorem exn_by (h : (s.exn.all fun x => !(x == ("__debug__" : Str))) = true) : ∀ x ∈ s.exn, (x == ("__debug__" : Str)) = false := fun x hx => by
  have h1 := List.all_eq_true.mp h x hx
  simpa using h1
theorem hot_by (h : (s.hots.all fun q => match fns[q.1]? with
    | some F => okSs s ⟨F.N, F.sc, false⟩ F.body
    | none => false) = true) : ∀ q ∈ s.hots, ∃ F, fns[q.1]? = some F ∧ okSs s ⟨F.N, F.sc, false⟩ F.body = true := fun q hq => by
  have h1 := List.all_eq_true.mp h q hq
  cases e : fns[q.1]? with
  | none => simp only [e] at h1; cases h1
  | some F => simp only [e] at h1; exact ⟨F, rfl, h1⟩
end
end MP
set_option Elab.async false
set_option linter.all false
set_option maxRecDepth 1000000
set_option maxHeartbeats 0
/-! MPLaw: a law, from what the evaluation says. -/
namespace MP
open PySem PySem.Spec PyProof.Rows L2
/-- a law's end where what exceptions leave hangs on the world -/
theorem walk_ofM {l : PySem.W.OpenLaw} {n k : Nat} {q : Program} {loose : List Str} {XP : (Str → Option Value) → Heap → Prop} {YP : World → Heap → Prop} {d : DefRec} {x : Str}
    (hn : l.most = some n) (hn2 : n ≤ sizeLine) (hdf : d.params.defaults = []) (hr : Room k callerA)
    (F : ∀ (w : World) (mg : Str → Option Value) (fa : Addr) (h : Heap), YP w h → h.Ns mainGlobals mg → mg d.name = some (.ref fa) →
      ∃ (K : PySem.W.Frag) (fd : FuncData) (sp : Sp), K.In h ∧ (∀ (s : Shared) (u : Value), BindsTo s fd ⟨[u], []⟩ [(x, u)]) ∧
        (∀ (H : Hp) (a : Addr) (ns : List Int), ns.length ≤ n → Only H → SqL K H a (ns.map V.int) → sp [.ref a] H (fun v _ => v = .bl true) fun _ _ _ => False) ∧
        ∀ base : Heap, K.In base → base.Ns mainGlobals mg → FnOk l.prog w K mg base (L2N.CX l.prog w) k fa fd [x] sp) :
    PySem.W.WalkO q loose XP YP l.row.toRowW d [] (fun f vs => PySem.call f vs) := by
  refine Att.attach_call hn hdf fun w s₀ s₁ mg mb fa o pm cd doc a vs ns G Y ho hd hcd hmg hobj hints hlen hg => ?_
  obtain ⟨K, fd, sp, KX, hb, hsp, hF⟩ := F w mg fa _ Y G.T.g hmg
  exact law_call KX G.T.g G.T.b G.T.builtins G.T.nolimit hg hobj hints (Nat.le_trans hlen hn2) hr hF hb (fun H hO hS => hsp H a ns hlen hO hS) fun H e s' ⟨_, _, _, _, _, _, _, _, _, _, _, _, z⟩ => z
end MP
set_option Elab.async false
set_option linter.all false
set_option maxRecDepth 100000
set_option maxHeartbeats 4000000
/-! MPSplit: the top's equation in three declarations (a kernel's memory is freed between them). -/
namespace MP
open PySem PySem.Spec PyProof.Rows L2 He PySem.W PySem.Calls
theorem map_two {α β γ : Type} {o : Option α} {f : α → β} {g : α → γ} {b : β} {c : γ} (h1 : o.map f = some b) (h2 : o.map g = some c) : o.map (fun x => (f x, g x)) = some (b, c) := by
  cases o with
  | none => cases h1
  | some x =>
    have e1 : f x = b := Option.some.inj h1
    have e2 : g x = c := Option.some.inj h2
    show some (f x, g x) = some (b, c)
    rw [e1, e2]
theorem map_to {α β γ : Type} {o : Option α} {f : α → β} {b : β} (k : β → γ) {g : α → γ} (h : o.map f = some b) (e : ∀ x, k (f x) = g x) : o.map g = some (k b) := by
  cases o with
  | none => cases h
  | some x =>
    have e1 : f x = b := Option.some.inj h
    show some (g x) = some (k b)
    rw [← e x, e1]
/-- what the run's looks say -/
def LookEq (r : OpenRow) (q : Program) (M : Nat) (loose : List PySem.Str) (w : World) : Prop :=
  (HandSHeadRun.wholeF (fun p => HandSHeadRun.stepQ (HandSHeadRun.denQ HandSHeadRun.tabQ) p w) HandSHeadRun.fenceQ M r.prog).map (fun x => (HandSHeadRun.looksF r.prog x.1.heap x.2.abs, HandSHeadRun.seenQ q loose (importedModules r.prog.main.body) (fun s => xlAt q [] s && recOk r.toRowW.records s) x.2.abs)) = some (true, openGood q loose)
/-- what of the heap is asked -/
def ObEq (r : OpenRow) {α : Type} (f : SharedT → α) (M : Nat) (v : α) (w : World) : Prop :=
  (HandSHeadRun.wholeF (fun p => HandSHeadRun.stepQ (HandSHeadRun.denQ HandSHeadRun.tabQ) p w) HandSHeadRun.fenceQ M r.prog).map (fun x => f x.2) = some v
theorem runI_of {r : OpenRow} {q : Program} {n : Nat} {ex : PySem.W.Frag → Bool} {defs : List DefD} {M : Nat} {loose : List PySem.Str} {w : World}
    (h1 : LookEq r q M loose w)
    (h2 : ObEq r (fun s => ex (frG (HandSHeadRun.getT s) (asD (HandSHeadRun.getT s) n))) M true w)
    (h3 : ObEq r (fun s => obsD [] defs (frG (HandSHeadRun.getT s) (asD (HandSHeadRun.getT s) n))) M (valD defs) w) :
    HandSHeadRun.RunEqI r q (hookM n ex defs) (fun s => obsM n ex defs (HandSHeadRun.getT s)) M loose w := by
  unfold LookEq at h1
  unfold ObEq at h2 h3
  have h4 := map_two h1 (map_two h2 h3)
  have h5 := map_to (fun z => (z.1.1, z.1.2, ((z.2.1 && z.2.2.1, z.2.2.2) : AlD))) h4 (g := fun x => (HandSHeadRun.looksF r.prog x.1.heap x.2.abs, HandSHeadRun.seenQ q loose (importedModules r.prog.main.body) (fun s => xlAt q [] s && recOk r.toRowW.records s) x.2.abs, obsM n ex defs (HandSHeadRun.getT x.2))) (fun x => rfl)
  unfold HandSHeadRun.RunEqI
  exact h5
end MP
set_option Elab.async false
set_option linter.all false
set_option maxRecDepth 100000
set_option maxHeartbeats 4000000
/-! MPRun: how the evaluation runs on data. -/
namespace MP
open PySem PySem.Spec PyProof.Rows L2
/-- a store whose cells name cells of it alone -/
def WF (S : Store) : Prop := S.all (Cell.below S.length) = true
theorem wf_nil : WF [] := rfl
theorem seal_dat {S : Store} {ρ : Env} {d : D} (h : WF S) : sealS S.length (.go (.ret (.dat d)) ρ S) = .ok (.dat d) S := by
  show sealR S.length (.dat d) S = _
  unfold sealR
  rw [List.take_length, if_pos ⟨h, Nat.le_refl _⟩]
theorem seal_next {S : Store} {ρ : Env} (h : WF S) : sealS S.length (.go .next ρ S) = .ok (.dat .non) S := by
  show sealR S.length (.dat .non) S = _
  unfold sealR
  rw [List.take_length, if_pos ⟨h, Nat.le_refl _⟩]
theorem seal_exc {S : Store} {ρ : Env} {c : Str} {ns : List Str} {l : List D} (h : WF S) : sealS S.length (.exc c ns l ρ S) = .exc c ns l S := by
  show (if (S.take S.length).all (Cell.below S.length) = true ∧ S.length ≤ S.length then _ else _) = _
  rw [List.take_length, if_pos ⟨h, Nat.le_refl _⟩]
/-- behind a call the new cells are given up: the store S0, as many cells as ahead -/
theorem seal_cut {S S0 E : Store} {ρ : Env} {d : D} (hl : S0.length = S.length) (h : WF S0) : sealS S.length (.go (.ret (.dat d)) ρ (S0 ++ E)) = .ok (.dat d) S0 := by
  show sealR S.length (.dat d) (S0 ++ E) = _
  unfold sealR
  rw [← hl, List.take_left, if_pos ⟨h, by rw [List.length_append]; omega⟩]
theorem seal_own {S S0 E : Store} {ρ : Env} {k : Nat} {d : D} (hl : S0.length = S.length) (h : WF S0) (hk : S.length ≤ k) (hd : toD S.length (S0 ++ E) 8 (.own k) = some d) : sealS S.length (.go (.ret (.own k)) ρ (S0 ++ E)) = .ok (.dat d) S0 := by
  show sealR S.length (.own k) (S0 ++ E) = _
  unfold sealR
  rw [show (S0 ++ E).take S.length = S0 by rw [← hl, List.take_left], if_pos ⟨by rw [← hl]; exact h, by rw [List.length_append]; omega⟩]
  show (if k < S.length then _ else _) = _
  rw [if_neg (Nat.not_lt.mpr hk)]
  simp only [hd]
theorem run_call {T : Tab} {n i : Nat} {F : Fn} {rs : List R} {S : Store} {r : SRes} {q : Res R} (hF : T.fns[i]? = some F) (hl : rs.length = F.np) (hb : evSs (T.C n) F.body (MP.start F rs) S = r) (hs : sealS S.length r = q) : callN T (n + 1) i rs S = q := by
  show (match T.fns[i]? with
    | some F => runF (T.C n) F rs
    | none => M.stuck) S = q
  rw [hF]
  show (if rs.length = F.np then sealS S.length (evSs (T.C n) F.body (MP.start F rs) S) else .stuck) = q
  rw [if_pos hl, hb, hs]
theorem datsR_map : ∀ ds : List D, datsR (ds.map R.dat) = some ds
  | [] => rfl
  | d :: ds => by
    show (datsR (ds.map .dat)).map (d :: ·) = _
    rw [datsR_map ds]
    rfl
theorem intsR_map : ∀ ns : List Int, intsR (ns.map fun i => R.dat (.int i)) = some ns
  | [] => rfl
  | i :: ns => by
    show (intsR (ns.map fun i => R.dat (.int i))).map (i :: ·) = _
    rw [intsR_map ns]
    rfl
/-- it returns data, the store as given -/
def RetOk (d : D) (S : Store) : SRes → Prop
  | .go (.ret (.dat d')) _ S' => d' = d ∧ S' = S
  | _ => False
theorem run_ret {T : Tab} {n i : Nat} {F : Fn} {rs : List R} {S : Store} {d : D} (hF : T.fns[i]? = some F) (hl : rs.length = F.np) (hw : WF S) (hb : RetOk d S (evSs (T.C n) F.body (MP.start F rs) S)) : callN T (n + 1) i rs S = .ok (.dat d) S := by
  match e : evSs (T.C n) F.body (MP.start F rs) S with
  | .go (.ret (.dat d')) ρ S' =>
    rw [e] at hb
    obtain ⟨h1, h2⟩ := hb
    subst h1 h2
    exact run_call hF hl e (seal_dat hw)
  | .go (.ret (.own k)) ρ S' => rw [e] at hb; exact hb.elim
  | .go (.ret (.exc c ns l)) ρ S' => rw [e] at hb; exact hb.elim
  | .go .next ρ S' => rw [e] at hb; exact hb.elim
  | .go .brk ρ S' => rw [e] at hb; exact hb.elim
  | .go .cont ρ S' => rw [e] at hb; exact hb.elim
  | .exc c ns l ρ S' => rw [e] at hb; exact hb.elim
  | .stuck => rw [e] at hb; exact hb.elim
/-! ### items -/
theorem ix_nat {l : List D} {k : Nat} {d : D} {S : Store} (h : l[k]? = some d) : ixR (.dat (.lst l)) (.dat (.int (k : Int))) S = .ok (.dat d) S := by
  have hk : k < l.length := (List.getElem?_eq_some_iff.mp h).1
  have e : atI (l.map R.dat) (k : Int) = some (.dat d) := by
    unfold atI
    have e1 : ixN (l.map R.dat).length (k : Int) = some k := by
      unfold ixN
      rw [List.length_map]
      simp
      omega
    rw [e1]
    show (l.map R.dat)[k]? = _
    rw [List.getElem?_map, h]
    rfl
  show (match atR (l.map R.dat) (k : Int) with
    | some r => Res.ok r S
    | none => .stuck) = _
  unfold atR
  rw [e]
theorem sum_dat {m : Bool} {ns : List Int} {S : Store} : biR m .sum [.dat (.lst (ns.map D.int))] S = .ok (.dat (.int ns.sum)) S := by
  show (match (some ((ns.map D.int).map R.dat)).bind intsR with
    | some xs => Res.ok (R.dat (.int xs.sum)) S
    | none => .stuck) = _
  rw [List.map_map]
  have e : (ns.map (R.dat ∘ D.int)) = ns.map fun i => R.dat (.int i) := rfl
  rw [e, Option.bind_some, intsR_map]
theorem len_dat {m : Bool} {l : List D} {S : Store} : biR m .len [.dat (.lst l)] S = .ok (.dat (.int l.length)) S := by
  show Res.ok (R.dat (.int ((l.map R.dat).length : Nat))) S = _
  rw [List.length_map]
/-! ### one statement after the other -/
theorem ss_next {C : CallsX} {s : IS} {r : ISs} {ρ ρ1 : Env} {S S1 : Store} (h : evS C s ρ S = .go .next ρ1 S1) : evSs C (.cons s r) ρ S = evSs C r ρ1 S1 := by
  show (match evS C s ρ S with
    | .go .next ρ1 S1 => evSs C r ρ1 S1
    | x => x) = _
  rw [h]
theorem ss_ret {C : CallsX} {s : IS} {r : ISs} {ρ ρ1 : Env} {S S1 : Store} {v : R} (h : evS C s ρ S = .go (.ret v) ρ1 S1) : evSs C (.cons s r) ρ S = .go (.ret v) ρ1 S1 := by
  show (match evS C s ρ S with
    | .go .next ρ1 S1 => evSs C r ρ1 S1
    | x => x) = _
  rw [h]
theorem ss_exc {C : CallsX} {s : IS} {r : ISs} {ρ ρ1 : Env} {S S1 : Store} {c : Str} {ns : List Str} {l : List D} (h : evS C s ρ S = .exc c ns l ρ1 S1) : evSs C (.cons s r) ρ S = .exc c ns l ρ1 S1 := by
  show (match evS C s ρ S with
    | .go .next ρ1 S1 => evSs C r ρ1 S1
    | x => x) = _
  rw [h]
section
variable {C : CallsX} {ρ : Env} {S S1 : Store} {p : Pos}
theorem r_ret {e : IE} {r : R} (h : evE C.toCalls e ρ S = .ok r S1) : evS C (.ret e p) ρ S = .go (.ret r) ρ S1 := by
  show SRes.of ρ (evE C.toCalls e ρ S) _ = _
  rw [h]
  rfl
theorem r_asg {i : Nat} {x : Str} {px : Pos} {e : IE} {r : R} (h : evE C.toCalls e ρ S = .ok r S1) : evS C (.asg (.one i x px) e p) ρ S = .go .next (ρ.set i (some r)) S1 := by
  show SRes.of ρ (evE C.toCalls e ρ S) _ = _
  rw [h]
  rfl
theorem r_expr {e : IE} {r : R} (h : evE C.toCalls e ρ S = .ok r S1) : evS C (.expr e p) ρ S = .go .next ρ S1 := by
  show SRes.of ρ (evE C.toCalls e ρ S) _ = _
  rw [h]
  rfl
theorem r_if {c : IE} {a b : ISs} {t : Bool} (h : evE C.toCalls c ρ S = .ok (.dat (.bl t)) S1) : evS C (.ite c a b p) ρ S = if t = true then evSs C a ρ S1 else evSs C b ρ S1 := by
  show SRes.of ρ (M.bind (evE C.toCalls c ρ) truB S) _ = _
  rw [bind_at h]
  rfl
theorem r_setAt {o e : IE} {c f : Str} {ps : Pos} {k : Nat} {ns : List Str} {rs : List R} {r : R} {S2 : Store} (h1 : evE C.toCalls e ρ S = .ok r S1) (h2 : evE C.toCalls o ρ S1 = .ok (.own k) S2) (hk : S2[k]? = some (.obj c ns rs)) (hl : ns.length < 900) :
    evS C (.setAt o c f e ps p) ρ S = .go .next ρ (S2.set k (.obj c (putN f r ns rs).1 (putN f r ns rs).2)) := by
  show SRes.of ρ (M.bind (evE C.toCalls e ρ) (fun v => M.bind (evE C.toCalls o ρ) fun x => setAtR x c f v) S) _ = _
  rw [bind_at h1, bind_at h2]
  unfold setAtR
  simp only [hk]
  rw [if_pos (show True ∧ ns.length < 900 from ⟨trivial, hl⟩)]
  rfl
theorem r_for {t : IT} {it : II} {b : ISs} {xs : List Itm} {g : Gd} (h : evII C.toCalls it ρ S = .ok (xs, g) S1) : evS C (.for_ t it b p) ρ S = forL t g (fun ρ' S' => evSs C b ρ' S') xs ρ S1 := by
  show SRes.of ρ (evII C.toCalls it ρ S) _ = _
  rw [h]
  rfl
end
/-! the same, told of a wish P about the end -/
section
variable {C : CallsX} {ρ ρ1 : Env} {S S1 : Store} {P : SRes → Prop} {r : ISs} {p : Pos}
theorem p_next {s : IS} (h : evS C s ρ S = .go .next ρ1 S1) (k : P (evSs C r ρ1 S1)) : P (evSs C (.cons s r) ρ S) := by
  rw [ss_next h]
  exact k
theorem p_asg {i : Nat} {x : Str} {px : Pos} {e : IE} (v : R) (h : evE C.toCalls e ρ S = .ok v S1) (k : P (evSs C r (ρ.set i (some v)) S1)) : P (evSs C (.cons (.asg (.one i x px) e p) r) ρ S) := p_next (r_asg h) k
theorem p_ret {e : IE} {d : D} (h : evE C.toCalls e ρ S = .ok (.dat d) S) : RetOk d S (evSs C (.cons (.ret e p) r) ρ S) := by
  rw [ss_ret (r_ret h)]
  exact ⟨rfl, rfl⟩
theorem p_if {c : IE} {a b : ISs} {t : Bool} (h : evE C.toCalls c ρ S = .ok (.dat (.bl t)) S1) (k : P (match (if t = true then evSs C a ρ S1 else evSs C b ρ S1) with
    | .go .next ρ1 S1 => evSs C r ρ1 S1
    | x => x)) : P (evSs C (.cons (.ite c a b p) r) ρ S) := by
  show P (match evS C (.ite c a b p) ρ S with
    | .go .next ρ1 S1 => evSs C r ρ1 S1
    | x => x)
  rw [r_if h]
  exact k
end
/-! ### loops on data -/
theorem gd_nil {S : Store} : gdOk S [] = true := gd_iff.mpr fun q hq => by cases hq
/-- a for whose body keeps P, turn by turn -/
theorem for_ind {t : IT} {g : Gd} {b : Env → Store → SRes} (Pv : Nat → Env → Store → Prop) : ∀ (xs : List Itm) (k : Nat) (ρ : Env) (S : Store), Pv k ρ S → (∀ i ρ S, Pv i ρ S → gdOk S g = true) →
    (∀ i x ρ S, xs[i]? = some x → Pv (k + i) ρ S → ∃ ρ1, bindT t x ρ S = some ρ1 ∧ ∃ ρ2 S2, b ρ1 S = .go .next ρ2 S2 ∧ Pv (k + i + 1) ρ2 S2) → ∃ ρ' S', forL t g b xs ρ S = .go .next ρ' S' ∧ Pv (k + xs.length) ρ' S'
  | [], k, ρ, S, h0, hg, _ => ⟨ρ, S, by
      show (if gdOk S g = true then _ else _) = _
      rw [if_pos (hg _ _ _ h0)], h0⟩
  | x :: xs, k, ρ, S, h0, hg, hs => by
    obtain ⟨ρ1, h1, ρ2, S2, h2, h3⟩ := hs 0 x ρ S rfl h0
    obtain ⟨ρ', S', h4, h5⟩ := for_ind Pv xs (k + 1) ρ2 S2 h3 hg fun i y ρ S hy hp => by
      have e : k + 1 + i = k + (i + 1) := by omega
      rw [e] at hp ⊢
      exact hs (i + 1) y ρ S hy hp
    refine ⟨ρ', S', ?_, by rw [List.length_cons, show k + (xs.length + 1) = k + 1 + xs.length by omega]; exact h5⟩
    unfold forL
    rw [if_pos (hg _ _ _ h0)]
    simp only [h1, h2]
    exact h4
theorem loop_map {t : IT} {g : Gd} {c : Env → M Bool} {el : Env → M (List R)} {ρ0 : Env} {S : Store} {G : Itm → List R} (hg : gdOk S g = true) : ∀ {xs : List Itm}, (∀ x ∈ xs, ∃ ρ', bindT t x ρ0 S = some ρ' ∧ c ρ' S = .ok true S ∧ el ρ' S = .ok (G x) S) →
    lcLoop g (lcTurn t g c el ρ0) xs S = .ok (xs.flatMap G) S
  | [], _ => by
    show (if gdOk S g = true then _ else _) = _
    rw [if_pos hg]
    rfl
  | x :: xs, h => by
    obtain ⟨ρ', h1, h2, h3⟩ := h x List.mem_cons_self
    have e1 : lcTurn t g c el ρ0 x S = .ok (G x) S := by
      unfold lcTurn
      rw [if_pos hg]
      simp only [h1]
      unfold M.noX
      rw [bind_at h2]
      simp only [if_pos, h3]
    show M.bind (lcTurn t g c el ρ0 x) (fun a => M.bind (lcLoop g (lcTurn t g c el ρ0) xs) fun b => M.pure (a ++ b)) S = _
    rw [bind_at e1, bind_at (loop_map hg fun y hy => h y (List.mem_cons_of_mem _ hy))]
    rfl
theorem lc_dat {C : Calls} {e : IE} {t : IT} {it : II} {own : List (Str × Nat)} {sc : Scope} {p : Pos} {ρ : Env} {S : Store} {xs : List Itm} {g : Gd} {G : Itm → D} (hi : evII C it ρ S = .ok (xs, g) S) (hg : gdOk S g = true)
    (hx : ∀ x ∈ xs, ∃ ρ', bindT t x (wipeE ρ (own.map (·.2))) S = some ρ' ∧ evE C e ρ' S = .ok (.dat (G x)) S) (hl : xs.length ≤ 1000000) : evE C (.lc false e t it .nil own sc p) ρ S = .ok (.dat (.lst (xs.map G))) S := by
  show M.bind (evII C it ρ) (fun q => M.bind (lcLoop q.2 (lcTurn t q.2 (fun ρ' => evTs C .nil ρ') (fun ρ' => M.bind (evE C e ρ') fun r => M.pure [r]) (wipeE ρ (own.map (·.2)))) q.1) (lcOut false)) S = _
  rw [bind_at hi, bind_at (loop_map (G := fun x => [.dat (G x)]) hg fun x hm => by
    obtain ⟨ρ', h1, h2⟩ := hx x hm
    exact ⟨ρ', h1, rfl, by rw [bind_at h2]; rfl⟩)]
  have e1 : (xs.flatMap fun x => [R.dat (G x)]) = (xs.map G).map R.dat := by
    rw [List.map_map]
    have e : ∀ l : List Itm, (l.flatMap fun x => [R.dat (G x)]) = l.map (R.dat ∘ G) := fun l => by
      induction l with
      | nil => rfl
      | cons y l ih => rw [List.flatMap_cons, ih]; rfl
    exact e xs
  rw [e1]
  unfold lcOut
  rw [if_pos (show small ((xs.map G).map R.dat).length = true by rw [List.length_map, List.length_map]; exact decide_eq_true hl)]
  unfold mkL
  rw [datsR_map]
theorem rng_eq : ∀ (n : Nat) (lo : Int), rngI lo n = (List.range n).map fun (k : Nat) => Itm.one (.dat (.int (lo + (k : Int))))
  | 0, _ => rfl
  | n + 1, lo => by
    rw [List.range_succ_eq_map, List.map_cons, List.map_map]
    show Itm.one (.dat (.int lo)) :: rngI (lo + 1) n = _
    rw [rng_eq n (lo + 1)]
    congr 1
    · simp
    · refine List.map_congr_left fun k _ => ?_
      have e : lo + 1 + (k : Int) = lo + ((k + 1 : Nat) : Int) := by omega
      rw [e]
      rfl
section
variable {C : Calls} {e : IE} {i : Nat} {x : Str} {px : Pos} {it : II} {own : List (Str × Nat)} {sc : Scope} {p : Pos} {ρ : Env} {S : Store}
/-- a comprehension over a range -/
theorem lc_rng {lo : Int} {n : Nat} {g : Nat → D} (hi : evII C it ρ S = .ok (rngI lo n, []) S) (hx : ∀ k : Nat, k < n → evE C e ((wipeE ρ (own.map (·.2))).set i (some (.dat (.int (lo + (k : Int)))))) S = .ok (.dat (g k)) S) (hl : n ≤ 1000000) :
    evE C (.lc false e (.one i x px) it .nil own sc p) ρ S = .ok (.dat (.lst ((List.range n).map g))) S := by
  have q := lc_dat (t := .one i x px) (e := e) (own := own) (sc := sc) (p := p) (G := fun y => match y with
    | .one (.dat (.int j)) => g (j - lo).toNat
    | _ => .non) hi gd_nil (fun y hy => by
      rw [rng_eq] at hy
      obtain ⟨k, hk, ey⟩ := List.mem_map.mp hy
      subst ey
      refine ⟨_, rfl, ?_⟩
      rw [hx k (List.mem_range.mp hk)]
      have e2 : (lo + (k : Int) - lo).toNat = k := by omega
      simp only [e2]) (by rw [rng_len]; exact hl)
  rw [q, rng_eq, List.map_map]
  congr 4
  refine funext fun k => ?_
  show g (lo + (k : Int) - lo).toNat = g k
  have e2 : (lo + (k : Int) - lo).toNat = k := by omega
  rw [e2]
/-- over a list that is data -/
theorem lc_lst {l : List D} {gd : Gd} {g : D → D} (hi : evII C it ρ S = .ok ((l.map R.dat).map .one, gd) S) (hg : gdOk S gd = true) (hx : ∀ d ∈ l, evE C e ((wipeE ρ (own.map (·.2))).set i (some (.dat d))) S = .ok (.dat (g d)) S) (hl : l.length ≤ 1000000) :
    evE C (.lc false e (.one i x px) it .nil own sc p) ρ S = .ok (.dat (.lst (l.map g))) S := by
  have q := lc_dat (t := .one i x px) (e := e) (own := own) (sc := sc) (p := p) (G := fun y => match y with
    | .one (.dat d) => g d
    | _ => .non) hi hg (fun y hy => by
      rw [List.map_map] at hy
      obtain ⟨d, hd, ey⟩ := List.mem_map.mp hy
      subst ey
      exact ⟨_, rfl, hx d hd⟩) (by rw [List.length_map, List.length_map]; exact hl)
  rw [q, List.map_map, List.map_map]
  rfl
theorem ii_of {a : IE} {l : List D} (h : evE C a ρ S = .ok (.dat (.lst l)) S) : evII C (.of a) ρ S = .ok ((l.map R.dat).map .one, []) S := by
  show M.bind (evE C a ρ) _ S = _
  rw [bind_at h]
  rfl
theorem ii_tup {a : IE} {l : List D} (h : evE C a ρ S = .ok (.dat (.tup l)) S) : evII C (.of a) ρ S = .ok ((l.map R.dat).map .one, []) S := by
  show M.bind (evE C a ρ) _ S = _
  rw [bind_at h]
  rfl
theorem ii_rng1 {a : IE} {p0 p : Pos} {n : Nat} (h : evE C a ρ S = .ok (.dat (.int (n : Int))) S) (hn : n ≤ 1000000) : evII C (.rng1 a p0 p) ρ S = .ok (rngI 0 n, []) S := by
  show M.bind (evE C a ρ) _ S = _
  rw [bind_at h]
  show (if rngOk (n : Int) = true then M.pure (rngI 0 (n : Int).toNat, ([] : Gd)) else M.stuck) S = _
  have e : rngOk (n : Int) = true := decide_eq_true ⟨by omega, by omega⟩
  rw [if_pos e, Int.toNat_natCast]
  rfl
end
/-- the size of a number in bits -/
def Sm (k : Nat) (x : Int) : Prop := x.natAbs < 2 ^ k
theorem Sm.log {k : Nat} {x : Int} (h : Sm k x) : x.natAbs.log2 ≤ k := by
  by_cases z : x.natAbs = 0
  · rw [z]
    exact Nat.zero_le _
  · exact Nat.le_of_lt ((Nat.log2_lt z).mpr h)
theorem Sm.mul {a b : Nat} {x y : Int} (hx : Sm a x) (hy : Sm b y) : Sm (a + b) (x * y) := by
  unfold Sm at *
  rw [Int.natAbs_mul, Nat.pow_add]
  exact Nat.mul_lt_mul'' hx hy
theorem Sm.mono {a b : Nat} {x : Int} (h : Sm a x) (l : a ≤ b) : Sm b x := Nat.lt_of_lt_of_le h (Nat.pow_le_pow_right (by decide) l)
theorem mulOk_of {a b : Nat} {x y : Int} (hx : Sm a x) (hy : Sm b y) (h : a + b ≤ 999999) : mulOk x y = true := decide_eq_true (by
  have := hx.log
  have := hy.log
  omega)
theorem R.below_mono {m m' : Nat} (h : m ≤ m') : ∀ {r : R}, R.below m r = true → R.below m' r = true
  | .dat _, _ => rfl
  | .own k, b => decide_eq_true (Nat.lt_of_lt_of_le (of_decide_eq_true b) h)
  | .exc _ _ _, b => by cases b
theorem Cell.below_mono {m m' : Nat} (h : m ≤ m') {c : Cell} (b : c.below m = true) : c.below m' = true := by
  cases c with
  | lst rs => exact List.all_eq_true.mpr fun r hr => R.below_mono h (List.all_eq_true.mp b r hr)
  | tup rs => exact List.all_eq_true.mpr fun r hr => R.below_mono h (List.all_eq_true.mp b r hr)
  | obj c ns rs => exact List.all_eq_true.mpr fun r hr => R.below_mono h (List.all_eq_true.mp b r hr)
theorem wf_push {S : Store} {c : Cell} (h : WF S) (b : c.below (S.length + 1) = true) : WF (S ++ [c]) := by
  refine List.all_eq_true.mpr fun x hx => ?_
  rw [List.length_append]
  rcases List.mem_append.mp hx with hx | hx
  · exact Cell.below_mono (Nat.le_add_right _ _) (List.all_eq_true.mp h x hx)
  · rw [List.mem_singleton.mp hx]
    exact b
theorem below_dats {m : Nat} (ds : List D) : (Cell.lst (ds.map R.dat)).below m = true := List.all_eq_true.mpr fun r hr => by
  obtain ⟨d, _, e⟩ := List.mem_map.mp hr
  rw [← e]
  rfl
theorem ix_own {rs : List R} {k t : Nat} {r : R} {S : Store} (hk : S[k]? = some (.lst rs)) (h : rs[t]? = some r) : ixR (.own k) (.dat (.int (t : Int))) S = .ok r S := by
  have ht : t < rs.length := (List.getElem?_eq_some_iff.mp h).1
  have e : atI rs (t : Int) = some r := by
    unfold atI
    have e1 : ixN rs.length (t : Int) = some t := by
      unfold ixN
      simp
      omega
    rw [e1]
    exact h
  have ei : itemsR S (.own k) = some rs := by
    unfold itemsR
    simp only [hk]
  unfold ixR
  rw [ei]
  show (match atR rs (t : Int) with
    | some r => Res.ok r S
    | none => .stuck) = _
  unfold atR
  rw [e]
/-- o.append(x): o a list that stands in a cell -/
theorem app_own {C : Calls} {o e : IE} {p1 p : Pos} {ρ : Env} {S S1 : Store} {k : Nat} {rs : List R} {r : R} (ho : evE C o ρ S = .ok (.own k) S) (hk : S[k]? = some (.lst rs)) (he : evE C e ρ S = .ok r S1) (hk1 : S1[k]? = some (.lst rs)) (hz : rs.length ≤ 1000000) :
    evE C (.lmeth o .append (.cons e .nil) p1 p) ρ S = .ok (.dat .non) (S1.set k (.lst (rs ++ [r]))) := by
  show M.bind (evE C o ρ) (fun x => M.bind (lmRecv x) fun _ => M.bind (M.bind (evE C e ρ) fun y => M.bind (M.pure []) fun ys => M.pure (y :: ys)) fun xs => lmR x .append xs) S = _
  rw [bind_at ho]
  have e1 : lmRecv (.own k) S = .ok () S := by
    unfold lmRecv
    simp only [hk]
  rw [bind_at e1, bind_assoc, bind_at he]
  show lmR (.own k) .append [r] S1 = _
  unfold lmR
  simp only [hk1]
  rw [if_pos (show small rs.length = true from decide_eq_true hz)]
theorem allD_dat {m f : Nat} {S : Store} : ∀ ds : List D, allD (toD m S f) (ds.map R.dat) = some ds
  | [] => rfl
  | d :: ds => by
    have e : toD m S f (.dat d) = some d := by cases f <;> rfl
    show (match toD m S f (.dat d), allD (toD m S f) (ds.map R.dat) with
      | some d, some ds => some (d :: ds)
      | _, _ => none) = _
    rw [e, allD_dat ds]
/-- the same by places -/
theorem loop_ix {t : IT} {g : Gd} {c : Env → M Bool} {el : Env → M (List R)} {ρ0 : Env} {S : Store} (hg : gdOk S g = true) : ∀ {xs : List Itm} {G : Nat → R}, (∀ (i : Nat) x, xs[i]? = some x → ∃ ρ', bindT t x ρ0 S = some ρ' ∧ c ρ' S = .ok true S ∧ el ρ' S = .ok [G i] S) →
    lcLoop g (lcTurn t g c el ρ0) xs S = .ok ((List.range xs.length).map G) S
  | [], G, _ => by
    show (if gdOk S g = true then _ else _) = _
    rw [if_pos hg]
    rfl
  | x :: xs, G, h => by
    obtain ⟨ρ', h1, h2, h3⟩ := h 0 x rfl
    have e1 : lcTurn t g c el ρ0 x S = .ok [G 0] S := by
      unfold lcTurn
      rw [if_pos hg]
      simp only [h1]
      unfold M.noX
      rw [bind_at h2]
      simp only [if_pos, h3]
    show M.bind (lcTurn t g c el ρ0 x) (fun a => M.bind (lcLoop g (lcTurn t g c el ρ0) xs) fun b => M.pure (a ++ b)) S = _
    rw [bind_at e1, bind_at (loop_ix hg (G := fun i => G (i + 1)) fun i y hy => h (i + 1) y hy), List.length_cons, List.range_succ_eq_map, List.map_cons, List.map_map]
    rfl
theorem lc_ix {C : Calls} {e : IE} {t : IT} {it : II} {own : List (Str × Nat)} {sc : Scope} {p : Pos} {ρ : Env} {S : Store} {xs : List Itm} {g : Gd} {G : Nat → D} {n : Nat} (hi : evII C it ρ S = .ok (xs, g) S) (hg : gdOk S g = true) (hn : xs.length = n)
    (hx : ∀ (i : Nat) x, xs[i]? = some x → ∃ ρ', bindT t x (wipeE ρ (own.map (·.2))) S = some ρ' ∧ evE C e ρ' S = .ok (.dat (G i)) S) (hl : n ≤ 1000000) : evE C (.lc false e t it .nil own sc p) ρ S = .ok (.dat (.lst ((List.range n).map G))) S := by
  subst hn
  show M.bind (evII C it ρ) (fun q => M.bind (lcLoop q.2 (lcTurn t q.2 (fun ρ' => evTs C .nil ρ') (fun ρ' => M.bind (evE C e ρ') fun r => M.pure [r]) (wipeE ρ (own.map (·.2)))) q.1) (lcOut false)) S = _
  rw [bind_at hi, bind_at (loop_ix (G := fun i => .dat (G i)) hg fun i x hm => by
    obtain ⟨ρ', h1, h2⟩ := hx i x hm
    exact ⟨ρ', h1, rfl, by rw [bind_at h2]; rfl⟩)]
  have e1 : ((List.range xs.length).map fun i => R.dat (G i)) = ((List.range xs.length).map G).map R.dat := by
    rw [List.map_map]
    rfl
  rw [e1]
  unfold lcOut
  rw [if_pos (show small (((List.range xs.length).map G).map R.dat).length = true by rw [List.length_map, List.length_map, List.length_range]; exact decide_eq_true hl)]
  unfold mkL
  rw [datsR_map]
/-- over a list of data, by places -/
theorem lc_at {C : Calls} {e : IE} {i : Nat} {x : Str} {px : Pos} {it : II} {own : List (Str × Nat)} {sc : Scope} {p : Pos} {ρ : Env} {S : Store} {l : List D} {G : Nat → D} {n : Nat} (hi : evII C it ρ S = .ok ((l.map R.dat).map .one, []) S) (hn : l.length = n)
    (hx : ∀ (k : Nat) d, l[k]? = some d → evE C e ((wipeE ρ (own.map (·.2))).set i (some (.dat d))) S = .ok (.dat (G k)) S) (hl : n ≤ 1000000) : evE C (.lc false e (.one i x px) it .nil own sc p) ρ S = .ok (.dat (.lst ((List.range n).map G))) S :=
  lc_ix hi gd_nil (by rw [List.length_map, List.length_map]; exact hn) (fun k y hy => by
    rw [List.getElem?_map, List.getElem?_map] at hy
    cases e1 : l[k]? with
    | none => rw [e1] at hy; cases hy
    | some d =>
      rw [e1] at hy
      cases hy
      exact ⟨_, rfl, hx k d e1⟩) hl
theorem toD_lst {m f k : Nat} {S : Store} {rs : List R} (hk : S[k]? = some (.lst rs)) (h : m ≤ k) : toD m S (f + 1) (.own k) = (allD (toD m S f) rs).map D.lst := by
  show (if k < m then none else match S[k]? with
    | some (.lst rs) => (allD (toD m S f) rs).map D.lst
    | some (.tup rs) => (allD (toD m S f) rs).map D.tup
    | some (.obj c ns rs) => (allD (toD m S f) rs).map (D.obj c ns)
    | none => none) = _
  rw [if_neg (Nat.not_lt.mpr h), hk]
end MP
set_option Elab.async false
set_option linter.all false
set_option maxRecDepth 100000
set_option maxHeartbeats 1000000
/-! MPWish: a walk through statements, told of a wish about the end. -/
namespace MP
open PySem PySem.Spec PyProof.Rows L2
/-- one block behind the other -/
def ISs.app : ISs → ISs → ISs
  | .nil, r => r
  | .cons s a, r => .cons s (a.app r)
theorem ss_app {C : CallsX} : ∀ (a r : ISs) (ρ : Env) (S : Store), evSs C (a.app r) ρ S = match evSs C a ρ S with
    | .go .next ρ1 S1 => evSs C r ρ1 S1
    | x => x
  | .nil, r, ρ, S => rfl
  | .cons s a, r, ρ, S => by
    show (match evS C s ρ S with
      | .go .next ρ1 S1 => evSs C (a.app r) ρ1 S1
      | x => x) = _
    show _ = match (match evS C s ρ S with
      | .go .next ρ1 S1 => evSs C a ρ1 S1
      | x => x) with
      | .go .next ρ1 S1 => evSs C r ρ1 S1
      | x => x
    cases evS C s ρ S with
    | stuck => rfl
    | exc c ns l ρ1 S1 => rfl
    | go f ρ1 S1 =>
      cases f with
      | next => exact ss_app a r ρ1 S1
      | brk => rfl
      | cont => rfl
      | ret v => rfl
/-- a turn of a loop: it goes on (Q), or it ends (P) -/
def Turn (Q : Env → Store → Prop) (P : SRes → Prop) : SRes → Prop
  | .go .next ρ S => Q ρ S
  | .go .cont ρ S => Q ρ S
  | .go .brk _ _ => False
  | .go (.ret v) ρ S => P (.go (.ret v) ρ S)
  | .exc c ns l ρ S => P (.exc c ns l ρ S)
  | .stuck => False
/-- a block's end: it goes on (Q), or it ends (P) -/
def Thru (Q : Env → Store → Prop) (P : SRes → Prop) : SRes → Prop
  | .go .next ρ S => Q ρ S
  | r => P r
section
variable {C : CallsX} {ρ ρ1 : Env} {S S1 : Store} {P : SRes → Prop} {r : ISs} {p : Pos}
theorem w_if {c : IE} {a b : ISs} (t : Bool) (h : evE C.toCalls c ρ S = .ok (.dat (.bl t)) S1) (k1 : t = true → P (evSs C (a.app r) ρ S1)) (k0 : t = false → P (evSs C (b.app r) ρ S1)) : P (evSs C (.cons (.ite c a b p) r) ρ S) := by
  refine p_if h ?_
  cases t with
  | true => have := k1 rfl; rw [ss_app] at this; exact this
  | false => have := k0 rfl; rw [ss_app] at this; exact this
theorem w_ifF {c : IE} {a b : ISs} (h : evE C.toCalls c ρ S = .ok (.dat (.bl false)) S1) (k : P (evSs C (b.app r) ρ S1)) : P (evSs C (.cons (.ite c a b p) r) ρ S) := w_if false h (fun e => nomatch e) fun _ => k
theorem w_ifT {c : IE} {a b : ISs} (h : evE C.toCalls c ρ S = .ok (.dat (.bl true)) S1) (k : P (evSs C (a.app r) ρ S1)) : P (evSs C (.cons (.ite c a b p) r) ρ S) := w_if true h (fun _ => k) fun e => nomatch e
/-- both ways go on, to Q (or end, as P says) -/
theorem w_ifN {c : IE} {a b : ISs} (t : Bool) (Q : Env → Store → Prop) (h : evE C.toCalls c ρ S = .ok (.dat (.bl t)) S1) (k1 : t = true → Thru Q P (evSs C a ρ S1)) (k0 : t = false → Thru Q P (evSs C b ρ S1)) (k : ∀ ρ' S', Q ρ' S' → P (evSs C r ρ' S')) : P (evSs C (.cons (.ite c a b p) r) ρ S) := by
  have go : ∀ x : SRes, Thru Q P x → P (match x with
    | .go .next ρ1 S1 => evSs C r ρ1 S1
    | x => x) := fun x hx => by
    cases x with
    | stuck => exact hx
    | exc c ns l ρ2 S2 => exact hx
    | go f ρ2 S2 =>
      cases f with
      | next => exact k _ _ hx
      | brk => exact hx
      | cont => exact hx
      | ret v => exact hx
  refine p_if h ?_
  cases t with
  | true => exact go _ (k1 rfl)
  | false => exact go _ (k0 rfl)
theorem w_ret {e : IE} {v : R} (h : evE C.toCalls e ρ S = .ok v S1) (k : P (.go (.ret v) ρ S1)) : P (evSs C (.cons (.ret e p) r) ρ S) := by
  rw [ss_ret (r_ret h)]
  exact k
theorem w_expr {e : IE} {v : R} (h : evE C.toCalls e ρ S = .ok v S1) (k : P (evSs C r ρ S1)) : P (evSs C (.cons (.expr e p) r) ρ S) := p_next (r_expr h) k
theorem forL_wish {t : IT} {g : Gd} {b : Env → Store → SRes} (Pv : Nat → Env → Store → Prop) : ∀ (xs : List Itm) (k : Nat) (ρ : Env) (S : Store), Pv k ρ S → (∀ i ρ S, Pv i ρ S → gdOk S g = true) →
    (∀ i x ρ S, xs[i]? = some x → Pv (k + i) ρ S → ∃ ρ1, bindT t x ρ S = some ρ1 ∧ Turn (Pv (k + i + 1)) P (b ρ1 S)) → (∃ ρ' S', forL t g b xs ρ S = .go .next ρ' S' ∧ Pv (k + xs.length) ρ' S') ∨ (P (forL t g b xs ρ S) ∧ ∀ ρ' S', forL t g b xs ρ S ≠ .go .next ρ' S')
  | [], k, ρ, S, h0, hg, _ => .inl ⟨ρ, S, by
      show (if gdOk S g = true then _ else _) = _
      rw [if_pos (hg _ _ _ h0)], h0⟩
  | x :: xs, k, ρ, S, h0, hg, hs => by
    obtain ⟨ρ1, h1, h2⟩ := hs 0 x ρ S rfl h0
    unfold forL
    rw [if_pos (hg _ _ _ h0)]
    simp only [h1]
    have ih := fun (ρ2 : Env) (S2 : Store) (h3 : Pv (k + 1) ρ2 S2) => forL_wish Pv xs (k + 1) ρ2 S2 h3 hg fun i y ρ S hy hp => by
      have e : k + 1 + i = k + (i + 1) := by omega
      rw [e] at hp ⊢
      exact hs (i + 1) y ρ S hy hp
    have el : k + (x :: xs).length = k + 1 + xs.length := by rw [List.length_cons]; omega
    rw [el]
    cases hb : b ρ1 S with
    | stuck => rw [hb] at h2; exact h2.elim
    | exc c ns l ρ2 S2 => rw [hb] at h2; exact .inr ⟨h2, fun _ _ z => by cases z⟩
    | go f ρ2 S2 =>
      cases f with
      | next => rw [hb] at h2; exact ih ρ2 S2 h2
      | cont => rw [hb] at h2; exact ih ρ2 S2 h2
      | brk => rw [hb] at h2; exact h2.elim
      | ret v => rw [hb] at h2; exact .inr ⟨h2, fun _ _ z => by cases z⟩
/-- a for: Pv at each turn; a turn may also end the walk -/
theorem w_for {t : IT} {it : II} {b : ISs} {xs : List Itm} {g : Gd} (Pv : Nat → Env → Store → Prop) (hi : evII C.toCalls it ρ S = .ok (xs, g) S1) (h0 : Pv 0 ρ S1) (hg : ∀ i ρ S, Pv i ρ S → gdOk S g = true)
    (hs : ∀ i x ρ S, xs[i]? = some x → Pv i ρ S → ∃ ρ1, bindT t x ρ S = some ρ1 ∧ Turn (Pv (i + 1)) P (evSs C b ρ1 S)) (k : ∀ ρ' S', Pv xs.length ρ' S' → P (evSs C r ρ' S')) : P (evSs C (.cons (.for_ t it b p) r) ρ S) := by
  show P (match evS C (.for_ t it b p) ρ S with
    | .go .next ρ1 S1 => evSs C r ρ1 S1
    | x => x)
  rw [r_for hi]
  rcases forL_wish (P := P) Pv xs 0 ρ S1 h0 hg (fun i x ρ S hx hp => by
    rw [Nat.zero_add] at hp ⊢
    exact hs i x ρ S hx hp) with ⟨ρ', S', h1, h2⟩ | ⟨h1, h2⟩
  · rw [Nat.zero_add] at h2
    rw [h1]
    exact k ρ' S' h2
  · cases hf : forL t g (fun ρ' S' => evSs C b ρ' S') xs ρ S1 with
    | stuck => rw [hf] at h1; exact h1
    | exc c ns l ρ2 S2 => rw [hf] at h1; exact h1
    | go f ρ2 S2 =>
      cases f with
      | next => exact absurd hf (h2 ρ2 S2)
      | cont => rw [hf] at h1; exact h1
      | brk => rw [hf] at h1; exact h1
      | ret v => rw [hf] at h1; exact h1
/-- over a range from 0 -/
theorem w_rng {i : Nat} {x : Str} {px : Pos} {it : II} {b : ISs} {lo : Int} {n : Nat} (Pv : Nat → Env → Store → Prop) (hi : evII C.toCalls it ρ S = .ok (rngI lo n, []) S1) (h0 : Pv 0 ρ S1)
    (hs : ∀ k ρ S, k < n → Pv k ρ S → Turn (Pv (k + 1)) P (evSs C b (ρ.set i (some (.dat (.int (lo + (k : Int)))))) S)) (k : ∀ ρ' S', Pv n ρ' S' → P (evSs C r ρ' S')) : P (evSs C (.cons (.for_ (.one i x px) it b p) r) ρ S) := by
  refine w_for Pv hi h0 (fun _ _ _ _ => gd_nil) (fun k y ρ S hy hp => ?_) (by
    have e : (rngI lo n).length = n := by rw [rng_eq, List.length_map, List.length_range]
    rw [e]
    exact k)
  rw [rng_eq, List.getElem?_map] at hy
  by_cases hk : k < n
  · rw [List.getElem?_range hk] at hy
    cases hy
    exact ⟨_, rfl, hs k ρ S hk hp⟩
  · rw [List.getElem?_eq_none (by rw [List.length_range]; omega)] at hy
    cases hy
/-- over a list that is data -/
theorem w_lst {i : Nat} {x : Str} {px : Pos} {it : II} {b : ISs} {l : List D} (Pv : Nat → Env → Store → Prop) (hi : evII C.toCalls it ρ S = .ok ((l.map R.dat).map .one, []) S1) (h0 : Pv 0 ρ S1)
    (hs : ∀ k d ρ S, l[k]? = some d → Pv k ρ S → Turn (Pv (k + 1)) P (evSs C b (ρ.set i (some (.dat d))) S)) (k : ∀ ρ' S', Pv l.length ρ' S' → P (evSs C r ρ' S')) : P (evSs C (.cons (.for_ (.one i x px) it b p) r) ρ S) := by
  refine w_for Pv hi h0 (fun _ _ _ _ => gd_nil) (fun k y ρ S hy hp => ?_) (by rw [List.length_map, List.length_map]; exact k)
  rw [List.getElem?_map, List.getElem?_map] at hy
  cases e : l[k]? with
  | none => rw [e] at hy; cases hy
  | some d =>
    rw [e] at hy
    cases hy
    exact ⟨_, rfl, hs k d ρ S e hp⟩
end
/-- a call, told of a wish -/
theorem run_q {T : Tab} {n i : Nat} {F : Fn} {rs : List R} {S : Store} (Q : Res R → Prop) (hF : T.fns[i]? = some F) (hl : rs.length = F.np) (hb : Q (sealS S.length (evSs (T.C n) F.body (MP.start F rs) S))) : Q (callN T (n + 1) i rs S) := by
  rw [run_call hF hl rfl rfl]
  exact hb
section
variable {C : Calls} {ρ : Env} {S S1 S2 : Store} {p : Pos}
theorem c_and {a b : IE} {x y : Bool} (ha : evE C a ρ S = .ok (.dat (.bl x)) S) (hb : evE C b ρ S = .ok (.dat (.bl y)) S) : evE C (.and a (.cons b .nil) p) ρ S = .ok (.dat (.bl (x && y))) S := by
  show M.bind (M.bind (evE C a ρ) truB) (fun b' => if b' = true then evE C b ρ else M.pure (R.dat (.bl false))) S = _
  have e : M.bind (evE C a ρ) truB S = .ok x S := by rw [bind_at ha]; rfl
  rw [bind_at e]
  cases x with
  | false => rfl
  | true => exact hb
theorem c_or {a b : IE} {x y : Bool} (ha : evE C a ρ S = .ok (.dat (.bl x)) S) (hb : evE C b ρ S = .ok (.dat (.bl y)) S) : evE C (.or a (.cons b .nil) p) ρ S = .ok (.dat (.bl (x || y))) S := by
  show M.bind (M.bind (evE C a ρ) truB) (fun b' => if b' = true then M.pure (R.dat (.bl true)) else evE C b ρ) S = _
  have e : M.bind (evE C a ρ) truB S = .ok x S := by rw [bind_at ha]; rfl
  rw [bind_at e]
  cases x with
  | true => rfl
  | false => exact hb
theorem c_not {a : IE} {x : Bool} (ha : evE C a ρ S = .ok (.dat (.bl x)) S1) : evE C (.not a p) ρ S = .ok (.dat (.bl (!x))) S1 := by
  show M.bind (M.bind (evE C a ρ) truB) (fun b => M.pure (R.dat (.bl (!b)))) S = _
  have e : M.bind (evE C a ρ) truB S = .ok x S1 := by rw [bind_at ha]; rfl
  rw [bind_at e]
  rfl
theorem c_bin {m : Bool} {op : Bop} {a b : IE} {x y : R} {r : Res R} (ha : evE C a ρ S = .ok x S1) (hb : evE C b ρ S1 = .ok y S2) (h : binR m op x y S2 = r) : evE C (.bin m op a b p) ρ S = r := by
  show M.bind (evE C a ρ) (fun x => M.bind (evE C b ρ) fun y => binR m op x y) S = _
  rw [bind_at ha, bind_at hb, h]
theorem c_cmp {op : Cop} {a b : IE} {x y : R} {r : Res R} (ha : evE C a ρ S = .ok x S1) (hb : evE C b ρ S1 = .ok y S2) (h : cmpR op x y S2 = r) : evE C (.cmp op a b p) ρ S = r := by
  show M.bind (evE C a ρ) (fun x => M.bind (evE C b ρ) fun y => cmpR op x y) S = _
  rw [bind_at ha, bind_at hb, h]
theorem c_ix {a i : IE} {x y : R} {r : Res R} (ha : evE C a ρ S = .ok x S1) (hb : evE C i ρ S1 = .ok y S2) (h : ixR x y S2 = r) : evE C (.ix a i p) ρ S = r := by
  show M.bind (evE C a ρ) (fun x => M.bind (evE C i ρ) fun y => ixR x y) S = _
  rw [bind_at ha, bind_at hb, h]
theorem c_call1 {f : Nat} {x : Str} {a : IE} {p0 : Pos} {v : R} {r : Res R} (ha : evE C a ρ S = .ok v S1) (h : C.fn f [v] S1 = r) : evE C (.call f x a .nil p0 p) ρ S = r := by
  show M.bind (evE C a ρ) (fun x => M.bind (M.pure []) fun xs => C.fn f (x :: xs)) S = _
  rw [bind_at ha]
  exact h
theorem c_call2 {f : Nat} {x : Str} {a b : IE} {p0 : Pos} {v w : R} {r : Res R} (ha : evE C a ρ S = .ok v S1) (hb : evE C b ρ S1 = .ok w S2) (h : C.fn f [v, w] S2 = r) : evE C (.call f x a (.cons b .nil) p0 p) ρ S = r := by
  show M.bind (evE C a ρ) (fun x => M.bind (M.bind (evE C b ρ) fun y => M.bind (M.pure []) fun ys => M.pure (y :: ys)) fun xs => C.fn f (x :: xs)) S = _
  rw [bind_at ha, bind_assoc, bind_at hb]
  exact h
theorem c_call3 {f : Nat} {x : Str} {a b c : IE} {p0 : Pos} {v w u : R} {S3 : Store} {r : Res R} (ha : evE C a ρ S = .ok v S1) (hb : evE C b ρ S1 = .ok w S2) (hc : evE C c ρ S2 = .ok u S3) (h : C.fn f [v, w, u] S3 = r) : evE C (.call f x a (.cons b (.cons c .nil)) p0 p) ρ S = r := by
  show M.bind (evE C a ρ) (fun x => M.bind (M.bind (evE C b ρ) fun y => M.bind (M.bind (evE C c ρ) fun z => M.bind (M.pure []) fun zs => M.pure (z :: zs)) fun ys => M.pure (y :: ys)) fun xs => C.fn f (x :: xs)) S = _
  rw [bind_at ha, bind_assoc, bind_at hb, bind_assoc, bind_assoc, bind_at hc]
  exact h
theorem c_bi1 {m : Bool} {f : Bf} {a : IE} {p0 : Pos} {v : R} {r : Res R} (ha : evE C a ρ S = .ok v S1) (h : biR m f [v] S1 = r) : evE C (.bi m f a .nil p0 p) ρ S = r := by
  show M.bind (evE C a ρ) (fun x => M.bind (M.pure []) fun xs => biR m f (x :: xs)) S = _
  rw [bind_at ha]
  exact h
theorem c_bi2 {m : Bool} {f : Bf} {a b : IE} {p0 : Pos} {v w : R} {r : Res R} (ha : evE C a ρ S = .ok v S1) (hb : evE C b ρ S1 = .ok w S2) (h : biR m f [v, w] S2 = r) : evE C (.bi m f a (.cons b .nil) p0 p) ρ S = r := by
  show M.bind (evE C a ρ) (fun x => M.bind (M.bind (evE C b ρ) fun y => M.bind (M.pure []) fun ys => M.pure (y :: ys)) fun xs => biR m f (x :: xs)) S = _
  rw [bind_at ha, bind_assoc, bind_at hb]
  exact h
end
end MP
set_option Elab.async false
set_option linter.all false
set_option maxRecDepth 100000
set_option maxHeartbeats 1000000
/-! MPWish2: while; single expressions. -/
namespace MP
open PySem PySem.Spec PyProof.Rows L2
section
variable {c : Env → M Bool} {body : Env → Store → SRes}
theorem whileN_more : ∀ {n : Nat} {ρ : Env} {S : Store} {r : SRes} (k : Nat), whileN c body n ρ S = some r → whileN c body (n + k) ρ S = some r
  | 0, _, _, _, _, h => by cases h
  | n + 1, ρ, S, r, k, h => by
    rw [show n + 1 + k = (n + k) + 1 by omega]
    unfold whileN at h ⊢
    cases e : c ρ S with
    | ok t S1 =>
      rw [e] at h
      cases t with
      | false => exact h
      | true =>
        cases e2 : body ρ S1 with
        | stuck => simp only [e2] at h ⊢; exact h
        | exc a b d f g => simp only [e2] at h ⊢; exact h
        | go f ρ2 S2 =>
          cases f with
          | next => simp only [e2] at h ⊢; exact whileN_more k h
          | cont => simp only [e2] at h ⊢; exact whileN_more k h
          | brk => simp only [e2] at h ⊢; exact h
          | ret v => simp only [e2] at h ⊢; exact h
    | exc a b d f => rw [e] at h; exact h
    | stuck => rw [e] at h; exact h
theorem while_eq {n : Nat} {ρ : Env} {S : Store} {r : SRes} (h : whileN c body n ρ S = some r) : whileX c body ρ S = r := by
  unfold whileX
  have z : ∃ n r, whileN c body n ρ S = some r := ⟨n, r, h⟩
  rw [dif_pos z]
  have h1 := z.choose_spec.choose_spec
  have h2 := whileN_more n h1
  have h3 := whileN_more z.choose h
  rw [Nat.add_comm] at h3
  rw [h3] at h2
  exact (Option.some.inj h2).symm
theorem while_ind (I : Env → Store → Prop) (μ : Env → Store → Nat) (Q : SRes → Prop) (hs : ∀ ρ S, I ρ S → ∃ t S1, c ρ S = .ok t S1 ∧ (t = false → Q (.go .next ρ S1)) ∧ (t = true → ∃ ρ2 S2, body ρ S1 = .go .next ρ2 S2 ∧ I ρ2 S2 ∧ μ ρ2 S2 < μ ρ S)) :
    ∀ (m : Nat) (ρ : Env) (S : Store), μ ρ S ≤ m → I ρ S → ∃ n r, whileN c body n ρ S = some r ∧ Q r := by
  intro m
  induction m with
  | zero =>
    intro ρ S hm hI
    obtain ⟨t, S1, e, h0, h1⟩ := hs ρ S hI
    cases t with
    | false => exact ⟨1, _, by unfold whileN; rw [e], h0 rfl⟩
    | true =>
      obtain ⟨ρ2, S2, _, _, h4⟩ := h1 rfl
      omega
  | succ m ih =>
    intro ρ S hm hI
    obtain ⟨t, S1, e, h0, h1⟩ := hs ρ S hI
    cases t with
    | false => exact ⟨1, _, by unfold whileN; rw [e], h0 rfl⟩
    | true =>
      obtain ⟨ρ2, S2, e2, h3, h4⟩ := h1 rfl
      obtain ⟨n, r, h5, h6⟩ := ih ρ2 S2 (by omega) h3
      exact ⟨n + 1, r, by unfold whileN; rw [e]; simp only [e2]; exact h5, h6⟩
end
section
variable {C : CallsX} {ρ : Env} {S S1 S2 : Store} {p : Pos} {r : ISs} {P : SRes → Prop}
theorem w_while {c : IE} {b : ISs} (I : Env → Store → Prop) (μ : Env → Store → Nat) (h0 : I ρ S)
    (hs : ∀ ρ S, I ρ S → ∃ t S1, evE C.toCalls c ρ S = .ok (.dat (.bl t)) S1 ∧ (t = false → P (evSs C r ρ S1)) ∧ (t = true → ∃ ρ2 S2, evSs C b ρ S1 = .go .next ρ2 S2 ∧ I ρ2 S2 ∧ μ ρ2 S2 < μ ρ S)) : P (evSs C (.cons (.while_ c b p) r) ρ S) := by
  obtain ⟨n, x, h1, h2⟩ := while_ind (c := fun ρ' => M.bind (evE C.toCalls c ρ') truB) (body := fun ρ' S' => evSs C b ρ' S') I μ (fun x => P (match x with
    | .go .next ρ1 S1 => evSs C r ρ1 S1
    | x => x)) (fun ρ S hI => by
    obtain ⟨t, S1, e, a, b⟩ := hs ρ S hI
    exact ⟨t, S1, by rw [bind_at e]; rfl, a, b⟩) (μ ρ S) ρ S (Nat.le_refl _) h0
  show P (match evS C (.while_ c b p) ρ S with
    | .go .next ρ1 S1 => evSs C r ρ1 S1
    | x => x)
  have e : evS C (.while_ c b p) ρ S = x := while_eq h1
  rw [e]
  exact h2
theorem w_if0 {c : IE} {a b : ISs} {t : Bool} (h : evE C.toCalls c ρ S = .ok (.dat (.bl t)) S1) (ht : t = false) (k : P (evSs C (b.app r) ρ S1)) : P (evSs C (.cons (.ite c a b p) r) ρ S) := by
  subst ht
  exact w_ifF h k
theorem w_if1 {c : IE} {a b : ISs} {t : Bool} (h : evE C.toCalls c ρ S = .ok (.dat (.bl t)) S1) (ht : t = true) (k : P (evSs C (a.app r) ρ S1)) : P (evSs C (.cons (.ite c a b p) r) ρ S) := by
  subst ht
  exact w_ifT h k
/-- a, b = a tuple of data -/
theorem w_two {i j : Nat} {x y : Str} {px py p1 : Pos} {k : Nat} {e : IE} {d d' : D} (h : evE C.toCalls e ρ S = .ok (.dat (.tup [d, d'])) S1) (hk : P (evSs C r ((ρ.set i (some (.dat d))).set j (some (.dat d'))) S1)) : P (evSs C (.cons (.asg (.many [(i, x, px), (j, y, py)] k p1) e p) r) ρ S) := by
  refine p_next (ρ1 := (ρ.set i (some (.dat d))).set j (some (.dat d'))) (S1 := S1) ?_ hk
  show SRes.of ρ (evE C.toCalls e ρ S) _ = _
  rw [h]
  rfl
theorem w_raise1 {c : Str} {f : Option Nat} {a : IE} {pn pc : Pos} {X : XC} {d : D} (hX : C.xc c = some X) (ha : evE C.toCalls a ρ S = .ok (.dat d) S1) (hk : keptAll X.fs [.dat d] S1 = .ok [d] S1) (k : P (.exc c (X.fs.map (·.1)) [d] ρ S1)) : P (evSs C (.cons (.raise c f (.cons a .nil) pn pc p) r) ρ S) := by
  show P (match (match C.xc c with
    | none => SRes.stuck
    | some _ => SRes.of ρ ((M.bind (evEs C.toCalls (.cons a .nil) ρ) fun rs => raiseR C c rs) S) fun _ _ => SRes.stuck) with
    | .go .next ρ1 S1 => evSs C r ρ1 S1
    | x => x)
  have e : (M.bind (evEs C.toCalls (.cons a .nil) ρ) fun rs => raiseR C c rs) S = .exc c (X.fs.map (·.1)) [d] S1 := by
    show M.bind (M.bind (evE C.toCalls a ρ) fun x => M.bind (M.pure []) fun xs => M.pure (x :: xs)) (fun rs => raiseR C c rs) S = _
    rw [bind_assoc, bind_at ha]
    show raiseR C c [.dat d] S1 = _
    unfold raiseR
    rw [hX]
    show M.bind (keptAll X.fs [.dat d]) _ S1 = _
    rw [bind_at hk]
  rw [hX, e]
  exact k
/-- a call that raises, as a statement -/
theorem w_exprX {e : IE} {c : Str} {ns : List Str} {l : List D} (h : evE C.toCalls e ρ S = .exc c ns l S1) (k : P (.exc c ns l ρ S1)) : P (evSs C (.cons (.expr e p) r) ρ S) := by
  show P (match SRes.of ρ (evE C.toCalls e ρ S) _ with
    | .go .next ρ1 S1 => evSs C r ρ1 S1
    | x => x)
  rw [h]
  exact k
/-- try: the body raises what the first clause takes, whose suite returns -/
theorem w_tryR {b s : ISs} {c n : Str} {i : Nat} {pc ph : Pos} {hs : IHs} {c' : Str} {ns : List Str} {l : List D} {ρ1 ρ2 : Env} {v : R} (hb : evSs C b ρ S = .exc c' ns l ρ1 S1) (hc : C.sub c' c = some true) (hh : evSs C s (ρ1.set i (some (.exc c' ns l))) S1 = .go (.ret v) ρ2 S2)
    (k : P (.go (.ret v) ((dropX ρ2).set i none) S2)) : P (evSs C (.cons (.try1 b c i n s pc ph hs p) r) ρ S) := by
  show P (match evS C (.try1 b c i n s pc ph hs p) ρ S with
    | .go .next ρ1 S1 => evSs C r ρ1 S1
    | x => x)
  have e : evS C (.try1 b c i n s pc ph hs p) ρ S = .go (.ret v) ((dropX ρ2).set i none) S2 := by
    show (match evSs C b ρ S with
    | .exc c' ns l ρ1 S1 => (match C.sub c' c with
      | some true => (match evSs C s (ρ1.set i (some (.exc c' ns l))) S1 with
        | .go f ρ2 S2 => SRes.go f ((dropX ρ2).set i none) S2
        | _ => SRes.stuck)
      | _ => SRes.stuck)
    | r => r) = _
    rw [hb]
    simp only [hc, hh]
  rw [e]
  exact k
end
section
variable {C : Calls} {ρ : Env} {S S1 S2 : Store} {p : Pos}
theorem r_mul {m : Bool} {i j : Int} (h : mulOk i j = true) : binR m .mul (.dat (.int i)) (.dat (.int j)) S = .ok (.dat (.int (i * j))) S := by
  show (if mulOk i j = true then M.pure (R.dat (.int (i * j))) else M.stuck) S = _
  rw [if_pos h]
  rfl
theorem r_div {m : Bool} {i j : Int} (h : divOk j = true) : binR m .fdiv (.dat (.int i)) (.dat (.int j)) S = .ok (.dat (.int (i / j))) S := by
  show (if divOk j = true then M.pure (R.dat (.int (i / j))) else M.stuck) S = _
  rw [if_pos h]
  rfl
theorem r_mod {m : Bool} {i j : Int} (h : 0 < j) : binR m .mod (.dat (.int i)) (.dat (.int j)) S = .ok (.dat (.int (i % j))) S := by
  show (if 0 < j then M.pure (R.dat (.int (i % j))) else M.stuck) S = _
  rw [if_pos h]
  rfl
theorem c_add {m : Bool} {a b : IE} {i j : Int} (ha : evE C a ρ S = .ok (.dat (.int i)) S1) (hb : evE C b ρ S1 = .ok (.dat (.int j)) S2) : evE C (.bin m .add a b p) ρ S = .ok (.dat (.int (i + j))) S2 := c_bin ha hb rfl
theorem c_sub {m : Bool} {a b : IE} {i j : Int} (ha : evE C a ρ S = .ok (.dat (.int i)) S1) (hb : evE C b ρ S1 = .ok (.dat (.int j)) S2) : evE C (.bin m .sub a b p) ρ S = .ok (.dat (.int (i - j))) S2 := c_bin ha hb rfl
theorem c_mul {m : Bool} {a b : IE} {i j : Int} (ha : evE C a ρ S = .ok (.dat (.int i)) S1) (hb : evE C b ρ S1 = .ok (.dat (.int j)) S2) (h : mulOk i j = true) : evE C (.bin m .mul a b p) ρ S = .ok (.dat (.int (i * j))) S2 := c_bin ha hb (r_mul h)
theorem c_div {m : Bool} {a b : IE} {i j : Int} (ha : evE C a ρ S = .ok (.dat (.int i)) S1) (hb : evE C b ρ S1 = .ok (.dat (.int j)) S2) (h : divOk j = true) : evE C (.bin m .fdiv a b p) ρ S = .ok (.dat (.int (i / j))) S2 := c_bin ha hb (r_div h)
theorem c_mod {m : Bool} {a b : IE} {i j : Int} (ha : evE C a ρ S = .ok (.dat (.int i)) S1) (hb : evE C b ρ S1 = .ok (.dat (.int j)) S2) (h : 0 < j) : evE C (.bin m .mod a b p) ρ S = .ok (.dat (.int (i % j))) S2 := c_bin ha hb (r_mod h)
theorem c_gcd {l : Bool} {a b : IE} {p0 : Pos} {x y : R} {r : Res R} (ha : evE C a ρ S = .ok x S1) (hb : evE C b ρ S1 = .ok y S2) (h : gcdR l x y S2 = r) : evE C (.gcd l a b p0 p) ρ S = r := by
  show M.bind (evE C a ρ) (fun x => M.bind (evE C b ρ) fun y => gcdR l x y) S = _
  rw [bind_at ha, bind_at hb, h]
theorem c_attr {a : IE} {c f : Str} {x : R} {r : Res R} (ha : evE C a ρ S = .ok x S1) (h : attrR x c f S1 = r) : evE C (.attr a c f p) ρ S = r := by
  show M.bind (evE C a ρ) (fun x => attrR x c f) S = _
  rw [bind_at ha, h]
theorem c_tup2 {a b : IE} {k : Nat} {d d' : D} (ha : evE C a ρ S = .ok (.dat d) S1) (hb : evE C b ρ S1 = .ok (.dat d') S2) : evE C (.tup (.cons a (.cons b .nil)) k p) ρ S = .ok (.dat (.tup [d, d'])) S2 := by
  show M.bind (M.bind (evE C a ρ) fun x => M.bind (M.bind (evE C b ρ) fun y => M.bind (M.pure []) fun ys => M.pure (y :: ys)) fun xs => M.pure (x :: xs)) mkT S = _
  rw [bind_assoc, bind_at ha, bind_assoc, bind_assoc, bind_at hb]
  rfl
theorem c_orT {a : IE} {r : IEs} {q : IE} (ha : evE C a ρ S = .ok (.dat (.bl true)) S1) : evE C (.or a (.cons q r) p) ρ S = .ok (.dat (.bl true)) S1 := by
  show M.bind (M.bind (evE C a ρ) truB) (fun b' => if b' = true then M.pure (R.dat (.bl true)) else evOr C (.cons q r) ρ) S = _
  have e : M.bind (evE C a ρ) truB S = .ok true S1 := by rw [bind_at ha]; rfl
  rw [bind_at e]
  rfl
theorem c_make1 {m : Bool} {f : Nat} {c : Str} {a : IE} {p0 : Pos} {v : R} {r : Res R} (ha : evE C a ρ S = .ok v S1) (h : makeR C m f c [v] S1 = r) : evE C (.make m f c a .nil p0 p) ρ S = r := by
  show M.bind (evE C a ρ) (fun x => M.bind (M.pure []) fun xs => makeR C m f c (x :: xs)) S = _
  rw [bind_at ha]
  exact h
theorem c_make2 {m : Bool} {f : Nat} {c : Str} {a b : IE} {p0 : Pos} {v w : R} {r : Res R} (ha : evE C a ρ S = .ok v S1) (hb : evE C b ρ S1 = .ok w S2) (h : makeR C m f c [v, w] S2 = r) : evE C (.make m f c a (.cons b .nil) p0 p) ρ S = r := by
  show M.bind (evE C a ρ) (fun x => M.bind (M.bind (evE C b ρ) fun y => M.bind (M.pure []) fun ys => M.pure (y :: ys)) fun xs => makeR C m f c (x :: xs)) S = _
  rw [bind_at ha, bind_assoc, bind_at hb]
  exact h
theorem c_makeD1 {m : Bool} {f : Nat} {c : Str} {a : IE} {ds : List Int} {p0 : Pos} {v : R} {r : Res R} (ha : evE C a ρ S = .ok v S1) (h : makeR C m f c (v :: intsD ds) S1 = r) : evE C (.makeD m f c a .nil ds p0 p) ρ S = r := by
  show M.bind (evE C a ρ) (fun x => M.bind (M.pure []) fun xs => makeR C m f c (x :: xs ++ intsD ds)) S = _
  rw [bind_at ha]
  exact h
theorem c_callK1 {f : Nat} {x nm : Str} {a e : IE} {p0 q : Pos} {v w : R} {r : Res R} (ha : evE C a ρ S = .ok v S1) (he : evE C e ρ S1 = .ok w S2) (h : C.fn f [v, w] S2 = r) : evE C (.callK f x a .nil (.cons nm e q .nil) [0, 1] p0 p) ρ S = r := by
  show M.bind (evE C a ρ) (fun x => M.bind (M.pure []) fun xs => M.bind (M.bind (evE C e ρ) fun y => M.bind (M.pure []) fun ys => M.pure (y :: ys)) fun ys => match pick [0, 1] (x :: xs ++ ys) with
    | some zs => C.fn f zs
    | none => M.stuck) S = _
  rw [bind_at ha]
  show M.bind (M.bind (evE C e ρ) fun y => M.bind (M.pure []) fun ys => M.pure (y :: ys)) (fun ys => match pick [0, 1] (v :: [] ++ ys) with
    | some zs => C.fn f zs
    | none => M.stuck) S1 = _
  rw [bind_assoc, bind_at he]
  exact h
theorem c_callK2 {f : Nat} {x nm nm' : Str} {a e e' : IE} {p0 q q' : Pos} {v w u : R} {r : Res R} {S3 : Store} {pm : List Nat} {zs : List R} (ha : evE C a ρ S = .ok v S1) (he : evE C e ρ S1 = .ok w S2) (he' : evE C e' ρ S2 = .ok u S3) (hp : pick pm [v, w, u] = some zs) (h : C.fn f zs S3 = r) : evE C (.callK f x a .nil (.cons nm e q (.cons nm' e' q' .nil)) pm p0 p) ρ S = r := by
  show M.bind (evE C a ρ) (fun x => M.bind (M.pure []) fun xs => M.bind (M.bind (evE C e ρ) fun y => M.bind (M.bind (evE C e' ρ) fun z => M.bind (M.pure []) fun zs => M.pure (z :: zs)) fun ys => M.pure (y :: ys)) fun ys => match pick pm (x :: xs ++ ys) with
    | some zs => C.fn f zs
    | none => M.stuck) S = _
  rw [bind_at ha]
  show M.bind (M.bind (evE C e ρ) fun y => M.bind (M.bind (evE C e' ρ) fun z => M.bind (M.pure []) fun zs => M.pure (z :: zs)) fun ys => M.pure (y :: ys)) (fun ys => match pick pm (v :: [] ++ ys) with
    | some zs => C.fn f zs
    | none => M.stuck) S1 = _
  rw [bind_assoc, bind_at he, bind_assoc, bind_assoc, bind_at he']
  show (match pick pm [v, w, u] with
    | some zs => C.fn f zs
    | none => M.stuck) S3 = _
  rw [hp]
  exact h
theorem c_call4 {f : Nat} {x : Str} {a b c d : IE} {p0 : Pos} {v w u z : R} {S3 S4 : Store} {r : Res R} (ha : evE C a ρ S = .ok v S1) (hb : evE C b ρ S1 = .ok w S2) (hc : evE C c ρ S2 = .ok u S3) (hd : evE C d ρ S3 = .ok z S4) (h : C.fn f [v, w, u, z] S4 = r) : evE C (.call f x a (.cons b (.cons c (.cons d .nil))) p0 p) ρ S = r := by
  show M.bind (evE C a ρ) (fun x => M.bind (M.bind (evE C b ρ) fun y => M.bind (M.bind (evE C c ρ) fun z => M.bind (M.bind (evE C d ρ) fun z' => M.bind (M.pure []) fun zs' => M.pure (z' :: zs')) fun zs => M.pure (z :: zs)) fun ys => M.pure (y :: ys)) fun xs => C.fn f (x :: xs)) S = _
  rw [bind_at ha, bind_assoc, bind_at hb, bind_assoc, bind_assoc, bind_at hc, bind_assoc, bind_assoc, bind_at hd]
  exact h
/-- one's own operator on data -/
theorem c_opm {f : Nat} {c : Str} {op : Bop} {a b : IE} {ns ns' : List Str} {l l' : List D} {r : Res R} (ha : evE C a ρ S = .ok (.dat (.obj c ns l)) S1) (hb : evE C b ρ S1 = .ok (.dat (.obj c ns' l')) S2) (h : C.fn f [.dat (.obj c ns l), .dat (.obj c ns' l')] S2 = r) : evE C (.opm f c op a b p) ρ S = r := by
  show M.bind (evE C a ρ) (fun x => M.bind (evE C b ρ) fun y => objR c y (methR C f c [x, y])) S = _
  rw [bind_at ha, bind_at hb]
  show (if c = c then methR C f c [.dat (.obj c ns l), .dat (.obj c ns' l')] S2 else .stuck) = _
  rw [if_pos rfl]
  show (if c = c then C.fn f [.dat (.obj c ns l), .dat (.obj c ns' l')] S2 else .stuck) = _
  rw [if_pos rfl]
  exact h
end
end MP
set_option Elab.async false
set_option linter.all false
set_option maxRecDepth 100000
set_option maxHeartbeats 1000000
/-! DL: rows, lists of numbers and their cells, as the evaluation handles them. -/
namespace DL
open PySem PySem.Spec PyProof.Rows L2 MP
variable {n : Nat} {S : Store} {rows M : List (List Int)} {m : Nat} {B s : Int}
abbrev IL (ns : List Int) : D := .lst (ns.map D.int)
abbrev RL (ns : List Int) : R := .dat (IL ns)
abbrev RI (i : Int) : R := .dat (.int i)
abbrev RM (rows : List (List Int)) : R := .dat (.lst (rows.map IL))
abbrev TL (ns : List Int) : D := .tup (ns.map D.int)
def el (a : List Int) (k : Nat) : Int := a[k]?.getD 0
def sm (n : Nat) (f : Nat → Int) : Int := ((List.range n).map f).sum
theorem el_at {a : List Int} {k : Nat} (h : k < a.length) : (a.map D.int)[k]? = some (.int (el a k)) := by
  unfold el
  rw [List.getElem?_map, List.getElem?_eq_getElem h]
  rfl
theorem el_mem {a : List Int} {k : Nat} (h : k < a.length) : el a k ∈ a := by
  unfold el
  rw [List.getElem?_eq_getElem h]
  exact List.getElem_mem _
theorem sum_rng {m : Bool} {k : Nat} {f : Nat → Int} : biR m .sum [.dat (.lst ((List.range k).map fun i => D.int (f i)))] S = .ok (RI (sm k f)) S := by
  have e : ((List.range k).map fun i => D.int (f i)) = ((List.range k).map f).map D.int := by rw [List.map_map]; rfl
  rw [e]
  exact sum_dat
def ps (rows : List (List Int)) : Int := rows.foldl (fun t r => t * r.sum) 1
theorem ps_take {rows : List (List Int)} {i : Nat} {r : List Int} (h : rows[i]? = some r) : ps (rows.take (i + 1)) = ps (rows.take i) * r.sum := by
  unfold ps
  rw [List.take_add_one, h, List.foldl_append]
  rfl
theorem ps_sm {k : Nat} {rows : List (List Int)} (hs : ∀ r ∈ rows, Sm k r.sum) : ∀ i, i ≤ rows.length → Sm (1 + k * i) (ps (rows.take i))
  | 0, _ => by show (1 : Int).natAbs < 2 ^ (1 + k * 0); rw [Nat.mul_zero]; decide
  | i + 1, hi => by
    have hr : rows[i]? = some rows[i] := List.getElem?_eq_getElem (by omega)
    rw [ps_take hr]
    exact ((ps_sm hs i (by omega)).mul (hs _ (List.getElem_mem _))).mono (by rw [Nat.mul_succ]; omega)
theorem e_sums {C : Calls} {m : Bool} {a : IE} {i : Nat} {own : List (Str × Nat)} {sc : Scope} {x : Str} {p1 p2 p3 p4 p5 : Pos} {ρ : MP.Env} {rows : List (List Int)} (h : evE C a ρ S = .ok (RM rows) S) (hi : i < ρ.length) (hz : rows.length ≤ 1000000) :
    evE C (.lc false (.bi m .sum (.var i x p1) .nil p2 p3) (.one i x p4) (.of a) .nil own sc p5) ρ S = .ok (RL (rows.map List.sum)) S := by
  have q := lc_lst (C := C) (e := .bi m .sum (.var i x p1) .nil p2 p3) (i := i) (x := x) (px := p4) (it := .of a) (own := own) (sc := sc) (p := p5) (ρ := ρ) (S := S) (l := rows.map IL) (gd := []) (g := fun d => match d with
    | .lst l => (match intsR (l.map R.dat) with
      | some ns => .int ns.sum
      | none => .non)
    | _ => .non) (ii_of h) gd_nil (fun d hd => by
      obtain ⟨r, hr, e⟩ := List.mem_map.mp hd
      subst e
      have e4 := sum_dat (m := m) (ns := r) (S := S)
      have e5 : intsR ((r.map D.int).map R.dat) = some r := by
        rw [List.map_map]
        exact intsR_map r
      have hl : i < (wipeE ρ (own.map (·.2))).length := by
        have : ∀ vs : List Nat, (wipeE ρ vs).length = ρ.length := fun vs => by
          induction vs with
          | nil => rfl
          | cons v vs ih => show ((wipeE ρ vs).set v none).length = _; rw [List.length_set, ih]
        rw [this]
        exact hi
      have eg : getV ((wipeE ρ (own.map (·.2))).set i (some (RL r))) i = MP.M.pure (RL r) := by
        unfold getV
        rw [List.getElem?_set_self hl]
      show MP.M.bind (getV ((wipeE ρ (own.map (·.2))).set i (some (RL r))) i) (fun x => MP.M.bind (MP.M.pure []) fun xs => biR m .sum (x :: xs)) S = _
      rw [eg]
      show biR m .sum [RL r] S = _
      rw [e4]
      simp only [e5]) (by rw [List.length_map]; exact hz)
  rw [q, List.map_map]
  have e : (rows.map ((fun d => match d with
    | D.lst l => (match intsR (l.map R.dat) with
      | some ns => D.int ns.sum
      | none => .non)
    | _ => .non) ∘ IL)) = (rows.map List.sum).map D.int := by
    rw [List.map_map]
    refine List.map_congr_left fun r _ => ?_
    have e5 : intsR ((r.map D.int).map R.dat) = some r := by
      rw [List.map_map]
      exact intsR_map r
    show (match intsR ((r.map D.int).map R.dat) with
      | some ns => D.int ns.sum
      | none => .non) = _
    rw [e5]
    rfl
  rw [e]
theorem sm_zero (f : Nat → Int) : sm 0 f = 0 := rfl
theorem sm_succ (n : Nat) (f : Nat → Int) : sm (n + 1) f = sm n f + f n := by
  unfold sm
  rw [List.range_succ, List.map_append, List.sum_append]
  simp
theorem sm_congr {n : Nat} {f g : Nat → Int} (h : ∀ k, k < n → f k = g k) : sm n f = sm n g := by
  unfold sm
  congr 1
  exact List.map_congr_left fun k hk => h k (List.mem_range.mp hk)
theorem sm_abs {a : Nat} {f : Nat → Int} : ∀ n, (∀ k, k < n → Sm a (f k)) → (sm n f).natAbs ≤ n * 2 ^ a
  | 0, _ => by rw [sm_zero]; simp
  | n + 1, h => by
    rw [sm_succ, Nat.succ_mul]
    have h1 := sm_abs n fun k hk => h k (by omega)
    have h2 : (f n).natAbs < 2 ^ a := h n (by omega)
    have h3 := Int.natAbs_add_le (sm n f) (f n)
    omega
theorem sm_sm {a n : Nat} {f : Nat → Int} (h : ∀ k, k < n → Sm a (f k)) (hn : n ≤ 63) : Sm (a + 6) (sm n f) := by
  have h1 := sm_abs n h
  have h2 : 0 < 2 ^ a := Nat.pow_pos (by decide)
  show (sm n f).natAbs < 2 ^ (a + 6)
  rw [Nat.pow_add]
  have h3 : n * 2 ^ a ≤ 63 * 2 ^ a := Nat.mul_le_mul_right _ hn
  omega
theorem e_parts {C : Calls} {m : Bool} {gi i ri : Nat} {own : List (Str × Nat)} {sc : Scope} {x xg xr' : Str} {p1 p2 p3 p4 p5 p6 p7 p8 : Pos} {ρ : MP.Env} {rows : List (List Int)} {g : Int} (hr : ρ[ri]? = some (some (RM rows))) (hg : ρ[gi]? = some (some (RI g))) (hne : gi ≠ i) (hi : i < ρ.length) (hown : own.map (·.2) = [i]) (hz : rows.length ≤ 1000000)
    (hd : ∀ r ∈ rows, divOk r.sum = true) :
    evE C (.lc false (.bin m .fdiv (.var gi xg p1) (.bi m .sum (.var i x p2) .nil p3 p4) p5) (.one i x p6) (.of (.var ri xr' p7)) .nil own sc p8) ρ S = .ok (RL (rows.map fun r => g / r.sum)) S := by
  have hrr : evE C (.var ri xr' p7) ρ S = .ok (.dat (.lst (rows.map IL))) S := by
    show getV ρ ri S = _
    unfold getV
    rw [hr]
    rfl
  have gs : ∀ r : List Int, intsR ((r.map D.int).map R.dat) = some r := fun r => by
    rw [List.map_map]
    exact intsR_map r
  have q := lc_lst (C := C) (e := .bin m .fdiv (.var gi xg p1) (.bi m .sum (.var i x p2) .nil p3 p4) p5) (i := i) (x := x) (px := p6) (it := .of (.var ri xr' p7)) (own := own) (sc := sc) (p := p8) (ρ := ρ) (S := S) (l := rows.map IL) (gd := []) (g := fun d => match d with
    | .lst l => (match intsR (l.map R.dat) with
      | some ns => .int (g / ns.sum)
      | none => .non)
    | _ => .non) (ii_of hrr) gd_nil (fun d hd' => by
      obtain ⟨r, hr', e⟩ := List.mem_map.mp hd'
      subst e
      have e4 := sum_dat (m := m) (ns := r) (S := S)
      rw [hown]
      show MP.M.bind (getV ((ρ.set i none).set i (some (RL r))) gi) (fun a => MP.M.bind (MP.M.bind (getV ((ρ.set i none).set i (some (RL r))) i) (fun x => MP.M.bind (MP.M.pure []) fun xs => biR m .sum (x :: xs))) fun b => binR m .fdiv a b) S = _
      have eg : getV ((ρ.set i none).set i (some (RL r))) i = MP.M.pure (RL r) := by
        unfold getV
        rw [List.getElem?_set_self (by rw [List.length_set]; exact hi)]
      have eg2 : getV ((ρ.set i none).set i (some (RL r))) gi = MP.M.pure (RI g) := by
        unfold getV
        rw [List.getElem?_set_ne hne.symm, List.getElem?_set_ne hne.symm, hg]
      rw [eg, eg2]
      simp only [MP.M.bind, MP.M.pure, e4, binR, hd r hr', if_pos, gs]) (by rw [List.length_map]; exact hz)
  rw [q, List.map_map]
  have e : (rows.map ((fun d => match d with
    | D.lst l => (match intsR (l.map R.dat) with
      | some ns => D.int (g / ns.sum)
      | none => .non)
    | _ => .non) ∘ IL)) = (rows.map fun r => g / r.sum).map D.int := by
    rw [List.map_map]
    refine List.map_congr_left fun r _ => ?_
    show (match intsR ((r.map D.int).map R.dat) with
      | some ns => D.int (g / ns.sum)
      | none => .non) = _
    rw [gs]
    rfl
  rw [e]
def row (rows : List (List Int)) (j : Nat) : List Int := rows[j]?.getD []
theorem row_at {rows : List (List Int)} {k : Nat} (h : k < rows.length) : (rows.map IL)[k]? = some (IL (row rows k)) := by
  unfold row
  rw [List.getElem?_map, List.getElem?_eq_getElem h]
  rfl
theorem row_mem {rows : List (List Int)} {k : Nat} (h : k < rows.length) : row rows k ∈ rows := by
  unfold row
  rw [List.getElem?_eq_getElem h]
  exact List.getElem_mem _
def unit (n b : Nat) : List Int := (List.range n).map fun j => if j = b then 1 else 0
theorem el_map {n : Nat} {f : Nat → Int} {k : Nat} (h : k < n) : el ((List.range n).map f) k = f k := by
  unfold el
  rw [List.getElem?_map, List.getElem?_range h]
  rfl
theorem mem_rng {n : Nat} {f : Nat → Int} {x : Int} (h : x ∈ (List.range n).map f) : ∃ k, k < n ∧ x = f k := by
  obtain ⟨k, hk, e⟩ := List.mem_map.mp h
  exact ⟨k, List.mem_range.mp hk, e.symm⟩
theorem sum_sm {a : Nat} : ∀ (l : List Int), (∀ x ∈ l, Sm a x) → l.sum.natAbs ≤ l.length * 2 ^ a
  | [], _ => by simp
  | x :: l, h => by
    have h1 := sum_sm l fun y hy => h y (List.mem_cons_of_mem _ hy)
    have h2 : x.natAbs < 2 ^ a := h x List.mem_cons_self
    have h3 := Int.natAbs_add_le x l.sum
    rw [List.sum_cons, List.length_cons, Nat.succ_mul]
    omega
theorem max_dat {m : Bool} {x : Int} {xs : List Int} : biR m .max [RL (x :: xs)] S = .ok (RI (maxI (x :: xs))) S := by
  have e : itemsL S (RL (x :: xs)) = some (((x :: xs).map D.int).map R.dat) := rfl
  have e2 : intsR (((x :: xs).map D.int).map R.dat) = some (x :: xs) := by
    rw [List.map_map]
    exact intsR_map (x :: xs)
  show (match (itemsL S (RL (x :: xs))).bind intsR with
    | some (x :: xs) => Res.ok (R.dat (.int (maxI (x :: xs)))) S
    | _ => .stuck) = _
  rw [e, Option.bind_some, e2]
theorem ix_tup {l : List D} {k : Nat} {d : D} {S : Store} (h : l[k]? = some d) : ixR (.dat (.tup l)) (.dat (.int (k : Int))) S = .ok (.dat d) S := ix_nat h
theorem zip_at : ∀ {l l' : List D} {i : Nat} {x : Itm}, (zipI (l.map R.dat) (l'.map R.dat))[i]? = some x → ∃ a b, l[i]? = some a ∧ l'[i]? = some b ∧ x = .tup [.dat a, .dat b]
  | [], _, i, x, h => by cases h
  | _ :: _, [], i, x, h => by cases h
  | a :: l, b :: l', 0, x, h => by
    cases h
    exact ⟨a, b, rfl, rfl, rfl⟩
  | a :: l, b :: l', i + 1, x, h => zip_at (l := l) (l' := l') (i := i) h
theorem zip_len : ∀ {l l' : List D}, l.length = l'.length → (zipI (l.map R.dat) (l'.map R.dat)).length = l.length
  | [], _, _ => rfl
  | _ :: _, [], h => by cases h
  | a :: l, b :: l', h => congrArg Nat.succ (zip_len (l := l) (l' := l') (Nat.succ.inj h))
inductive Seq : D → List D → Prop
  | l (l : List D) : Seq (.lst l) l
  | t (l : List D) : Seq (.tup l) l
theorem Seq.walk {d : D} {l : List D} (h : Seq d l) : walkR (.dat d) S = .ok (l.map .dat) S := by cases h <;> rfl
theorem ii_zip {C : Calls} {ρ : MP.Env} {a b : IE} {p0 p : Pos} {x y : D} {l l' : List D} (h1 : evE C a ρ S = .ok (.dat x) S) (h2 : evE C b ρ S = .ok (.dat y) S) (hx : Seq x l) (hy : Seq y l') :
    evII C (.zip a b p0 p) ρ S = .ok (zipI (l.map R.dat) (l'.map R.dat), []) S := by
  show MP.M.bind (evE C a ρ) (fun x => MP.M.bind (evE C b ρ) fun y => MP.M.bind (walkR x) fun rs => MP.M.bind (walkR y) fun qs => fun S => .ok (zipI rs qs, guardR S x ++ guardR S y) S) S = _
  simp only [MP.M.bind, h1, h2, hx.walk, hy.walk]
  rfl
theorem lc_zip {C : Calls} {e a b : IE} {i j : Nat} {xn yn : Str} {px py p0 p1 p2 : Pos} {own : List (Str × Nat)} {sc : Scope} {p : Pos} {ρ : MP.Env} {x y : D} {l l' : List D} {G : Nat → D} {n : Nat} {q : Nat}
    (h1 : evE C a ρ S = .ok (.dat x) S) (h2 : evE C b ρ S = .ok (.dat y) S) (hx : Seq x l) (hy : Seq y l') (hn : l.length = n) (hn' : l'.length = n)
    (he : ∀ (k : Nat) d d', l[k]? = some d → l'[k]? = some d' → evE C e (((wipeE ρ (own.map (·.2))).set i (some (.dat d))).set j (some (.dat d'))) S = .ok (.dat (G k)) S) (hl : n ≤ 1000000) :
    evE C (.lc false e (.many [(i, xn, px), (j, yn, py)] q p0) (.zip a b p1 p2) .nil own sc p) ρ S = .ok (.dat (.lst ((List.range n).map G))) S :=
  lc_ix (ii_zip h1 h2 hx hy) gd_nil ((zip_len (hn.trans hn'.symm)).trans hn) (fun k z hz => by
    obtain ⟨d, d', e1, e2, e3⟩ := zip_at hz
    subst e3
    exact ⟨_, rfl, he k d d' e1 e2⟩) hl
theorem div_sm {k : Nat} {x y : Int} (h : Sm k x) (hy : 0 < y) : Sm k (x / y) := by
  show (x / y).natAbs < 2 ^ k
  have h1 : (x / y).natAbs ≤ x.natAbs := Int.natAbs_ediv_le_natAbs x y
  exact Nat.lt_of_le_of_lt h1 h
theorem tl_at {k : Nat} {d : D} (h : (rows.map TL)[k]? = some d) : k < rows.length ∧ d = TL (row rows k) := by
  rw [List.getElem?_map] at h
  cases e : rows[k]? with
  | none => rw [e] at h; cases h
  | some r =>
    rw [e] at h
    cases h
    exact ⟨(List.getElem?_eq_some_iff.mp e).1, by unfold row; rw [e]; rfl⟩
theorem in_at {a : List Int} {k : Nat} {d : D} (h : (a.map D.int)[k]? = some d) : k < a.length ∧ d = .int (el a k) := by
  rw [List.getElem?_map] at h
  cases e : a[k]? with
  | none => rw [e] at h; cases h
  | some r =>
    rw [e] at h
    cases h
    exact ⟨(List.getElem?_eq_some_iff.mp e).1, by unfold el; rw [e]; rfl⟩
theorem RM_map {m : Nat} {f : Nat → List Int} : RM ((List.range m).map f) = .dat (.lst ((List.range m).map fun r => IL (f r))) := by
  show R.dat (.lst (List.map IL (List.map f _))) = _
  rw [List.map_map]
  rfl
theorem RL_map {m : Nat} {f : Nat → Int} : IL ((List.range m).map f) = .lst ((List.range m).map fun r => D.int (f r)) := by
  show D.lst (List.map D.int (List.map f _)) = _
  rw [List.map_map]
  rfl
theorem sub_sm {a b : Nat} {x y : Int} (hx : Sm a x) (hy : Sm b y) : Sm (a + b + 1) (x - y) := by
  have h1 : x.natAbs < 2 ^ a := hx
  have h2 : y.natAbs < 2 ^ b := hy
  have h3 : 2 ^ a ≤ 2 ^ (a + b) := Nat.pow_le_pow_right (by decide) (by omega)
  have h4 : 2 ^ b ≤ 2 ^ (a + b) := Nat.pow_le_pow_right (by decide) (by omega)
  show (x - y).natAbs < 2 ^ (a + b + 1)
  rw [Nat.pow_succ]
  omega
theorem bls_map : ∀ bs : List Bool, blsR ((bs.map D.bl).map R.dat) = some bs
  | [] => rfl
  | b :: bs => by
    show (blsR ((bs.map D.bl).map R.dat)).map (b :: ·) = _
    rw [bls_map bs]
    rfl
theorem all_dat {m : Bool} {bs : List Bool} : biR m .all [.dat (.lst (bs.map D.bl))] S = .ok (.dat (.bl (bs.all id))) S := by
  have e : itemsL S (.dat (.lst (bs.map D.bl))) = some ((bs.map D.bl).map R.dat) := rfl
  show (match (itemsL S (.dat (.lst (bs.map D.bl)))).bind blsR with
    | some xs => Res.ok (R.dat (.bl (xs.all id))) S
    | none => .stuck) = _
  rw [e]
  show (match blsR ((bs.map D.bl).map R.dat) with
    | some xs => Res.ok (R.dat (.bl (xs.all id))) S
    | none => .stuck) = _
  rw [bls_map]
theorem il_at {k : Nat} {d : R} (h : ((rows.map IL).map R.dat)[k]? = some d) : k < rows.length ∧ d = RL (row rows k) := by
  rw [List.getElem?_map, List.getElem?_map] at h
  cases e : rows[k]? with
  | none => rw [e] at h; cases h
  | some r =>
    rw [e] at h
    cases h
    exact ⟨(List.getElem?_eq_some_iff.mp e).1, by unfold row; rw [e]; rfl⟩
theorem one_at {l : List R} {k : Nat} {x : Itm} (h : (l.map Itm.one)[k]? = some x) : ∃ r, l[k]? = some r ∧ x = .one r := by
  rw [List.getElem?_map] at h
  cases e : l[k]? with
  | none => rw [e] at h; cases h
  | some r =>
    rw [e] at h
    cases h
    exact ⟨r, rfl, rfl⟩
theorem rin_at {a : List Int} {k : Nat} {d : R} (h : ((a.map D.int).map R.dat)[k]? = some d) : k < a.length ∧ d = RI (el a k) := by
  rw [List.getElem?_map] at h
  cases e : (a.map D.int)[k]? with
  | none => rw [e] at h; cases h
  | some r =>
    rw [e] at h
    cases h
    obtain ⟨h1, h2⟩ := in_at e
    exact ⟨h1, by rw [h2]⟩
theorem enum_at : ∀ {l : List R} {m i : Nat} {x : Itm}, (enumI m l)[i]? = some x → ∃ r, l[i]? = some r ∧ x = .tup [RI ((m + i : Nat) : Int), r]
  | [], m, i, x, h => by cases h
  | a :: l, m, 0, x, h => by
    cases h
    exact ⟨a, rfl, rfl⟩
  | a :: l, m, i + 1, x, h => by
    obtain ⟨r, h1, h2⟩ := enum_at (l := l) (m := m + 1) (i := i) h
    exact ⟨r, h1, by rw [h2, show m + 1 + i = m + (i + 1) by omega]⟩
theorem ii_enum {C : Calls} {ρ : MP.Env} {a : IE} {p0 p : Pos} {l : List D} (h : evE C a ρ S = .ok (.dat (.lst l)) S) : evII C (.enum a p0 p) ρ S = .ok (enumI 0 (l.map R.dat), []) S := by
  show MP.M.bind (evE C a ρ) _ S = _
  simp only [MP.M.bind, h]
  rfl
theorem for_same {C : CallsX} {t : IT} {it : II} {b : ISs} {p : Pos} {xs : List Itm} {ρ : MP.Env} (Pv : MP.Env → Prop) (hi : evII C.toCalls it ρ S = .ok (xs, []) S) (h0 : Pv ρ)
    (hs : ∀ (i : Nat) x ρ, xs[i]? = some x → Pv ρ → ∃ ρ1, bindT t x ρ S = some ρ1 ∧ ∃ ρ2, evSs C b ρ1 S = .go .next ρ2 S ∧ Pv ρ2) : ∃ ρ', evS C (.for_ t it b p) ρ S = .go .next ρ' S ∧ Pv ρ' := by
  obtain ⟨ρ', S', h1, h2, h3⟩ := for_ind (t := t) (g := []) (b := fun ρ' S' => evSs C b ρ' S') (fun _ ρ S' => S' = S ∧ Pv ρ) xs 0 ρ S ⟨rfl, h0⟩ (fun _ _ _ _ => gd_nil) (fun i x ρ S1 hx ⟨e1, e2⟩ => by
    subst e1
    obtain ⟨ρ1, h1, ρ2, h2, h3⟩ := hs i x ρ hx e2
    exact ⟨ρ1, h1, ρ2, S1, h2, rfl, h3⟩)
  subst h2
  exact ⟨ρ', by rw [r_for hi]; exact h1, h3⟩
theorem loop_ex {t : IT} {g : Gd} {c : MP.Env → MP.M Bool} {e : MP.Env → MP.M (List R)} {ρ0 : MP.Env} {B : Nat} (hg : gdOk S g = true) : ∀ {xs : List Itm}, (∀ (i : Nat) x, xs[i]? = some x → ∃ ρ', bindT t x ρ0 S = some ρ' ∧ ∃ b, c ρ' S = .ok b S ∧ (b = true → ∃ ds : List D, ds.length ≤ B ∧ e ρ' S = .ok (ds.map R.dat) S)) →
    ∃ ds : List D, ds.length ≤ B * xs.length ∧ lcLoop g (lcTurn t g c e ρ0) xs S = .ok (ds.map R.dat) S
  | [], _ => ⟨[], Nat.zero_le _, by
    show (if gdOk S g = true then _ else _) = _
    rw [if_pos hg]
    rfl⟩
  | x :: xs, h => by
    obtain ⟨ρ', h1, b, h2, h3⟩ := h 0 x rfl
    obtain ⟨ds2, g1, g2⟩ := loop_ex (e := e) (B := B) hg (xs := xs) fun i y hy => h (i + 1) y hy
    have e1 : ∃ ds : List D, ds.length ≤ B ∧ lcTurn t g c e ρ0 x S = .ok (ds.map R.dat) S := by
      unfold lcTurn
      rw [if_pos hg]
      simp only [h1]
      unfold M.noX
      rw [bind_at h2]
      cases b with
      | false => exact ⟨[], Nat.zero_le _, rfl⟩
      | true =>
        obtain ⟨ds, k1, k2⟩ := h3 rfl
        exact ⟨ds, k1, by simp only [if_pos, k2]⟩
    obtain ⟨ds1, k1, k2⟩ := e1
    refine ⟨ds1 ++ ds2, by rw [List.length_append, List.length_cons, Nat.mul_succ]; omega, ?_⟩
    show MP.M.bind (lcTurn t g c e ρ0 x) (fun a => MP.M.bind (lcLoop g (lcTurn t g c e ρ0) xs) fun b => MP.M.pure (a ++ b)) S = _
    rw [bind_at k2, bind_at g2, List.map_append]
    rfl
theorem enum_len : ∀ (l : List R) m, (enumI m l).length = l.length
  | [], _ => rfl
  | a :: l, m => congrArg Nat.succ (enum_len l (m + 1))
theorem lc2_ex {C : Calls} {e : IE} {t t2 : IT} {it it2 : II} {cs2 : IEs} {own : List (Str × Nat)} {vs2 : List Nat} {sc : Scope} {p : Pos} {ρ : MP.Env} {xs : List Itm} {g : Gd} {B : Nat} (hi : evII C it ρ S = .ok (xs, g) S) (hg : gdOk S g = true)
    (hx : ∀ (i : Nat) x, xs[i]? = some x → ∃ ρ', bindT t x (wipeE ρ (own.map (·.2))) S = some ρ' ∧ ∃ xs2 g2, evII C it2 ρ' S = .ok (xs2, g2) S ∧ gdOk S g2 = true ∧ xs2.length ≤ B ∧
      ∀ (j : Nat) y, xs2[j]? = some y → ∃ ρ2, bindT t2 y (wipeE ρ' vs2) S = some ρ2 ∧ ∃ b, evTs C cs2 ρ2 S = .ok b S ∧ (b = true → ∃ d, evE C e ρ2 S = .ok (.dat d) S)) (hB : B * xs.length ≤ 1000000) :
    ∃ ds : List D, evE C (.lc2 false e t it .nil t2 it2 cs2 own vs2 sc p) ρ S = .ok (.dat (.lst ds)) S := by
  obtain ⟨ds, h1, h2⟩ := loop_ex (S := S) (g := g) (t := t) (c := fun ρ' => evTs C .nil ρ') (e := fun ρ' => MP.M.bind (evII C it2 ρ') fun q2 => lcLoop q2.2 (lcTurn t2 q2.2 (fun ρ2 => evTs C cs2 ρ2) (fun ρ2 => MP.M.bind (evE C e ρ2) fun r => MP.M.pure [r]) (wipeE ρ' vs2)) q2.1) (ρ0 := wipeE ρ (own.map (·.2))) (B := B) hg (xs := xs) (fun i x h => by
    obtain ⟨ρ', h1, xs2, g2, h2, h3, h4, h5⟩ := hx i x h
    refine ⟨ρ', h1, true, rfl, fun _ => ?_⟩
    obtain ⟨ds, k1, k2⟩ := loop_ex (S := S) (g := g2) (t := t2) (c := fun ρ2 => evTs C cs2 ρ2) (e := fun ρ2 => MP.M.bind (evE C e ρ2) fun r => MP.M.pure [r]) (ρ0 := wipeE ρ' vs2) (B := 1) h3 (xs := xs2) (fun j y hy => by
      obtain ⟨ρ2, l1, b, l2, l3⟩ := h5 j y hy
      refine ⟨ρ2, l1, b, l2, fun hb => ?_⟩
      obtain ⟨d, l4⟩ := l3 hb
      exact ⟨[d], Nat.le_refl _, by rw [bind_at l4]; rfl⟩)
    exact ⟨ds, by omega, by rw [bind_at h2]; exact k2⟩)
  refine ⟨ds, ?_⟩
  show MP.M.bind (evII C it ρ) (fun q => MP.M.bind (lcLoop q.2 (lcTurn t q.2 (fun ρ' => evTs C .nil ρ') (fun ρ' => MP.M.bind (evII C it2 ρ') fun q2 =>
        lcLoop q2.2 (lcTurn t2 q2.2 (fun ρ2 => evTs C cs2 ρ2) (fun ρ2 => MP.M.bind (evE C e ρ2) fun r => MP.M.pure [r]) (wipeE ρ' vs2)) q2.1) (wipeE ρ (own.map (·.2)))) q.1) (lcOut false)) S = _
  rw [bind_at hi, bind_at h2]
  unfold lcOut
  rw [if_pos (show small (ds.map R.dat).length = true by rw [List.length_map]; exact decide_eq_true (by omega))]
  unfold mkL
  rw [datsR_map]
theorem set_last {c c' : Cell} : (S ++ [c]).set S.length c' = S ++ [c'] := by
  rw [List.set_append_right _ _ (Nat.le_refl _), Nat.sub_self]
  rfl
theorem get_last {c : Cell} : (S ++ [c])[S.length]? = some c := by simp
theorem map_row {α : Type} (f : List Int → α) : rows.map f = (List.range rows.length).map fun k => f (row rows k) := by
  refine List.ext_getElem (by simp) fun i h1 h2 => ?_
  have h3 : i < rows.length := by rw [List.length_map] at h1; exact h1
  simp [row, List.getElem?_eq_getElem h3]
theorem tup_dat {m : Bool} {l : List D} : biR m .tuple [.dat (.lst l)] S = .ok (.dat (.tup l)) S := by
  have e : biR m .tuple [.dat (.lst l)] S = mkT (l.map R.dat) S := rfl
  rw [e]
  unfold mkT
  rw [datsR_map]
theorem bi1 {C : Calls} {m : Bool} {f : Bf} {a : IE} {p1 p2 : Pos} {ρ : MP.Env} {r r' : R} (h : evE C a ρ S = .ok r S) (h2 : biR m f [r] S = .ok r' S) : evE C (.bi m f a .nil p1 p2) ρ S = .ok r' S := by
  show MP.M.bind (evE C a ρ) (fun x => MP.M.bind (evEs C .nil ρ) fun xs => biR m f (x :: xs)) S = _
  rw [bind_at h]
  exact h2
theorem sum_tup {m : Bool} {ns : List Int} : biR m .sum [.dat (TL ns)] S = .ok (RI ns.sum) S := sum_dat (m := m) (ns := ns) (S := S)
def lcmI (w d : Int) : Int := (Nat.lcm w.natAbs d.natAbs : Nat)
theorem lcm_sm {a b : Nat} {w d : Int} (hw : Sm a w) (hd : Sm b d) : Sm (a + b) (lcmI w d) := by
  show (Nat.lcm w.natAbs d.natAbs) < 2 ^ (a + b)
  have h1 : Nat.lcm w.natAbs d.natAbs ≤ w.natAbs * d.natAbs := Nat.div_le_self _ _
  rw [Nat.pow_add]
  exact Nat.lt_of_le_of_lt h1 (Nat.mul_lt_mul'' hw hd)
theorem lcm_run {w d : Int} (hw : w.natAbs.log2 < 9000) (hd : d.natAbs.log2 < 9000) : gcdR true (RI w) (RI d) S = .ok (RI (lcmI w d)) S := by
  show (if true = true then (if decide (w.natAbs.log2 < 9000 ∧ d.natAbs.log2 < 9000) = true then Res.ok (R.dat (.int (Nat.lcm w.natAbs d.natAbs))) S else .stuck) else Res.ok (R.dat (.int (Nat.gcd w.natAbs d.natAbs))) S) = _
  rw [if_pos rfl, if_pos (decide_eq_true ⟨hw, hd⟩)]
  rfl
abbrev pool (ns : List Int) : Cell := .lst ((ns.map D.int).map R.dat)
theorem wf_set {S : Store} {k : Nat} {c : Cell} (h : WF S) (hc : c.below S.length = true) : WF (S.set k c) := by
  show (S.set k c).all (Cell.below (S.set k c).length) = true
  rw [List.length_set, List.all_eq_true]
  intro x hx
  rcases List.mem_or_eq_of_mem_set hx with h1 | h1
  · exact List.all_eq_true.mp h x h1
  · rw [h1]
    exact hc
theorem pys_map : ∀ ns : List Int, pys (ns.map D.int) = some (ns.map PyData.int)
  | [] => rfl
  | i :: ns => by
    show (match some (PyData.int i), pys (ns.map D.int) with
    | some x, some xs => some (x :: xs)
    | _, _ => none) = _
    rw [pys_map ns]
    rfl
theorem eq_pool {k : Nat} {ns : List Int} (hS : S[k]? = some (pool ns)) (hsh : SeqAt.shaped (.list (ns.map PyData.int)) = true) : eqD S (.own k) (.dat (.lst [])) = some ns.isEmpty := by
  have e1 : toD 0 S 8 (.own k) = some (.lst (ns.map D.int)) := by
    rw [toD_lst hS (Nat.zero_le _), allD_dat]
    rfl
  have e2 : toD 0 S 8 (.dat (.lst [])) = some (.lst []) := rfl
  have e3 : py (.lst (ns.map D.int)) = some (.list (ns.map PyData.int)) := by
    show (pys (ns.map D.int)).map PyData.list = _
    rw [pys_map]
    rfl
  have e4 : py (.lst []) = some (.list []) := rfl
  show (match toD 0 S 8 (.own k), toD 0 S 8 (.dat (.lst [])) with
    | some d, some e => (match py d, py e with
      | some x, some y => if SeqAt.shaped x = true ∧ SeqAt.shaped y = true then some (PyData.eqv x y) else none
      | _, _ => none)
    | _, _ => none) = _
  rw [e1, e2]
  show (match py (.lst (ns.map D.int)), py (.lst []) with
      | some x, some y => if SeqAt.shaped x = true ∧ SeqAt.shaped y = true then some (PyData.eqv x y) else none
      | _, _ => none) = _
  rw [e3, e4]
  show (if SeqAt.shaped (.list (ns.map PyData.int)) = true ∧ SeqAt.shaped (.list []) = true then some (PyData.eqv (.list (ns.map PyData.int)) (.list [])) else none) = _
  rw [if_pos ⟨hsh, by decide⟩]
  cases ns <;> rfl
theorem lay_ints : ∀ ns : List Int, PyData.canLayAll0 (ns.map PyData.int) = true
  | [] => by simp [PyData.canLayAll0]
  | i :: ns => by simp [PyData.canLayAll0, PyData.canLay0, lay_ints ns]
theorem dep_ints : ∀ ns : List Int, PyData.depthAll (ns.map PyData.int) ≤ 2
  | [] => by simp [PyData.depthAll]
  | i :: ns => by
    have := dep_ints ns
    simp [PyData.depthAll, PyData.depth] <;> omega
theorem sh_ints (ns : List Int) : SeqAt.shaped (.list (ns.map PyData.int)) = true := by
  unfold SeqAt.shaped
  have h1 := lay_ints ns
  have h2 := dep_ints ns
  rw [Bool.and_eq_true, decide_eq_true_iff]
  refine ⟨by simp [PyData.canLay0, h1], ?_⟩
  simp only [PyData.depth]
  omega
def ownsR (b m : Nat) : List R := (List.range m).map fun i => R.own (b + i)
theorem loop_new {t : IT} {c : MP.Env → MP.M Bool} {e : MP.Env → MP.M (List R)} {ρ0 : MP.Env} {cell : Cell} : ∀ {xs : List Itm} {S : Store}, (∀ x ∈ xs, ∀ S, ∃ ρ', bindT t x ρ0 S = some ρ' ∧ c ρ' S = .ok true S ∧ e ρ' S = .ok [.own S.length] (S ++ [cell])) →
    lcLoop [] (lcTurn t [] c e ρ0) xs S = .ok (ownsR S.length xs.length) (S ++ List.replicate xs.length cell)
  | [], S, _ => by
    show (if gdOk S [] = true then Res.ok [] S else .stuck) = _
    rw [if_pos gd_nil]
    simp [ownsR]
  | x :: xs, S, h => by
    obtain ⟨ρ', h1, h2, h3⟩ := h x List.mem_cons_self S
    have e1 : lcTurn t [] c e ρ0 x S = .ok [.own S.length] (S ++ [cell]) := by
      unfold lcTurn
      rw [if_pos gd_nil]
      simp only [h1]
      unfold M.noX
      rw [bind_at h2]
      simp only [if_pos, h3]
    have ih := loop_new (t := t) (c := c) (e := e) (ρ0 := ρ0) (cell := cell) (xs := xs) (S := S ++ [cell]) fun y hy => h y (List.mem_cons_of_mem _ hy)
    show MP.M.bind (lcTurn t [] c e ρ0 x) (fun a => MP.M.bind (lcLoop [] (lcTurn t [] c e ρ0) xs) fun b => MP.M.pure (a ++ b)) S = _
    rw [bind_at e1, bind_at ih]
    have e2 : [R.own S.length] ++ ownsR (S ++ [cell]).length xs.length = ownsR S.length (xs.length + 1) := by
      unfold ownsR
      rw [List.range_succ_eq_map, List.map_cons, List.map_map]
      simp [Function.comp_def, Nat.add_assoc, Nat.add_comm 1]
    show Res.ok ([R.own S.length] ++ ownsR (S ++ [cell]).length xs.length) _ = _
    rw [e2]
    simp [List.replicate_succ]
def stM (S : Store) (M : List (List Int)) : Store := S ++ (M.map pool ++ [Cell.lst (ownsR S.length M.length)])
theorem rng_lenN (lo : Int) (m : Nat) : (rngI lo m).length = m := by rw [rng_eq, List.length_map, List.length_range]
theorem stM_len : (stM S M).length = S.length + M.length + 1 := by
  unfold stM
  rw [List.length_append, List.length_append, List.length_map]
  simp only [List.length_cons, List.length_nil]
  omega
theorem stM_outer : (stM S M)[S.length + M.length]? = some (.lst (ownsR S.length M.length)) := by
  unfold stM
  rw [List.getElem?_append_right (by omega), List.getElem?_append_right (by rw [List.length_map]; omega), List.length_map]
  simp
theorem stM_row {i : Nat} (h : i < M.length) : (stM S M)[S.length + i]? = some (pool (row M i)) := by
  unfold stM row
  rw [List.getElem?_append_right (by omega), List.getElem?_append_left (by rw [List.length_map]; omega)]
  rw [show S.length + i - S.length = i by omega, List.getElem?_map, List.getElem?_eq_getElem h]
  rfl
theorem stM_low {i : Nat} (h : i < S.length) : (stM S M)[i]? = S[i]? := by
  unfold stM
  rw [List.getElem?_append_left h]
theorem stM_set {i : Nat} {r : List Int} (h : i < M.length) : (stM S M).set (S.length + i) (pool r) = stM S (M.set i r) := by
  unfold stM
  rw [List.set_append_right _ _ (by omega), show S.length + i - S.length = i by omega, List.set_append_left _ _ (by rw [List.length_map]; exact h), List.length_set, List.map_set]
theorem stM_setlow {i : Nat} {c : Cell} (h : i < S.length) : (stM S M).set i c = stM (S.set i c) M := by
  unfold stM
  rw [List.set_append_left _ _ h, List.length_set]
theorem stM_wf (h : WF S) : WF (stM S M) := by
  show (stM S M).all (Cell.below (stM S M).length) = true
  rw [stM_len, List.all_eq_true]
  intro x hx
  unfold stM at hx
  rcases List.mem_append.mp hx with h1 | h1
  · exact Cell.below_mono (by omega) (List.all_eq_true.mp h x h1)
  · rcases List.mem_append.mp h1 with h2 | h2
    · obtain ⟨r, _, rfl⟩ := List.mem_map.mp h2
      exact below_dats _
    · cases List.mem_singleton.mp h2
      refine List.all_eq_true.mpr fun r hr => ?_
      obtain ⟨i, hi, rfl⟩ := List.mem_map.mp hr
      have := List.mem_range.mp hi
      exact decide_eq_true (by omega)
def put (M : List (List Int)) (i j : Nat) (w : Int) : List (List Int) := M.set i ((row M i).set j w)
theorem put_len {i j : Nat} {w : Int} : (put M i j w).length = M.length := by unfold put; rw [List.length_set]
theorem ix_outer {i : Nat} (h : i < M.length) : ixR (.own (S.length + M.length)) (RI (i : Int)) (stM S M) = .ok (.own (S.length + i)) (stM S M) :=
  ix_own stM_outer (by unfold ownsR; rw [List.getElem?_map, List.getElem?_range h]; rfl)
theorem set_cell {i j : Nat} {w : Int} (h : i < M.length) (hj : j < (row M i).length) : setIxR (.own (S.length + i)) (RI (j : Int)) (RI w) (stM S M) = .ok () (stM S (put M i j w)) := by
  have h1 := stM_row (S := S) h
  have h2 : ixN (((row M i).map D.int).map R.dat).length (j : Int) = some j := by
    rw [List.length_map, List.length_map]
    unfold ixN
    have a1 : ¬ (j : Int) < 0 := by omega
    simp [a1, hj]
  show (match (stM S M)[S.length + i]? with
    | some (.lst rs) => (match ixN rs.length (j : Int) with
      | some k => Res.ok () ((stM S M).set (S.length + i) (.lst (rs.set k (RI w))))
      | none => .stuck)
    | _ => .stuck) = _
  rw [h1]
  simp only [h2]
  have e : (((row M i).map D.int).map R.dat).set j (RI w) = (((row M i).set j w).map D.int).map R.dat := by
    rw [List.map_set, List.map_set]
  rw [e]
  exact congrArg _ (stM_set h)
theorem row_put {i j a : Nat} {w : Int} (hi : i < M.length) : row (put M i j w) a = if a = i then (row M i).set j w else row M a := by
  unfold put
  by_cases h : a = i
  · subst h
    rw [if_pos rfl]
    show (M.set a ((row M a).set j w))[a]?.getD [] = _
    rw [List.getElem?_set_self hi]
    rfl
  · rw [if_neg h]
    show (M.set i ((row M i).set j w))[a]?.getD [] = M[a]?.getD []
    rw [List.getElem?_set_ne (fun e => h e.symm)]
theorem el_set {a : List Int} {j b : Nat} {w : Int} (hj : j < a.length) : el (a.set j w) b = if b = j then w else el a b := by
  unfold el
  by_cases h : b = j
  · subst h
    rw [if_pos rfl, List.getElem?_set_self hj]
    rfl
  · rw [if_neg h, List.getElem?_set_ne (fun e => h e.symm)]
def ent (M : List (List Int)) (a b : Nat) : Int := el (row M a) b
theorem ent_put {i j a b : Nat} {w : Int} (hi : i < M.length) (hj : j < (row M i).length) : ent (put M i j w) a b = if a = i ∧ b = j then w else ent M a b := by
  unfold ent
  rw [row_put hi]
  by_cases h : a = i
  · subst h
    rw [if_pos rfl, el_set hj]
    by_cases h2 : b = j
    · rw [if_pos h2, if_pos ⟨rfl, h2⟩]
    · rw [if_neg h2, if_neg fun z => h2 z.2]
  · rw [if_neg h, if_neg fun z => h z.1]
structure Sq (m : Nat) (B : Int) (M : List (List Int)) : Prop where
  len : M.length = m
  row : ∀ i, i < m → (DL.row M i).length = m
  pos : ∀ i j, i < m → j < m → 0 ≤ ent M i j ∧ ent M i j ≤ B
  sym : ∀ i j, i < m → j < m → ent M i j = ent M j i
def put2 (M : List (List Int)) (i j : Nat) (w : Int) : List (List Int) := put (put M i j w) j i w
theorem Sq.lenput (g : Sq m B M) {i j : Nat} {w : Int} (hi : i < m) {a : Nat} (ha : a < m) : (DL.row (put M i j w) a).length = m := by
  rw [row_put (by rw [g.len]; exact hi)]
  split
  · rw [List.length_set]
    exact g.row i hi
  · exact g.row a ha
theorem Sq.ent2 (g : Sq m B M) {i j : Nat} {w : Int} (hi : i < m) (hj : j < m) (a b : Nat) : ent (put2 M i j w) a b = if (a = i ∧ b = j) ∨ (a = j ∧ b = i) then w else ent M a b := by
  unfold put2
  rw [ent_put (by rw [put_len, g.len]; exact hj) (by rw [g.lenput hi hj]; exact hi), ent_put (by rw [g.len]; exact hi) (by rw [g.row i hi]; exact hj)]
  by_cases h1 : a = j ∧ b = i
  · rw [if_pos h1, if_pos (Or.inr h1)]
  · rw [if_neg h1]
    by_cases h2 : a = i ∧ b = j
    · rw [if_pos h2, if_pos (Or.inl h2)]
    · rw [if_neg h2, if_neg fun z => z.elim h2 h1]
theorem Sq.put2 (g : Sq m B M) {i j : Nat} {w : Int} (hi : i < m) (hj : j < m) (h0 : 0 ≤ w) (h1 : w ≤ B) : Sq m B (put2 M i j w) := by
  refine ⟨by unfold DL.put2; rw [put_len, put_len]; exact g.len, fun a ha => ?_, fun a b ha hb => ?_, fun a b ha hb => ?_⟩
  · unfold DL.put2
    rw [row_put (by rw [put_len, g.len]; exact hj)]
    split
    · rw [List.length_set]
      exact g.lenput hi hj
    · exact g.lenput hi ha
  · rw [g.ent2 hi hj]
    split
    · exact ⟨h0, h1⟩
    · exact g.pos a b ha hb
  · rw [g.ent2 hi hj, g.ent2 hi hj]
    have sw : ∀ {x y : Nat}, (x = i ∧ y = j) ∨ (x = j ∧ y = i) → (y = i ∧ x = j) ∨ (y = j ∧ x = i) := fun z => z.elim (fun z => .inr ⟨z.2, z.1⟩) fun z => .inl ⟨z.2, z.1⟩
    by_cases h : (a = i ∧ b = j) ∨ (a = j ∧ b = i)
    · rw [if_pos h, if_pos (sw h)]
    · rw [if_neg h, if_neg fun z => h (sw z)]
      exact g.sym a b ha hb
theorem p_eq {C : CallsX} {r : ISs} {ρ : MP.Env} {x : SRes} {P : SRes → Prop} (h : evSs C r ρ S = x) (k : P x) : P (evSs C r ρ S) := by
  rw [h]
  exact k
theorem r_put {C : CallsX} {ρ : MP.Env} {ns : List Int} {a b : IE} {e : IE} {p1 p2 : Pos} {i j : Nat} {w : Int} (hn : M.length = m) (hr : ∀ S, evE C.toCalls a ρ S = ixR (.own (1 + m)) (RI (i : Int)) S) (hb : ∀ S, evE C.toCalls b ρ S = .ok (RI (j : Int)) S) (he : ∀ S, evE C.toCalls e ρ S = .ok (RI w) S)
    (hi : i < M.length) (hj : j < (row M i).length) : evS C (.setIx a b e p1 p2) ρ (stM [pool ns] M) = .go .next ρ (stM [pool ns] (put M i j w)) := by
  have h1 := ix_outer (S := [pool ns]) hi
  have h2 := set_cell (S := [pool ns]) (w := w) hi hj
  have h3 : [pool ns].length = 1 := rfl
  rw [h3, hn] at h1
  rw [h3] at h2
  show SRes.of ρ (MP.M.bind (evE C.toCalls e ρ) (fun v => MP.M.bind (evE C.toCalls a ρ) fun x => MP.M.bind (evE C.toCalls b ρ) fun y => setIxR x y v) (stM [pool ns] M)) _ = _
  rw [bind_at (he _), bind_at ((hr _).trans h1), bind_at (hb _), h2]
  rfl
theorem wf_pool (ns : List Int) : WF [pool ns] := wf_push (S := []) wf_nil (below_dats _)
theorem ii_rng2 {C : Calls} {ρ : MP.Env} {a b : IE} {p0 p : Pos} {i m : Nat} (ha : evE C a ρ S = .ok (RI (i : Int)) S) (hb : evE C b ρ S = .ok (RI (m : Int)) S) (hi : i ≤ 1000000) (hm : m ≤ 1000000) : evII C (.rng2 a b p0 p) ρ S = .ok (rngI i (m - i), []) S := by
  show MP.M.bind (evE C a ρ) _ S = _
  rw [bind_at ha, bind_at hb]
  show (if rngOk (i : Int) = true ∧ rngOk (m : Int) = true then MP.M.pure (rngI (i : Int) ((m : Int) - (i : Int)).toNat, ([] : Gd)) else MP.M.stuck) S = _
  have e1 : rngOk (i : Int) = true := decide_eq_true ⟨by omega, by omega⟩
  have e2 : rngOk (m : Int) = true := decide_eq_true ⟨by omega, by omega⟩
  rw [if_pos ⟨e1, e2⟩, show ((m : Int) - (i : Int)).toNat = m - i by omega]
  rfl
theorem sum_nn : ∀ (l : List Int), (∀ x ∈ l, 0 ≤ x) → 0 ≤ l.sum
  | [], _ => Int.le_refl _
  | x :: l, h => by
    rw [List.sum_cons]
    have h1 := h x List.mem_cons_self
    have h2 := sum_nn l fun y hy => h y (List.mem_cons_of_mem _ hy)
    omega
theorem sum_ge : ∀ (l : List Int) (x : Int), (∀ x ∈ l, 0 ≤ x) → x ∈ l → x ≤ l.sum
  | y :: l, x, h, hx => by
    rw [List.sum_cons]
    have h1 := h y List.mem_cons_self
    have h2 := sum_nn l fun y hy => h y (List.mem_cons_of_mem _ hy)
    rcases List.mem_cons.mp hx with rfl | hx
    · omega
    · have := sum_ge l x (fun y hy => h y (List.mem_cons_of_mem _ hy)) hx
      omega
theorem mem_el {a : List Int} {x : Int} (h : x ∈ a) : ∃ k, k < a.length ∧ x = el a k := by
  obtain ⟨k, hk, e⟩ := List.mem_iff_getElem.mp h
  refine ⟨k, hk, ?_⟩
  unfold el
  rw [List.getElem?_eq_getElem hk, ← e]
  rfl
theorem Sq.nn (g : Sq m B M) {a : Nat} (ha : a < m) : ∀ x ∈ DL.row M a, 0 ≤ x := fun x hx => by
  obtain ⟨k, hk, rfl⟩ := mem_el hx
  rw [g.row a ha] at hk
  exact (g.pos a k ha hk).1
theorem Sq.pos_of (g : Sq m B M) {a b : Nat} (ha : a < m) (hb : b < m) (h : 0 < ent M a b) : 0 < (DL.row M a).sum := by
  have := sum_ge (DL.row M a) (ent M a b) (g.nn ha) (el_mem (by rw [g.row a ha]; exact hb))
  omega
theorem Sq.put2_row (g : Sq m B M) {i j a : Nat} {w : Int} (hi : i < m) (hj : j < m) (h1 : a ≠ i) (h2 : a ≠ j) : DL.row (DL.put2 M i j w) a = DL.row M a := by
  unfold DL.put2
  rw [row_put (by rw [put_len, g.len]; exact hj), if_neg h2, row_put (by rw [g.len]; exact hi), if_neg h1]
theorem sum_own {b : Bool} {k : Nat} {ns : List Int} (h : S[k]? = some (pool ns)) : biR b .sum [.own k] S = .ok (RI ns.sum) S := by
  have e : itemsR S (.own k) = some ((ns.map D.int).map R.dat) := by
    unfold itemsR
    simp only [h]
  show (match (itemsR S (.own k)).bind intsR with
    | some xs => Res.ok (R.dat (.int xs.sum)) S
    | none => .stuck) = _
  rw [e, List.map_map]
  have e2 : (ns.map (R.dat ∘ D.int)) = ns.map fun i => R.dat (.int i) := rfl
  rw [e2, Option.bind_some, intsR_map]
theorem allD_map {f : R → Option D} {g : Nat → R} {h : Nat → D} : ∀ k, (∀ i, i < k → f (g i) = some (h i)) → allD f ((List.range k).map g) = some ((List.range k).map h) := by
  have gen : ∀ l : List Nat, (∀ i ∈ l, f (g i) = some (h i)) → allD f (l.map g) = some (l.map h) := fun l => by
    induction l with
    | nil => intro _; rfl
    | cons i l ih =>
      intro H
      show (match f (g i), allD f (l.map g) with
        | some d, some ds => some (d :: ds)
        | _, _ => none) = _
      rw [H i List.mem_cons_self, ih fun j hj => H j (List.mem_cons_of_mem _ hj)]
      rfl
  exact fun k H => gen _ fun i hi => H i (List.mem_range.mp hi)
theorem toD_rows {ns : List Int} : toD 1 (stM [pool ns] M) 8 (.own (1 + M.length)) = some (.lst (M.map IL)) := by
  have h1 := stM_outer (S := [pool ns]) (M := M)
  have h3 : [pool ns].length = 1 := rfl
  rw [h3] at h1
  rw [toD_lst h1 (by omega)]
  unfold ownsR
  rw [allD_map (h := fun i => IL (row M i)) M.length fun i hi => by
    have h2 := stM_row (S := [pool ns]) hi
    rw [h3] at h2
    rw [toD_lst h2 (by omega), allD_dat]
    rfl]
  rw [map_row]
  rfl
theorem sq_zero (hB : 0 ≤ B) : Sq m B (List.replicate m (List.replicate m 0)) := by
  have hr : ∀ i, i < m → row (List.replicate m (List.replicate m (0 : Int))) i = List.replicate m 0 := fun i hi => by
    unfold row
    rw [List.getElem?_replicate, if_pos hi]
    rfl
  have he : ∀ i j, i < m → j < m → ent (List.replicate m (List.replicate m (0 : Int))) i j = 0 := fun i j hi hj => by
    unfold ent
    rw [hr i hi]
    unfold el
    rw [List.getElem?_replicate, if_pos hj]
    rfl
  refine ⟨List.length_replicate, fun i hi => by rw [hr i hi, List.length_replicate], fun i j hi hj => by rw [he i j hi hj]; exact ⟨Int.le_refl _, hB⟩, fun i j hi hj => by rw [he i j hi hj, he j i hj hi]⟩
theorem mem_row {r : List Int} (h : r ∈ rows) : ∃ i, i < rows.length ∧ r = row rows i := by
  obtain ⟨i, hi, e⟩ := List.mem_iff_getElem.mp h
  refine ⟨i, hi, ?_⟩
  unfold row
  rw [List.getElem?_eq_getElem hi, ← e]
  rfl
theorem sm_of {k : Nat} {x b : Int} (h0 : 0 ≤ x) (h1 : x ≤ b) (h2 : b.natAbs < 2 ^ k) : Sm k x := by
  show x.natAbs < 2 ^ k
  omega
theorem sum_le : ∀ {l : List Int} {b : Int}, (∀ x ∈ l, x ≤ b) → l.sum ≤ l.length * b
  | [], b, _ => by simp
  | x :: l, b, h => by
    rw [List.sum_cons, List.length_cons, Int.natCast_add, Int.add_mul]
    have h1 := h x List.mem_cons_self
    have h2 := sum_le (l := l) (b := b) fun y hy => h y (List.mem_cons_of_mem _ hy)
    have : ((1 : Nat) : Int) * b = b := Int.one_mul b
    omega
theorem map_el {α : Type} {a : List Int} (f : Int → α) : a.map f = (List.range a.length).map fun k => f (el a k) := by
  refine List.ext_getElem (by simp) fun i h1 h2 => ?_
  have h3 : i < a.length := by rw [List.length_map] at h1; exact h1
  simp [el, List.getElem?_eq_getElem h3]
theorem e_map2 {C : Calls} {e : IE} {f : Int → Int} {i j : Nat} {xi xi' xj : Str} {a : IE} {o1 o2 : List (Str × Nat)} {c1 c2 : Scope} {p1 p2 p3 p4 p5 : Pos} {ρ : MP.Env} (ha : evE C a ρ S = .ok (RM rows) S)
    (hv : ∀ r, evE C (.var i xi p1) ((wipeE ρ (o1.map (·.2))).set i (some (RL r))) S = .ok (RL r) S)
    (he : ∀ r ∈ rows, ∀ x ∈ r, evE C e ((wipeE ((wipeE ρ (o1.map (·.2))).set i (some (RL r))) (o2.map (·.2))).set j (some (RI x))) S = .ok (RI (f x)) S) (h1 : rows.length ≤ 1000000) (h2 : ∀ r ∈ rows, r.length ≤ 1000000) :
    evE C (.lc false (.lc false e (.one j xj p2) (.of (.var i xi p1)) .nil o2 c2 p3) (.one i xi' p4) (.of a) .nil o1 c1 p5) ρ S = .ok (RM (rows.map fun r => r.map f)) S := by
  have q : RM (rows.map fun r => r.map f) = .dat (.lst ((List.range rows.length).map fun k => IL ((row rows k).map f))) := by
    unfold RM
    rw [List.map_map, map_row]
    rfl
  rw [q]
  refine lc_at (l := rows.map IL) (ii_of ha) (by rw [List.length_map]) (fun k d hd => ?_) h1
  have h3 : ((rows.map IL).map R.dat)[k]? = some (.dat d) := by rw [List.getElem?_map, hd]; rfl
  obtain ⟨h4, h5⟩ := il_at h3
  cases h5
  have q2 : IL ((row rows k).map f) = .lst ((List.range (row rows k).length).map fun t => D.int (f (el (row rows k) t))) := by
    unfold IL
    rw [List.map_map, map_el]
    rfl
  rw [q2]
  refine lc_at (l := (row rows k).map D.int) (ii_of (hv (row rows k))) (by rw [List.length_map]) (fun t d hd => ?_) (h2 _ (row_mem h4))
  have h6 : (((row rows k).map D.int).map R.dat)[t]? = some (.dat d) := by rw [List.getElem?_map, hd]; rfl
  obtain ⟨h7, h8⟩ := rin_at h6
  cases h8
  exact he _ (row_mem h4) _ (el_mem h7)
theorem lcT_at {C : Calls} {e : IE} {i : Nat} {x : Str} {px : Pos} {it : II} {own : List (Str × Nat)} {sc : Scope} {p : Pos} {ρ : MP.Env} {l : List D} {G : Nat → D} {n : Nat} (hi : evII C it ρ S = .ok ((l.map R.dat).map .one, []) S) (hn : l.length = n)
    (hx : ∀ (k : Nat) d, l[k]? = some d → evE C e ((wipeE ρ (own.map (·.2))).set i (some (.dat d))) S = .ok (.dat (G k)) S) (hl : n ≤ 1000000) : evE C (.lc true e (.one i x px) it .nil own sc p) ρ S = .ok (.own S.length) (S ++ [.lst (((List.range n).map G).map R.dat)]) := by
  have hlen : ((l.map R.dat).map Itm.one).length = n := by rw [List.length_map, List.length_map]; exact hn
  show MP.M.bind (evII C it ρ) (fun q => MP.M.bind (lcLoop q.2 (lcTurn (.one i x px) q.2 (fun ρ' => evTs C .nil ρ') (fun ρ' => MP.M.bind (evE C e ρ') fun r => MP.M.pure [r]) (wipeE ρ (own.map (·.2)))) q.1) (lcOut true)) S = _
  rw [bind_at hi, bind_at (loop_ix (G := fun i => .dat (G i)) gd_nil fun k y hy => by
    rw [List.getElem?_map, List.getElem?_map] at hy
    cases e1 : l[k]? with
    | none => rw [e1] at hy; cases hy
    | some d =>
      rw [e1] at hy
      cases hy
      exact ⟨_, rfl, rfl, by rw [bind_at (hx k d e1)]; rfl⟩)]
  rw [hlen]
  have e1 : ((List.range n).map fun i => R.dat (G i)) = ((List.range n).map G).map R.dat := by
    rw [List.map_map]
    rfl
  rw [e1]
  unfold lcOut
  rw [if_pos (show small (((List.range n).map G).map R.dat).length = true by rw [List.length_map, List.length_map, List.length_range]; exact decide_eq_true hl)]
  rfl
def scl (s : Int) (rows : List (List Int)) : List (List Int) := rows.map fun r => r.map (s * ·)
theorem scl_len : (scl s rows).length = rows.length := by unfold scl; rw [List.length_map]
theorem scl_row {i : Nat} (h : i < rows.length) : row (scl s rows) i = (row rows i).map (s * ·) := by
  unfold row scl
  rw [List.getElem?_map, List.getElem?_eq_getElem h]
  rfl
theorem el_scl {a : List Int} {j : Nat} : el (a.map (s * ·)) j = s * el a j := by
  unfold el
  rw [List.getElem?_map]
  cases a[j]? with
  | none => exact (Int.mul_zero s).symm
  | some x => rfl
theorem sum_scl : ∀ a : List Int, (a.map (s * ·)).sum = s * a.sum
  | [] => by simp
  | x :: a => by
    rw [List.map_cons, List.sum_cons, List.sum_cons, sum_scl a, Int.mul_add]
theorem lcm_l (w d : Int) : w ∣ lcmI w d := Int.natAbs_dvd_natAbs.mp (Nat.dvd_lcm_left _ _)
theorem lcm_r (w d : Int) : d ∣ lcmI w d := Int.natAbs_dvd_natAbs.mp (Nat.dvd_lcm_right _ _)
theorem fold_dvd : ∀ (ds : List Int) (w : Int), w ∣ ds.foldl lcmI w
  | [], w => Int.dvd_refl w
  | d :: ds, w => Int.dvd_trans (lcm_l w d) (fold_dvd ds (lcmI w d))
theorem fold_mem : ∀ (ds : List Int) (w d : Int), d ∈ ds → d ∣ ds.foldl lcmI w
  | e :: ds, w, d, h => by
    rcases List.mem_cons.mp h with rfl | h
    · exact Int.dvd_trans (lcm_r w d) (fold_dvd ds (lcmI w d))
    · exact fold_mem ds (lcmI w e) d h
theorem ps_dvd0 : ∀ (rs : List (List Int)) (t : Int), t ∣ rs.foldl (fun t r => t * r.sum) t
  | [], t => Int.dvd_refl t
  | r :: rs, t => Int.dvd_trans (Int.dvd_mul_right t r.sum) (ps_dvd0 rs (t * r.sum))
theorem ps_dvd : ∀ (rs : List (List Int)) (t : Int) (r : List Int), r ∈ rs → r.sum ∣ rs.foldl (fun t r => t * r.sum) t
  | e :: rs, t, r, h => by
    rcases List.mem_cons.mp h with rfl | h
    · exact Int.dvd_trans ⟨t, Int.mul_comm _ _⟩ (ps_dvd0 rs (t * r.sum))
    · exact ps_dvd rs (t * e.sum) r h
theorem ps_div {r : List Int} (h : r ∈ rows) : ps rows / r.sum * r.sum = ps rows := Int.ediv_mul_cancel (ps_dvd rows 1 r h)
theorem lcmI_pos {w d : Int} (hw : 0 < w) (hd : 0 < d) : 0 < lcmI w d := by
  unfold lcmI
  have : 0 < Nat.lcm w.natAbs d.natAbs := Nat.lcm_pos (by omega) (by omega)
  omega
theorem maxI_mem : ∀ l : List Int, l ≠ [] → maxI l ∈ l
  | [], h => absurd rfl h
  | x :: xs, _ => by
    rcases foldl_max xs x with h | h
    · show xs.foldl max x ∈ x :: xs
      rw [h]
      exact List.mem_cons_self
    · exact List.mem_cons_of_mem _ h
theorem maxI_le : ∀ (l : List Int) (y : Int), y ∈ l → y ≤ maxI l
  | x :: xs, y, h => by
    have q := foldl_max_le xs x
    rcases List.mem_cons.mp h with rfl | h
    · exact q.1
    · exact q.2 y h
theorem e_l4 {C : Calls} {ρ : MP.Env} {a b c d : IE} {p : Pos} {i j k l : Int} (ha : evE C a ρ S = .ok (RI i) S) (hb : evE C b ρ S = .ok (RI j) S) (hc : evE C c ρ S = .ok (RI k) S) (hd : evE C d ρ S = .ok (RI l) S) :
    evE C (.lst false (.cons a (.cons b (.cons c (.cons d .nil)))) p) ρ S = .ok (.dat (.lst [.int i, .int j, .int k, .int l])) S := by
  simp [evSs, evS, evE, evEs, evKs, evAnd, evOr, evTs, M.bind, M.pure, SRes.of, getV, truB, optI, MP.start, isTR, tyR, isTy, cmpR, biR, ha, hb, hc, hd, mkL, datsR]
theorem e_pow {C : Calls} {ρ : MP.Env} {m : Bool} {a b : IE} {p : Pos} {i j : Int} (ha : evE C a ρ S = .ok (RI i) S) (hb : evE C b ρ S = .ok (RI j) S) (h : powOk i j = true) : evE C (.bin m .pow a b p) ρ S = .ok (RI (i ^ j.toNat)) S := by
  refine c_bin ha hb ?_
  show (if powOk i j = true then MP.M.pure (RI (i ^ j.toNat)) else MP.M.stuck) S = _
  rw [if_pos h]
  rfl
theorem ten6 {C : Calls} {ρ : MP.Env} {k1 k2 : Nat} {p1 p2 p3 : Pos} {b : Bool} : evE C (.bin b .pow (.int 10 k1 p1) (.int 6 k2 p2) p3) ρ S = .ok (RI 1000000) S := by
  refine c_bin (x := RI 10) (y := RI 6) rfl rfl ?_
  have e : powOk 10 6 = true := by decide
  show (if powOk 10 6 = true then MP.M.pure (RI (10 ^ (6 : Int).toNat)) else MP.M.stuck) S = _
  rw [if_pos e]
  rfl
end DL
set_option Elab.async false
set_option linter.all false
set_option maxRecDepth 100000
set_option maxHeartbeats 1000000
/-! DLW: loops over data, told of a wish; comprehensions with ifs. -/
namespace DL
open PySem PySem.Spec PyProof.Rows L2 MP
section
variable {C : CallsX} {ρ : MP.Env} {S S1 : Store} {P : SRes → Prop} {r : ISs} {p : Pos}
theorem setM2 {i j : Nat} {x y : Str} {px py : Pos} {v w : R} {ρ : MP.Env} : setM [(i, x, px), (j, y, py)] [v, w] ρ = some ((ρ.set i (some v)).set j (some w)) := rfl
theorem w_enum {i j q : Nat} {x y : Str} {px py p0 : Pos} {it : II} {b : ISs} {l : List D} (Pv : Nat → MP.Env → Store → Prop) (hi : evII C.toCalls it ρ S = .ok (enumI 0 (l.map R.dat), []) S1) (h0 : Pv 0 ρ S1)
    (hs : ∀ k d ρ S, l[k]? = some d → Pv k ρ S → Turn (Pv (k + 1)) P (evSs C b ((ρ.set i (some (RI (k : Int)))).set j (some (.dat d))) S)) (k : ∀ ρ' S', Pv l.length ρ' S' → P (evSs C r ρ' S')) : P (evSs C (.cons (.for_ (.many [(i, x, px), (j, y, py)] q p0) it b p) r) ρ S) := by
  refine w_for Pv hi h0 (fun _ _ _ _ => gd_nil) (fun k z ρ S hz hp => ?_) (by rw [enum_len, List.length_map]; exact k)
  obtain ⟨d, h1, h2⟩ := enum_at hz
  subst h2
  rw [List.getElem?_map] at h1
  cases e : l[k]? with
  | none => rw [e] at h1; cases h1
  | some d' =>
    rw [e] at h1
    cases h1
    rw [Nat.zero_add]
    exact ⟨_, rfl, hs k d' ρ S e hp⟩
theorem w_zip {i j q : Nat} {x y : Str} {px py p0 : Pos} {it : II} {b : ISs} {l l' : List D} (hn : l.length = l'.length) (Pv : Nat → MP.Env → Store → Prop) (hi : evII C.toCalls it ρ S = .ok (zipI (l.map R.dat) (l'.map R.dat), []) S1) (h0 : Pv 0 ρ S1)
    (hs : ∀ k d d' ρ S, l[k]? = some d → l'[k]? = some d' → Pv k ρ S → Turn (Pv (k + 1)) P (evSs C b ((ρ.set i (some (.dat d))).set j (some (.dat d'))) S)) (k : ∀ ρ' S', Pv l.length ρ' S' → P (evSs C r ρ' S')) : P (evSs C (.cons (.for_ (.many [(i, x, px), (j, y, py)] q p0) it b p) r) ρ S) := by
  refine w_for Pv hi h0 (fun _ _ _ _ => gd_nil) (fun k z ρ S hz hp => ?_) (by rw [zip_len hn]; exact k)
  obtain ⟨d, d', h1, h2, h3⟩ := zip_at hz
  subst h3
  exact ⟨_, rfl, hs k d d' ρ S h1 h2 hp⟩
end
variable {n : Nat} {S : Store} {rows M : List (List Int)} {m : Nat}
theorem loop_fl {t : IT} {g : Gd} {c : MP.Env → MP.M Bool} {e : MP.Env → MP.M (List R)} {ρ0 : MP.Env} (hg : gdOk S g = true) : ∀ {xs : List Itm} {G : Nat → List D}, (∀ (i : Nat) x, xs[i]? = some x → ∃ ρ', bindT t x ρ0 S = some ρ' ∧ ∃ b, c ρ' S = .ok b S ∧ (b = true → e ρ' S = .ok ((G i).map R.dat) S) ∧ (b = false → G i = [])) →
    lcLoop g (lcTurn t g c e ρ0) xs S = .ok (((List.range xs.length).flatMap G).map R.dat) S
  | [], G, _ => by
    show (if gdOk S g = true then _ else _) = _
    rw [if_pos hg]
    rfl
  | x :: xs, G, h => by
    obtain ⟨ρ', h1, b, h2, h3, h4⟩ := h 0 x rfl
    have e1 : lcTurn t g c e ρ0 x S = .ok ((G 0).map R.dat) S := by
      unfold lcTurn
      rw [if_pos hg]
      simp only [h1]
      unfold MP.M.noX
      rw [bind_at h2]
      cases b with
      | false => rw [h4 rfl]; rfl
      | true => simp only [if_pos, h3 rfl]
    show MP.M.bind (lcTurn t g c e ρ0 x) (fun a => MP.M.bind (lcLoop g (lcTurn t g c e ρ0) xs) fun b => MP.M.pure (a ++ b)) S = _
    rw [bind_at e1, bind_at (loop_fl hg (G := fun i => G (i + 1)) fun i y hy => h (i + 1) y hy), List.length_cons, List.range_succ_eq_map, List.flatMap_cons, List.map_append]
    rw [List.flatMap_map]
    rfl
theorem fl_len {G : Nat → List D} {B : Nat} : ∀ n, (∀ i, i < n → (G i).length ≤ B) → ((List.range n).flatMap G).length ≤ n * B
  | 0, _ => Nat.zero_le _
  | n + 1, h => by
    rw [List.range_succ, List.flatMap_append, List.length_append, Nat.succ_mul]
    have h1 := fl_len n fun i hi => h i (by omega)
    have h2 : (List.flatMap G [n]).length = (G n).length := by simp
    have h3 := h n (by omega)
    omega
/-- a comprehension of one generator with an if, its items made of data -/
theorem lc_fl {C : Calls} {e : IE} {t : IT} {it : II} {cs : IEs} {own : List (Str × Nat)} {sc : Scope} {p : Pos} {ρ : MP.Env} {xs : List Itm} {g : Gd} {G : Nat → List D} (hi : evII C it ρ S = .ok (xs, g) S) (hg : gdOk S g = true)
    (hx : ∀ (i : Nat) x, xs[i]? = some x → ∃ ρ', bindT t x (wipeE ρ (own.map (·.2))) S = some ρ' ∧ ∃ b, evTs C cs ρ' S = .ok b S ∧ (b = true → ∃ d, evE C e ρ' S = .ok (.dat d) S ∧ G i = [d]) ∧ (b = false → G i = [])) (hl : xs.length ≤ 1000000) :
    evE C (.lc false e t it cs own sc p) ρ S = .ok (.dat (.lst ((List.range xs.length).flatMap G))) S := by
  have h2 := loop_fl (S := S) (g := g) (t := t) (c := fun ρ' => evTs C cs ρ') (e := fun ρ' => MP.M.bind (evE C e ρ') fun r => MP.M.pure [r]) (ρ0 := wipeE ρ (own.map (·.2))) hg (xs := xs) (G := G) (fun i x h => by
    obtain ⟨ρ', h1, b, h2, h3, h4⟩ := hx i x h
    refine ⟨ρ', h1, b, h2, fun hb => ?_, h4⟩
    obtain ⟨d, h5, h6⟩ := h3 hb
    rw [bind_at h5, h6]
    rfl)
  have h3 : ((List.range xs.length).flatMap G).length ≤ xs.length * 1 := fl_len _ fun i hi => by
    obtain ⟨ρ', _, b, _, h3, h4⟩ := hx i xs[i] (List.getElem?_eq_getElem hi)
    cases b with
    | false => rw [h4 rfl]; exact Nat.zero_le _
    | true =>
      obtain ⟨d, _, h6⟩ := h3 rfl
      rw [h6]
      exact Nat.le_refl _
  show MP.M.bind (evII C it ρ) (fun q => MP.M.bind (lcLoop q.2 (lcTurn t q.2 (fun ρ' => evTs C cs ρ') (fun ρ' => MP.M.bind (evE C e ρ') fun r => MP.M.pure [r]) (wipeE ρ (own.map (·.2)))) q.1) (lcOut false)) S = _
  rw [bind_at hi, bind_at h2]
  unfold lcOut
  rw [if_pos (show small (((List.range xs.length).flatMap G).map R.dat).length = true by rw [List.length_map]; exact decide_eq_true (by omega))]
  unfold mkL
  rw [datsR_map]
/-- a comprehension of two generators, the second perhaps with an if -/
theorem lc2_fl {C : Calls} {e : IE} {t t2 : IT} {it it2 : II} {cs2 : IEs} {own : List (Str × Nat)} {vs2 : List Nat} {sc : Scope} {p : Pos} {ρ : MP.Env} {xs : List Itm} {g : Gd} {B : Nat} {G : Nat → Nat → List D} {N : Nat → Nat} (hi : evII C it ρ S = .ok (xs, g) S) (hg : gdOk S g = true)
    (hx : ∀ (i : Nat) x, xs[i]? = some x → ∃ ρ', bindT t x (wipeE ρ (own.map (·.2))) S = some ρ' ∧ ∃ xs2 g2, evII C it2 ρ' S = .ok (xs2, g2) S ∧ gdOk S g2 = true ∧ xs2.length = N i ∧ N i ≤ B ∧
      ∀ (j : Nat) y, xs2[j]? = some y → ∃ ρ2, bindT t2 y (wipeE ρ' vs2) S = some ρ2 ∧ ∃ b, evTs C cs2 ρ2 S = .ok b S ∧ (b = true → ∃ d, evE C e ρ2 S = .ok (.dat d) S ∧ G i j = [d]) ∧ (b = false → G i j = [])) (hB : xs.length * B ≤ 1000000) :
    evE C (.lc2 false e t it .nil t2 it2 cs2 own vs2 sc p) ρ S = .ok (.dat (.lst ((List.range xs.length).flatMap fun i => (List.range (N i)).flatMap (G i)))) S := by
  have h2 := loop_fl (S := S) (g := g) (t := t) (c := fun ρ' => evTs C .nil ρ') (e := fun ρ' => MP.M.bind (evII C it2 ρ') fun q2 => lcLoop q2.2 (lcTurn t2 q2.2 (fun ρ2 => evTs C cs2 ρ2) (fun ρ2 => MP.M.bind (evE C e ρ2) fun r => MP.M.pure [r]) (wipeE ρ' vs2)) q2.1) (ρ0 := wipeE ρ (own.map (·.2))) hg (xs := xs) (G := fun i => (List.range (N i)).flatMap (G i)) (fun i x h => by
    obtain ⟨ρ', h1, xs2, g2, h2, h3, h4, _, h5⟩ := hx i x h
    refine ⟨ρ', h1, true, rfl, fun _ => ?_, fun z => nomatch z⟩
    have k2 := loop_fl (S := S) (g := g2) (t := t2) (c := fun ρ2 => evTs C cs2 ρ2) (e := fun ρ2 => MP.M.bind (evE C e ρ2) fun r => MP.M.pure [r]) (ρ0 := wipeE ρ' vs2) h3 (xs := xs2) (G := G i) (fun j y hy => by
      obtain ⟨ρ2, l1, b, l2, l3, l4⟩ := h5 j y hy
      refine ⟨ρ2, l1, b, l2, fun hb => ?_, l4⟩
      obtain ⟨d, l5, l6⟩ := l3 hb
      rw [bind_at l5, l6]
      rfl)
    rw [bind_at h2, ← h4]
    exact k2)
  have h3 : ((List.range xs.length).flatMap fun i => (List.range (N i)).flatMap (G i)).length ≤ xs.length * B := fl_len _ fun i hi => by
    obtain ⟨ρ', _, xs2, g2, _, _, h4, h6, h5⟩ := hx i xs[i] (List.getElem?_eq_getElem hi)
    refine Nat.le_trans (fl_len (B := 1) _ fun j hj => ?_) (by omega)
    obtain ⟨ρ2, _, b, _, l3, l4⟩ := h5 j xs2[j] (List.getElem?_eq_getElem (by omega))
    cases b with
    | false => rw [l4 rfl]; exact Nat.zero_le _
    | true =>
      obtain ⟨d, _, l6⟩ := l3 rfl
      rw [l6]
      exact Nat.le_refl _
  show MP.M.bind (evII C it ρ) (fun q => MP.M.bind (lcLoop q.2 (lcTurn t q.2 (fun ρ' => evTs C .nil ρ') (fun ρ' => MP.M.bind (evII C it2 ρ') fun q2 =>
        lcLoop q2.2 (lcTurn t2 q2.2 (fun ρ2 => evTs C cs2 ρ2) (fun ρ2 => MP.M.bind (evE C e ρ2) fun r => MP.M.pure [r]) (wipeE ρ' vs2)) q2.1) (wipeE ρ (own.map (·.2)))) q.1) (lcOut false)) S = _
  rw [bind_at hi, bind_at h2]
  unfold lcOut
  rw [if_pos (show small (((List.range xs.length).flatMap fun i => (List.range (N i)).flatMap (G i)).map R.dat).length = true by rw [List.length_map]; exact decide_eq_true (by omega))]
  unfold mkL
  rw [datsR_map]
/-! ### webs -/
abbrev degs (rows : List (List Int)) : List Int := rows.map List.sum
def tiesOf (rows : List (List Int)) : List D := (List.range rows.length).flatMap fun i => (List.range rows.length).flatMap fun j => if i ≤ j ∧ 0 < el (row rows i) j then [.tup [.int i, .int j, .int (el (row rows i) j)]] else []
/-- a web as data -/
def webOf (rows : List (List Int)) : D := .obj "Web" ["rows", "size", "degrees", "volume", "_ties"] [.tup (rows.map TL), .int rows.length, TL (degs rows), .int (degs rows).sum, .tup (tiesOf rows)]
/-- a net: square, symmetric, no place bare; at most 40 places -/
structure Tied (rows : List (List Int)) : Prop where
  ge : 1 ≤ rows.length
  le : rows.length ≤ 40
  sq : ∀ r ∈ rows, r.length = rows.length
  w : ∀ r ∈ rows, ∀ x ∈ r, 0 ≤ x ∧ x ≤ 1000000000000000000000000000000
  sym : ∀ i j, i < rows.length → j < rows.length → el (row rows i) j = el (row rows j) i
  pos : ∀ r ∈ rows, 0 < r.sum
theorem lst_at {k : Nat} {d : D} (h : (rows.map IL)[k]? = some d) : k < rows.length ∧ d = IL (row rows k) := by
  rw [List.getElem?_map] at h
  cases e : rows[k]? with
  | none => rw [e] at h; cases h
  | some r =>
    rw [e] at h
    cases h
    exact ⟨(List.getElem?_eq_some_iff.mp e).1, by unfold row; rw [e]; rfl⟩
theorem dg_at {k : Nat} {d : D} (h : ((degs rows).map D.int)[k]? = some d) : k < rows.length ∧ d = .int (row rows k).sum := by
  rw [List.getElem?_map, List.getElem?_map] at h
  cases e : rows[k]? with
  | none => rw [e] at h; cases h
  | some r =>
    rw [e] at h
    cases h
    exact ⟨(List.getElem?_eq_some_iff.mp e).1, by unfold row; rw [e]; rfl⟩
end DL
set_option Elab.async false
set_option linter.all false
set_option maxRecDepth 100000
set_option maxHeartbeats 1000000
/-! DLR: lists, be they data or cells; loops that leave the store. -/
namespace DL
open PySem PySem.Spec PyProof.Rows L2 MP
variable {n : Nat} {S S1 : Store} {rows M : List (List Int)} {m : Nat} {q r : R} {xs : List R} {a : List Int}
/-- what can be walked -/
structure Wk (S : Store) (q : R) (xs : List R) : Prop where
  walk : walkR q S = .ok xs S
  gd : gdOk S (guardR S q) = true
  var : ∀ (ρ : MP.Env) i, ρ[i]? = some (some q) → getV ρ i S = .ok q S
  items : itemsR S q = some xs
  kind : (∃ l : List D, q = .dat (.lst l) ∧ xs = l.map R.dat) ∨ (∃ l : List D, q = .dat (.tup l) ∧ xs = l.map R.dat) ∨ ∃ k, q = .own k ∧ S[k]? = some (.lst xs)
/-- a list -/
structure Lst (S : Store) (q : R) (xs : List R) : Prop extends Wk S q xs where
  nt : isTup S q = false
theorem Lst.dat {l : List D} : Lst S (.dat (.lst l)) (l.map R.dat) := ⟨⟨rfl, gd_nil, fun ρ i h => by unfold getV; rw [h]; rfl, rfl, .inl ⟨_, rfl, rfl⟩⟩, rfl⟩
theorem Wk.tup {l : List D} : Wk S (.dat (.tup l)) (l.map R.dat) := ⟨rfl, gd_nil, fun ρ i h => by unfold getV; rw [h]; rfl, rfl, .inr (.inl ⟨_, rfl, rfl⟩)⟩
theorem Lst.own {k : Nat} {rs : List R} (h : S[k]? = some (.lst rs)) : Lst S (.own k) rs := by
  have e : itemsR S (.own k) = some rs := by
    unfold itemsR
    simp only [h]
  refine ⟨⟨?_, ?_, fun ρ i hi => by unfold getV; rw [hi]; rfl, e, .inr (.inr ⟨k, rfl, h⟩)⟩, ?_⟩
  · show (match R.own k, itemsR S (.own k) with
      | .dat (.lst _), some rs => Res.ok rs S
      | .dat (.tup _), some rs => .ok rs S
      | .own k, some rs => .ok rs S
      | _, _ => .stuck) = _
    rw [e]
  · refine gd_iff.mpr fun z hz => ?_
    unfold guardR at hz
    simp only [h] at hz
    rcases List.mem_cons.mp hz with rfl | hz
    · exact h
    · cases hz
  · unfold isTup
    simp only [h]
theorem Wk.len {b : Bool} (h : Wk S q xs) : biR b .len [q] S = .ok (RI xs.length) S := by
  show (match itemsR S q with
    | some xs => Res.ok (R.dat (.int xs.length)) S
    | none => .stuck) = _
  rw [h.items]
theorem Wk.ix {k : Nat} {x : R} (h : Wk S q xs) (hx : xs[k]? = some x) : ixR q (RI (k : Int)) S = .ok x S := by
  have ht : k < xs.length := (List.getElem?_eq_some_iff.mp hx).1
  have e : atR xs (k : Int) = some x := by
    unfold atR atI
    have e1 : ixN xs.length (k : Int) = some k := by
      unfold ixN
      simp
      omega
    rw [e1]
    exact hx
  show (match RI (k : Int), itemsR S q with
    | .dat (.int i), some rs => (match atR rs i with
      | some r => Res.ok r S
      | none => .stuck)
    | _, _ => .stuck) = _
  rw [h.items]
  show (match atR xs (k : Int) with
      | some r => Res.ok r S
      | none => .stuck) = _
  rw [e]
/-- a store that holds what the other holds -/
def Kp (S S' : Store) : Prop := ∀ (k : Nat) (c : Cell), S[k]? = some c → S'[k]? = some c
theorem Kp.app {E : Store} : Kp S (S ++ E) := fun k c h => by
  rw [List.getElem?_append_left (List.getElem?_eq_some_iff.mp h).1]
  exact h
theorem Lst.mono {S' : Store} (h : Lst S q xs) (e : Kp S S') : Lst S' q xs := by
  rcases h.kind with ⟨l, rfl, rfl⟩ | ⟨l, rfl, rfl⟩ | ⟨k, rfl, hk⟩
  · exact Lst.dat
  · have := h.nt
    cases this
  · exact Lst.own (e k _ hk)
/-- a list of numbers -/
abbrev RowR (S : Store) (q : R) (a : List Int) : Prop := Lst S q ((a.map D.int).map R.dat)
theorem RowR.dat : RowR S (RL a) a := Lst.dat
theorem RowR.own {k : Nat} (h : S[k]? = some (pool a)) : RowR S (.own k) a := Lst.own h
theorem RowR.len {b : Bool} (h : RowR S q a) : biR b .len [q] S = .ok (RI a.length) S := by
  have := Wk.len (b := b) h.toWk
  rw [List.length_map, List.length_map] at this
  exact this
theorem RowR.ix {k : Nat} (h : RowR S q a) (hk : k < a.length) : ixR q (RI (k : Int)) S = .ok (RI (el a k)) S := Wk.ix h.toWk (by rw [List.getElem?_map, el_at hk]; rfl)
theorem RowR.sum {b : Bool} (h : RowR S q a) : biR b .sum [q] S = .ok (RI a.sum) S := by
  show (match (itemsR S q).bind intsR with
    | some xs => Res.ok (R.dat (.int xs.sum)) S
    | none => .stuck) = _
  rw [h.items, List.map_map]
  have e2 : (a.map (R.dat ∘ D.int)) = a.map fun i => R.dat (.int i) := rfl
  rw [e2, Option.bind_some, intsR_map]
theorem RowR.tuple {b : Bool} (h : RowR S q a) : biR b .tuple [q] S = .ok (.dat (TL a)) S := by
  show (if isTup S q = true then Res.ok q S else (match itemsR S q with
    | some rs => mkT rs S
    | none => Res.stuck)) = _
  rw [h.nt, h.items]
  show mkT ((a.map D.int).map R.dat) S = _
  unfold mkT
  rw [datsR_map]
/-- a table of numbers -/
structure Rep (S : Store) (r : R) (rows : List (List Int)) (qs : List R) : Prop extends Lst S r qs where
  len' : qs.length = rows.length
  at_ : ∀ k x, qs[k]? = some x → RowR S x (row rows k)
theorem Rep.dat : Rep S (RM rows) rows ((rows.map IL).map R.dat) := ⟨Lst.dat, by rw [List.length_map, List.length_map], fun k x hx => by
  obtain ⟨_, rfl⟩ := il_at hx
  exact RowR.dat⟩
theorem Rep.mono {S' : Store} {qs : List R} (h : Rep S r rows qs) (e : Kp S S') : Rep S' r rows qs := ⟨h.toLst.mono e, h.len', fun k x hx => (h.at_ k x hx).mono e⟩
theorem Rep.len {b : Bool} {qs : List R} (h : Rep S r rows qs) : biR b .len [r] S = .ok (RI rows.length) S := by
  have := Wk.len (b := b) h.toWk
  rw [h.len'] at this
  exact this
theorem Rep.ix {k : Nat} {qs : List R} (h : Rep S r rows qs) (hk : k < rows.length) : ∃ x, ixR r (RI (k : Int)) S = .ok x S ∧ RowR S x (row rows k) := by
  have hx : qs[k]? = some (qs[k]'(by rw [h.len']; exact hk)) := List.getElem?_eq_getElem _
  exact ⟨_, Wk.ix h.toWk hx, h.at_ k _ hx⟩
theorem Rep.lt {k : Nat} {x : R} {qs : List R} (h : Rep S r rows qs) (hx : qs[k]? = some x) : k < rows.length := by
  rw [← h.len']
  exact (List.getElem?_eq_some_iff.mp hx).1
/-! ### loops that leave the store -/
section
variable {C : CallsX} {ρ : MP.Env} {P : SRes → Prop} {rs : ISs} {p : Pos}
theorem ii_wk {C : Calls} {ρ : MP.Env} {e : IE} (he : evE C e ρ S = .ok q S) (h : Wk S q xs) : evII C (.of e) ρ S = .ok (xs.map .one, guardR S q) S := by
  show MP.M.bind (evE C e ρ) (fun x => MP.M.bind (walkR x) fun rs => fun S => Res.ok (rs.map Itm.one, guardR S x) S) S = _
  rw [bind_at he, bind_at h.walk]
theorem ii_en {C : Calls} {ρ : MP.Env} {e : IE} {p0 p : Pos} (he : evE C e ρ S = .ok q S) (h : Lst S q xs) : evII C (.enum e p0 p) ρ S = .ok (enumI 0 xs, guardR S q) S := by
  show MP.M.bind (evE C e ρ) (fun x => MP.M.bind (walkR x) fun rs => fun S => if isTup S x = true then Res.stuck else Res.ok (enumI 0 rs, guardR S x) S) S = _
  rw [bind_at he, bind_at h.walk, h.nt]
  rfl
theorem ii_zp {C : Calls} {ρ : MP.Env} {e e' : IE} {p0 p : Pos} {q' : R} {ys : List R} (he : evE C e ρ S = .ok q S) (he' : evE C e' ρ S = .ok q' S) (h : Wk S q xs) (h' : Wk S q' ys) : evII C (.zip e e' p0 p) ρ S = .ok (zipI xs ys, guardR S q ++ guardR S q') S := by
  show MP.M.bind (evE C e ρ) (fun x => MP.M.bind (evE C e' ρ) fun y => MP.M.bind (walkR x) fun rs => MP.M.bind (walkR y) fun qs => fun S => Res.ok (zipI rs qs, guardR S x ++ guardR S y) S) S = _
  rw [bind_at he, bind_at he', bind_at h.walk, bind_at h'.walk]
theorem gd_both {g g' : Gd} (h : gdOk S g = true) (h' : gdOk S g' = true) : gdOk S (g ++ g') = true := gd_iff.mpr fun z hz => by
  rcases List.mem_append.mp hz with h1 | h1
  · exact gd_iff.mp h z h1
  · exact gd_iff.mp h' z h1
theorem zipR_at : ∀ {l l' : List R} {i : Nat} {x : Itm}, (zipI l l')[i]? = some x → ∃ a b, l[i]? = some a ∧ l'[i]? = some b ∧ x = .tup [a, b]
  | [], _, i, x, h => by cases h
  | _ :: _, [], i, x, h => by cases h
  | a :: l, b :: l', 0, x, h => by
    cases h
    exact ⟨a, b, rfl, rfl, rfl⟩
  | a :: l, b :: l', i + 1, x, h => zipR_at (l := l) (l' := l') (i := i) h
theorem zipR_len : ∀ {l l' : List R}, l.length = l'.length → (zipI l l').length = l.length
  | [], _, _ => rfl
  | _ :: _, [], h => by cases h
  | a :: l, b :: l', h => congrArg Nat.succ (zipR_len (l := l) (l' := l') (Nat.succ.inj h))
/-- for x in a list: the store stays -/
theorem w_wk {i : Nat} {x : Str} {px : Pos} {e : IE} {b : ISs} (Pv : Nat → MP.Env → Prop) (he : evE C.toCalls e ρ S = .ok q S) (h : Wk S q xs) (h0 : Pv 0 ρ)
    (hs : ∀ k z ρ, xs[k]? = some z → Pv k ρ → Turn (fun ρ' S' => S' = S ∧ Pv (k + 1) ρ') P (evSs C b (ρ.set i (some z)) S)) (kk : ∀ ρ', Pv xs.length ρ' → P (evSs C rs ρ' S)) : P (evSs C (.cons (.for_ (.one i x px) (.of e) b p) rs) ρ S) := by
  refine w_for (fun k ρ' S' => S' = S ∧ Pv k ρ') (ii_wk he h) ⟨rfl, h0⟩ (fun _ _ _ hp => by rw [hp.1]; exact h.gd) (fun k y ρ S' hy hp => ?_) (by rw [List.length_map]; exact fun ρ' S' hp => by rw [hp.1]; exact kk ρ' hp.2)
  obtain ⟨rfl, hp⟩ := hp
  obtain ⟨z, h1, rfl⟩ := one_at hy
  exact ⟨_, rfl, hs k z ρ h1 hp⟩
theorem w_en {i j s : Nat} {x y : Str} {px py p0 p1 p2 : Pos} {e : IE} {b : ISs} (Pv : Nat → MP.Env → Prop) (he : evE C.toCalls e ρ S = .ok q S) (h : Lst S q xs) (h0 : Pv 0 ρ)
    (hs : ∀ k z ρ, xs[k]? = some z → Pv k ρ → Turn (fun ρ' S' => S' = S ∧ Pv (k + 1) ρ') P (evSs C b ((ρ.set i (some (RI (k : Int)))).set j (some z)) S)) (kk : ∀ ρ', Pv xs.length ρ' → P (evSs C rs ρ' S)) : P (evSs C (.cons (.for_ (.many [(i, x, px), (j, y, py)] s p0) (.enum e p1 p2) b p) rs) ρ S) := by
  refine w_for (fun k ρ' S' => S' = S ∧ Pv k ρ') (ii_en he h) ⟨rfl, h0⟩ (fun _ _ _ hp => by rw [hp.1]; exact h.gd) (fun k y ρ S' hy hp => ?_) (by rw [enum_len]; exact fun ρ' S' hp => by rw [hp.1]; exact kk ρ' hp.2)
  obtain ⟨rfl, hp⟩ := hp
  obtain ⟨z, h1, rfl⟩ := enum_at hy
  rw [Nat.zero_add]
  exact ⟨_, rfl, hs k z ρ h1 hp⟩
theorem w_zp {i j s : Nat} {x y : Str} {px py p0 p1 p2 : Pos} {e e' : IE} {b : ISs} {q' : R} {ys : List R} (hn : xs.length = ys.length) (Pv : Nat → MP.Env → Prop) (he : evE C.toCalls e ρ S = .ok q S) (he' : evE C.toCalls e' ρ S = .ok q' S) (h : Wk S q xs) (h' : Wk S q' ys) (h0 : Pv 0 ρ)
    (hs : ∀ k z z' ρ, xs[k]? = some z → ys[k]? = some z' → Pv k ρ → Turn (fun ρ' S' => S' = S ∧ Pv (k + 1) ρ') P (evSs C b ((ρ.set i (some z)).set j (some z')) S)) (kk : ∀ ρ', Pv xs.length ρ' → P (evSs C rs ρ' S)) : P (evSs C (.cons (.for_ (.many [(i, x, px), (j, y, py)] s p0) (.zip e e' p1 p2) b p) rs) ρ S) := by
  refine w_for (fun k ρ' S' => S' = S ∧ Pv k ρ') (ii_zp he he' h h') ⟨rfl, h0⟩ (fun _ _ _ hp => by rw [hp.1]; exact gd_both h.gd h'.gd) (fun k y ρ S' hy hp => ?_) (by rw [zipR_len hn]; exact fun ρ' S' hp => by rw [hp.1]; exact kk ρ' hp.2)
  obtain ⟨rfl, hp⟩ := hp
  obtain ⟨z, z', h1, h2, rfl⟩ := zipR_at hy
  exact ⟨_, rfl, hs k z z' ρ h1 h2 hp⟩
/-- for i in range: the store stays -/
theorem w_rg {i : Nat} {x : Str} {px : Pos} {it : II} {b : ISs} {lo : Int} {n : Nat} (Pv : Nat → MP.Env → Prop) (hi : evII C.toCalls it ρ S = .ok (rngI lo n, []) S) (h0 : Pv 0 ρ)
    (hs : ∀ k ρ, k < n → Pv k ρ → Turn (fun ρ' S' => S' = S ∧ Pv (k + 1) ρ') P (evSs C b (ρ.set i (some (RI (lo + (k : Int))))) S)) (kk : ∀ ρ', Pv n ρ' → P (evSs C rs ρ' S)) : P (evSs C (.cons (.for_ (.one i x px) it b p) rs) ρ S) :=
  w_rng (fun k ρ' S' => S' = S ∧ Pv k ρ') hi ⟨rfl, h0⟩ (fun k ρ S' hk hp => by
    obtain ⟨rfl, hp⟩ := hp
    exact hs k ρ hk hp) fun ρ' S' hp => by rw [hp.1]; exact kk ρ' hp.2
/-- a comprehension over a list -/
theorem lc_wk {C : Calls} {e a : IE} {i : Nat} {x : Str} {px : Pos} {own : List (Str × Nat)} {sc : Scope} {p : Pos} {ρ : MP.Env} {G : Nat → D} {n : Nat} (ha : evE C a ρ S = .ok q S) (h : Wk S q xs) (hn : xs.length = n)
    (hx : ∀ (k : Nat) z, xs[k]? = some z → evE C e ((wipeE ρ (own.map (·.2))).set i (some z)) S = .ok (.dat (G k)) S) (hl : n ≤ 1000000) : evE C (.lc false e (.one i x px) (.of a) .nil own sc p) ρ S = .ok (.dat (.lst ((List.range n).map G))) S :=
  lc_ix (ii_wk ha h) h.gd (by rw [List.length_map]; exact hn) (fun k y hy => by
    obtain ⟨z, h1, rfl⟩ := one_at hy
    exact ⟨_, rfl, hx k z h1⟩) hl
theorem lc_zp {C : Calls} {e a a' : IE} {i j s : Nat} {x y : Str} {px py p0 p1 p2 : Pos} {own : List (Str × Nat)} {sc : Scope} {p : Pos} {ρ : MP.Env} {G : Nat → D} {n : Nat} {q' : R} {ys : List R} (ha : evE C a ρ S = .ok q S) (ha' : evE C a' ρ S = .ok q' S) (h : Wk S q xs) (h' : Wk S q' ys) (hn : xs.length = n) (hn' : ys.length = n)
    (hx : ∀ (k : Nat) z z', xs[k]? = some z → ys[k]? = some z' → evE C e (((wipeE ρ (own.map (·.2))).set i (some z)).set j (some z')) S = .ok (.dat (G k)) S) (hl : n ≤ 1000000) : evE C (.lc false e (.many [(i, x, px), (j, y, py)] s p0) (.zip a a' p1 p2) .nil own sc p) ρ S = .ok (.dat (.lst ((List.range n).map G))) S :=
  lc_ix (ii_zp ha ha' h h') (gd_both h.gd h'.gd) (by rw [zipR_len (hn.trans hn'.symm)]; exact hn) (fun k y hy => by
    obtain ⟨z, z', h1, h2, rfl⟩ := zipR_at hy
    exact ⟨_, rfl, hx k z z' h1 h2⟩) hl
end
/-! ### instances -/
section
variable {C : CallsX} {ρ : MP.Env} {P : SRes → Prop} {rs : ISs} {p : Pos}
theorem w_fld {c f s : Str} {ns : List Str} {vs : List R} {v : R} {e : IE} {p1 p2 : Pos} (ho : ρ[0]? = some (some (.own S.length))) (h : evE C.toCalls e ρ (S ++ [Cell.obj c ns vs]) = .ok v (S ++ [Cell.obj c ns vs])) (hl : ns.length < 900) (k : P (evSs C rs ρ (S ++ [Cell.obj c (putN f v ns vs).1 (putN f v ns vs).2]))) :
    P (evSs C (.cons (.setAt (.var 0 s p1) c f e p2 p) rs) ρ (S ++ [Cell.obj c ns vs])) := by
  have q : evE C.toCalls (.var 0 s p1) ρ (S ++ [Cell.obj c ns vs]) = .ok (.own S.length) (S ++ [Cell.obj c ns vs]) := by
    show getV ρ 0 _ = _
    unfold getV
    rw [ho]
    rfl
  have h2 := r_setAt (C := C) (c := c) (f := f) (ps := p2) (p := p) h q get_last hl
  rw [set_last] at h2
  exact p_next h2 k
theorem seal_obj {c : Str} {ns : List Str} {ds : List D} {ρ : MP.Env} (h : WF S) {c0 : Cell} : sealS (S ++ [c0]).length (.go .next ρ (S ++ [Cell.obj c ns (ds.map R.dat)])) = .ok (.dat .non) (S ++ [Cell.obj c ns (ds.map R.dat)]) := by
  have e2 : (S ++ [c0]).length = (S ++ [Cell.obj c ns (ds.map R.dat)]).length := by simp
  rw [e2]
  exact seal_next (wf_push h (below_dats ds))
theorem toD_obj {m f k : Nat} {c : Str} {ns : List Str} {rs : List R} (hk : S[k]? = some (.obj c ns rs)) (h : m ≤ k) : toD m S (f + 1) (.own k) = (allD (toD m S f) rs).map (D.obj c ns) := by
  show (if k < m then none else match S[k]? with
    | some (.lst rs) => (allD (toD m S f) rs).map D.lst
    | some (.tup rs) => (allD (toD m S f) rs).map D.tup
    | some (.obj c ns rs) => (allD (toD m S f) rs).map (D.obj c ns)
    | none => none) = _
  rw [if_neg (Nat.not_lt.mpr h), hk]
theorem make_dat {C : Calls} {f : Nat} {c : Str} {rs : List R} {ns : List Str} {ds : List D} (h : WF S) (hi : C.fn f (.own S.length :: rs) (S ++ [.obj c [] []]) = .ok (.dat .non) (S ++ [Cell.obj c ns (ds.map R.dat)])) : makeR C false f c rs S = .ok (.dat (.obj c ns ds)) S := by
  unfold makeR
  rw [hi]
  have t1 : (S ++ [Cell.obj c ns (ds.map R.dat)]).take S.length = S := by simp
  have t2 : (S.all (Cell.below S.length)) = true := h
  have t3 : toD S.length (S ++ [Cell.obj c ns (ds.map R.dat)]) 8 (.own S.length) = some (.obj c ns ds) := by
    rw [toD_obj get_last (Nat.le_refl _), allD_dat]
    rfl
  simp only [t1, t2, t3]
  simp
end
theorem row_rin {k : Nat} {z : R} (h : ((a.map D.int).map R.dat)[k]? = some z) : k < a.length ∧ z = RI (el a k) := rin_at h
theorem map_rng {α : Type} {f : Nat → α} {n : Nat} {g : List Int → α} (hn : rows.length = n) (h : ∀ k, k < n → f k = g (row rows k)) : (List.range n).map f = rows.map g := by
  rw [map_row, hn]
  exact List.map_congr_left fun k hk => h k (List.mem_range.mp hk)
end DL
set_option Elab.async false
set_option linter.all false
set_option maxRecDepth 100000
set_option maxHeartbeats 1000000
/-! DLF: fractions in lowest terms. -/
namespace DL
open PySem PySem.Spec PyProof.Rows L2 MP
def gc (x y : Int) : Int := (Nat.gcd x.natAbs y.natAbs : Nat)
def frD (t b : Int) : D := .obj "Frac" ["top", "bottom"] [.int t, .int b]
/-- x / y in lowest terms -/
def F (x y : Int) : D := frD (x / gc x y) (y / gc x y)
variable {x y u v : Int}
theorem gc_pos (hy : 0 < y) : 0 < gc x y := by
  unfold gc
  have : 0 < Nat.gcd x.natAbs y.natAbs := Nat.gcd_pos_of_pos_right _ (by omega)
  omega
theorem gc_l : gc x y ∣ x := Int.natAbs_dvd_natAbs.mp (by unfold gc; rw [Int.natAbs_natCast]; exact Nat.gcd_dvd_left _ _)
theorem gc_r : gc x y ∣ y := Int.natAbs_dvd_natAbs.mp (by unfold gc; rw [Int.natAbs_natCast]; exact Nat.gcd_dvd_right _ _)
theorem gc_le (hy : 0 < y) : gc x y ≤ y := Int.le_of_dvd hy gc_r
theorem num_l : gc x y * (x / gc x y) = x := Int.mul_ediv_cancel' gc_l
theorem num_r : gc x y * (y / gc x y) = y := Int.mul_ediv_cancel' gc_r
theorem bt_pos (hy : 0 < y) : 0 < y / gc x y := Int.ediv_pos_of_pos_of_dvd hy (Int.le_of_lt (gc_pos hy)) gc_r
theorem cop (hy : 0 < y) : Nat.gcd (x / gc x y).natAbs (y / gc x y).natAbs = 1 := by
  have hg := gc_pos (x := x) hy
  have h1 : x.natAbs = (gc x y).natAbs * (x / gc x y).natAbs := by rw [← Int.natAbs_mul, num_l]
  have h2 : y.natAbs = (gc x y).natAbs * (y / gc x y).natAbs := by rw [← Int.natAbs_mul, num_r]
  have h3 : (gc x y).natAbs = Nat.gcd x.natAbs y.natAbs := by unfold gc; rw [Int.natAbs_natCast]
  have h4 : Nat.gcd x.natAbs y.natAbs = (gc x y).natAbs * Nat.gcd (x / gc x y).natAbs (y / gc x y).natAbs := by
    conv => lhs; rw [h1, h2]
    rw [Nat.gcd_mul_left]
  rw [← h3] at h4
  have h5 : 0 < (gc x y).natAbs := by omega
  exact Nat.eq_of_mul_eq_mul_left h5 (by rw [← h4, Nat.mul_one])
theorem low_eq {a b c d : Int} (hb : 0 < b) (hd : 0 < d) (h1 : Nat.gcd a.natAbs b.natAbs = 1) (h2 : Nat.gcd c.natAbs d.natAbs = 1) (h : a * d = c * b) : a = c ∧ b = d := by
  have h3 : a.natAbs * d.natAbs = c.natAbs * b.natAbs := by rw [← Int.natAbs_mul, ← Int.natAbs_mul, h]
  have k1 : b.natAbs ∣ d.natAbs := Nat.Coprime.dvd_of_dvd_mul_left (m := a.natAbs) (by rw [Nat.Coprime, Nat.gcd_comm]; exact h1) (by rw [h3]; exact Nat.dvd_mul_left _ _)
  have k2 : d.natAbs ∣ b.natAbs := Nat.Coprime.dvd_of_dvd_mul_left (m := c.natAbs) (by rw [Nat.Coprime, Nat.gcd_comm]; exact h2) (by rw [← h3]; exact Nat.dvd_mul_left _ _)
  have k3 := Nat.dvd_antisymm k1 k2
  have k4 : b = d := by omega
  refine ⟨?_, k4⟩
  rw [k4] at h
  exact Int.eq_of_mul_eq_mul_right (by omega) h
theorem cross : x / gc x y * y = x * (y / gc x y) := by
  have h1 := num_l (x := x) (y := y)
  have h2 := num_r (x := x) (y := y)
  generalize x / gc x y = a at *
  generalize y / gc x y = b at *
  generalize gc x y = g at *
  rw [← h1, ← h2]
  grind
theorem low (hy : 0 < y) (hv : 0 < v) (h : x * v = u * y) : x / gc x y = u / gc u v ∧ y / gc x y = v / gc u v := by
  refine low_eq (bt_pos hy) (bt_pos hv) (cop hy) (cop hv) ?_
  have h1 := num_l (x := x) (y := y)
  have h2 := num_r (x := x) (y := y)
  have h3 := num_l (x := u) (y := v)
  have h4 := num_r (x := u) (y := v)
  have g1 := gc_pos (x := x) hy
  have g2 := gc_pos (x := u) hv
  generalize x / gc x y = a at *
  generalize y / gc x y = b at *
  generalize u / gc u v = c at *
  generalize v / gc u v = d at *
  generalize gc x y = g at *
  generalize gc u v = k at *
  have e : (g * k) * (a * d) = (g * k) * (c * b) := by
    have : (g * a) * (k * d) = (k * c) * (g * b) := by rw [h1, h4, h3, h2, h]
    grind
  exact Int.eq_of_mul_eq_mul_left (by have := Int.mul_pos g1 g2; omega) e
theorem F_eq (hy : 0 < y) (hv : 0 < v) (h : x * v = u * y) : F x y = F u v := by
  unfold F
  obtain ⟨h1, h2⟩ := low hy hv h
  rw [h1, h2]
/-- the sum of two -/
theorem F_add (hy : 0 < y) (hv : 0 < v) {w z : Int} (hz : 0 < z) (h : (x * v + u * y) * z = w * (y * v)) : F (x / gc x y * (v / gc u v) + u / gc u v * (y / gc x y)) (y / gc x y * (v / gc u v)) = F w z := by
  refine F_eq (Int.mul_pos (bt_pos hy) (bt_pos hv)) hz ?_
  have h1 := num_l (x := x) (y := y)
  have h2 := num_r (x := x) (y := y)
  have h3 := num_l (x := u) (y := v)
  have h4 := num_r (x := u) (y := v)
  have g1 := gc_pos (x := x) hy
  have g2 := gc_pos (x := u) hv
  generalize x / gc x y = a at *
  generalize y / gc x y = b at *
  generalize u / gc u v = c at *
  generalize v / gc u v = d at *
  generalize gc x y = g at *
  generalize gc u v = k at *
  have e : (g * k) * ((a * d + c * b) * z) = (g * k) * (w * (b * d)) := by
    have : ((g * a) * (k * d) + (k * c) * (g * b)) * z = w * ((g * b) * (k * d)) := by rw [h1, h4, h3, h2, h]
    grind
  exact Int.eq_of_mul_eq_mul_left (by have := Int.mul_pos g1 g2; omega) e
theorem gc_sm {k : Nat} (hy : 0 < y) (h : Sm k y) : Sm k (gc x y) := by
  have h1 := gc_le (x := x) hy
  have h2 := gc_pos (x := x) hy
  show (gc x y).natAbs < 2 ^ k
  have h3 : y.natAbs < 2 ^ k := h
  omega
theorem gc_div {k : Nat} (hy : 0 < y) (h : Sm k y) (hk : k < 9000) : divOk (gc x y) = true := decide_eq_true ⟨gc_pos hy, by have := (gc_sm (x := x) hy h).log; omega⟩
def gp (g : Int) : Nat → Int
  | 0 => 1
  | k + 1 => gp g k * g
theorem gp_pos {g : Int} (h : 0 < g) : ∀ k, 0 < gp g k
  | 0 => by show (0 : Int) < 1; decide
  | k + 1 => Int.mul_pos (gp_pos h k) h
theorem gp_sm {g : Int} {c : Nat} (h : Sm c g) : ∀ k, Sm (1 + c * k) (gp g k)
  | 0 => by show (1 : Int).natAbs < 2 ^ (1 + c * 0); rw [Nat.mul_zero]; decide
  | k + 1 => ((gp_sm h k).mul h).mono (by rw [Nat.mul_succ]; omega)
theorem gp_add (g : Int) (a : Nat) : ∀ b, gp g (a + b) = gp g a * gp g b
  | 0 => (Int.mul_one _).symm
  | b + 1 => by
    show gp g (a + b) * g = gp g a * (gp g b * g)
    rw [gp_add g a b, Int.mul_assoc]
end DL
set_option Elab.async false
set_option linter.all false
set_option maxRecDepth 100000
set_option maxHeartbeats 1000000
/-! DLN: a net's walk by the program (steps of one common degree), and by the laws (degrees multiplied). -/
namespace DL
open PySem PySem.Spec PyProof.Rows L2 MP
variable {rows : List (List Int)} {kd : Nat}
/-! ### sums -/
theorem sm_mul (c : Int) (f : Nat → Int) : ∀ n, sm n f * c = sm n fun k => f k * c
  | 0 => by rw [sm_zero, sm_zero, Int.zero_mul]
  | n + 1 => by rw [sm_succ, sm_succ, Int.add_mul, sm_mul c f n]
theorem sm_mull (c : Int) (f : Nat → Int) (n : Nat) : c * sm n f = sm n fun k => c * f k := by
  rw [Int.mul_comm, sm_mul]
  exact sm_congr fun k _ => Int.mul_comm _ _
theorem sm_add (f g : Nat → Int) : ∀ n, sm n f + sm n g = sm n fun k => f k + g k
  | 0 => rfl
  | n + 1 => by
    rw [sm_succ, sm_succ, sm_succ, ← sm_add f g n]
    omega
theorem sm_z (n : Nat) : sm n (fun _ => 0) = 0 := by
  induction n with
  | zero => rfl
  | succ n ih => rw [sm_succ, ih]; rfl
theorem sm_swap (f : Nat → Nat → Int) (m : Nat) : ∀ n, (sm n fun i => sm m fun j => f i j) = sm m fun j => sm n fun i => f i j
  | 0 => (sm_z m).symm
  | n + 1 => by
    rw [sm_succ, sm_swap f m n, sm_add]
    exact sm_congr fun j _ => (sm_succ n fun i => f i j).symm
theorem sm_one {n b : Nat} (f : Nat → Int) (hb : b < n) : (sm n fun i => (if i = b then 1 else 0) * f i) = f b := by
  induction n with
  | zero => omega
  | succ n ih =>
    rw [sm_succ]
    by_cases h : n = b
    · subst h
      rw [if_pos rfl, Int.one_mul]
      have : (sm n fun i => (if i = n then 1 else 0) * f i) = 0 := by
        exact (sm_congr (g := fun _ => 0) fun k hk => by rw [if_neg (by omega), Int.zero_mul]).trans (sm_z n)
      omega
    · rw [if_neg h, ih (by omega), Int.zero_mul, Int.add_zero]
theorem sum_sm_el (a : List Int) : a.sum = sm a.length fun k => el a k := by
  unfold sm
  rw [← map_el (fun x => x), List.map_id']
theorem RLr {m : Nat} {f : Nat → Int} : RL ((List.range m).map f) = .dat (.lst ((List.range m).map fun r => D.int (f r))) := congrArg R.dat RL_map
/-! ### a net -/
def cdeg (ds : List Int) : Int := ds.foldl lcmI 1
theorem cdeg_take {ds : List Int} {i : Nat} {d : Int} (h : ds[i]? = some d) : cdeg (ds.take (i + 1)) = lcmI (cdeg (ds.take i)) d := by
  unfold cdeg
  rw [List.take_add_one, h, List.foldl_append]
  rfl
theorem cdeg_sm {k : Nat} {ds : List Int} (hs : ∀ d ∈ ds, Sm k d) : ∀ i, i ≤ ds.length → Sm (1 + k * i) (cdeg (ds.take i))
  | 0, _ => by show (1 : Int).natAbs < 2 ^ (1 + k * 0); rw [Nat.mul_zero]; decide
  | i + 1, hi => by
    rw [cdeg_take (List.getElem?_eq_getElem (by omega : i < ds.length))]
    exact (lcm_sm (cdeg_sm hs i (by omega)) (hs _ (List.getElem_mem _))).mono (by rw [Nat.mul_succ]; omega)
/-- a net whose degrees have at most kd bits -/
structure Net (rows : List (List Int)) (kd : Nat) : Prop extends Tied rows where
  v : ∀ r ∈ rows, Sm kd r.sum
  b1 : 1 + kd * rows.length ≤ 8900
/-- the bits of the common degree, and of the degrees' product -/
abbrev cb (rows : List (List Int)) (kd : Nat) : Nat := 1 + kd * rows.length
abbrev whole (rows : List (List Int)) : Int := cdeg (degs rows)
theorem Net.kd_le (g : Net rows kd) : kd ≤ kd * rows.length := Nat.le_mul_of_pos_right _ g.ge
theorem Net.ds (g : Net rows kd) : ∀ d ∈ degs rows, Sm kd d := fun d hd => by
  obtain ⟨r, hr, e⟩ := List.mem_map.mp hd
  rw [← e]
  exact g.v r hr
theorem Net.ws (g : Net rows kd) : Sm (cb rows kd) (whole rows) := by
  have h := cdeg_sm (k := kd) g.ds (degs rows).length (Nat.le_refl _)
  rw [List.take_length] at h
  refine h.mono ?_
  rw [List.length_map]
  exact Nat.le_refl _
theorem Net.psm (g : Net rows kd) : Sm (cb rows kd) (ps rows) := by
  have h := ps_sm (k := kd) g.v rows.length (Nat.le_refl _)
  rw [List.take_length] at h
  exact h
theorem Net.elw (g : Net rows kd) {r : List Int} (hr : r ∈ rows) {x : Int} (hx : x ∈ r) : Sm kd x := by
  have h1 := sum_ge r x (fun y hy => (g.w r hr y hy).1) hx
  have h2 := (g.w r hr x hx).1
  have h3 : r.sum.natAbs < 2 ^ kd := g.v r hr
  show x.natAbs < 2 ^ kd
  omega
theorem Net.div (g : Net rows kd) {r : List Int} (hr : r ∈ rows) : divOk r.sum = true := decide_eq_true ⟨g.pos r hr, by have := (g.v r hr).log; have := g.b1; have := g.kd_le; omega⟩
theorem Net.vol (g : Net rows kd) : Sm (kd + 6) (degs rows).sum := by
  have h1 := sum_sm (a := kd) (degs rows) g.ds
  rw [List.length_map] at h1
  have h2 : 0 < 2 ^ kd := Nat.pow_pos (by decide)
  show (degs rows).sum.natAbs < 2 ^ (kd + 6)
  rw [Nat.pow_add]
  have h3 : rows.length * 2 ^ kd ≤ 63 * 2 ^ kd := Nat.mul_le_mul_right _ (by have := g.le; omega)
  omega
theorem cdeg_pos0 : ∀ (ds : List Int) (w : Int), 0 < w → (∀ d ∈ ds, 0 < d) → 0 < ds.foldl lcmI w
  | [], w, h, _ => h
  | d :: ds, w, h, hd => cdeg_pos0 ds (lcmI w d) (lcmI_pos h (hd d List.mem_cons_self)) fun e he => hd e (List.mem_cons_of_mem _ he)
theorem whole_pos (hp : ∀ r ∈ rows, 0 < r.sum) : 0 < whole rows := cdeg_pos0 (degs rows) 1 (by decide) fun d hd => by
  obtain ⟨r, hr, e⟩ := List.mem_map.mp hd
  rw [← e]
  exact hp r hr
theorem ps_pos0 : ∀ (rs : List (List Int)) (t : Int), 0 < t → (∀ r ∈ rs, 0 < r.sum) → 0 < rs.foldl (fun t r => t * r.sum) t
  | [], t, h, _ => h
  | r :: rs, t, h, hp => ps_pos0 rs (t * r.sum) (Int.mul_pos h (hp r List.mem_cons_self)) fun r hr => hp r (List.mem_cons_of_mem _ hr)
theorem ps_pos (hp : ∀ r ∈ rows, 0 < r.sum) : 0 < ps rows := ps_pos0 rows 1 (by decide) hp
theorem whole_div {r : List Int} (h : r ∈ rows) : whole rows / r.sum * r.sum = whole rows := Int.ediv_mul_cancel (fold_mem (degs rows) 1 r.sum (List.mem_map.mpr ⟨r, h, rfl⟩))
/-! ### the program's walk -/
def stepRows (rows : List (List Int)) : List (List Int) := (List.range rows.length).map fun r => (List.range rows.length).map fun j => el (row rows r) j * (whole rows / (row rows r).sum)
def deal (rs : List (List Int)) (ns : List Int) : List Int := (List.range rs.length).map fun p => sm rs.length fun k => el ns k * el (row rs k) p
theorem deal_len (rs : List (List Int)) (ns : List Int) : (deal rs ns).length = rs.length := by unfold deal; rw [List.length_map, List.length_range]
theorem sr_len (rows : List (List Int)) : (stepRows rows).length = rows.length := by unfold stepRows; rw [List.length_map, List.length_range]
theorem sr_row {r : Nat} (h : r < rows.length) : row (stepRows rows) r = (List.range rows.length).map fun j => el (row rows r) j * (whole rows / (row rows r).sum) := by
  unfold row stepRows
  rw [List.getElem?_map, List.getElem?_range h]
  rfl
theorem sr_mem {r : List Int} (h : r ∈ stepRows rows) : ∃ k, k < rows.length ∧ r = (List.range rows.length).map fun j => el (row rows k) j * (whole rows / (row rows k).sum) := by
  obtain ⟨k, hk, e⟩ := List.mem_map.mp (show r ∈ (List.range rows.length).map _ from h)
  exact ⟨k, List.mem_range.mp hk, e.symm⟩
theorem sr_sq {r : List Int} (h : r ∈ stepRows rows) : r.length = (stepRows rows).length := by
  obtain ⟨k, hk, e⟩ := sr_mem h
  rw [e, sr_len, List.length_map, List.length_range]
theorem sr_sm (g : Net rows kd) {r : List Int} (h : r ∈ stepRows rows) : ∀ x ∈ r, Sm (kd + cb rows kd) x := fun x hx => by
  obtain ⟨k, hk, e⟩ := sr_mem h
  rw [e] at hx
  obtain ⟨j, hj, rfl⟩ := mem_rng hx
  exact (g.elw (row_mem hk) (el_mem (by rw [g.sq _ (row_mem hk)]; exact hj))).mul (div_sm g.ws (g.pos _ (row_mem hk)))
def pw (rows : List (List Int)) (b : Nat) : Nat → List Int
  | 0 => unit rows.length b
  | k + 1 => deal (stepRows rows) (pw rows b k)
abbrev sc (rows : List (List Int)) (k : Nat) : Int := gp (whole rows) k
theorem pw_len (rows : List (List Int)) (b : Nat) : ∀ k, (pw rows b k).length = rows.length
  | 0 => by show ((List.range rows.length).map _).length = _; simp
  | k + 1 => by show (deal _ _).length = _; rw [deal_len, sr_len]
/-- the bits of a step -/
abbrev sb (rows : List (List Int)) (kd : Nat) : Nat := kd + cb rows kd + 6
theorem pw_sm (g : Net rows kd) (b : Nat) : ∀ k, ∀ x ∈ pw rows b k, Sm (1 + sb rows kd * k) x
  | 0, x, hx => by
    obtain ⟨j, _, e⟩ := mem_rng (show x ∈ (List.range rows.length).map _ from hx)
    subst e
    show (if j = b then (1 : Int) else 0).natAbs < 2 ^ (1 + sb rows kd * 0)
    rw [Nat.mul_zero]
    split <;> decide
  | k + 1, x, hx => by
    obtain ⟨j, hj, e⟩ := mem_rng (show x ∈ (List.range (stepRows rows).length).map _ from hx)
    subst e
    have ih := pw_sm g b k
    have hz := g.le
    refine (sm_sm (a := 1 + sb rows kd * k + (kd + cb rows kd)) (fun i hi => ?_) (by rw [sr_len]; omega)).mono (by have hs : sb rows kd = kd + cb rows kd + 6 := rfl; rw [Nat.mul_succ (sb rows kd) k]; omega)
    have hi' : i < (pw rows b k).length := by rw [pw_len, ← sr_len]; exact hi
    exact (ih _ (el_mem hi')).mul (sr_sm g (row_mem hi) _ (el_mem (by rw [sr_sq (row_mem hi)]; exact hj)))
theorem sc_sm (g : Net rows kd) (k : Nat) : Sm (1 + cb rows kd * k) (sc rows k) := gp_sm g.ws k
theorem sc_pos (hp : ∀ r ∈ rows, 0 < r.sum) (k : Nat) : 0 < sc rows k := gp_pos (whole_pos hp) k
/-! ### strays -/
def strayT (rows : List (List Int)) (ns : List Int) (k : Nat) : Int := el ns k * el ns k * (whole rows / (row rows k).sum)
def tot (rows : List (List Int)) (ns : List Int) : Int := sm rows.length (strayT rows ns)
def botP (rows : List (List Int)) (sc : Int) : Int := whole rows * sc * sc
def topP (rows : List (List Int)) (ns : List Int) (sc : Int) : Int := (degs rows).sum * tot rows ns - botP rows sc
theorem strayT_sm (g : Net rows kd) {ns : List Int} {k1 : Nat} (hn : ns.length = rows.length) (ha : ∀ x ∈ ns, Sm k1 x) {k : Nat} (hk : k < rows.length) : Sm (k1 + k1 + cb rows kd) (strayT rows ns k) :=
  ((ha _ (el_mem (by omega))).mul (ha _ (el_mem (by omega)))).mul (div_sm g.ws (g.pos _ (row_mem hk)))
theorem tot_sm (g : Net rows kd) {ns : List Int} {k1 : Nat} (hn : ns.length = rows.length) (ha : ∀ x ∈ ns, Sm k1 x) : Sm (k1 + k1 + cb rows kd + 6) (tot rows ns) := sm_sm (fun k hk' => strayT_sm g hn ha hk') (by have := g.le; omega)
theorem botP_sm (g : Net rows kd) {ks : Nat} {sc : Int} (hs : Sm ks sc) : Sm (cb rows kd + ks + ks) (botP rows sc) := (g.ws.mul hs).mul hs
theorem botP_pos (hp : ∀ r ∈ rows, 0 < r.sum) {s : Int} (hs : 0 < s) : 0 < botP rows s := Int.mul_pos (Int.mul_pos (whole_pos hp) hs) hs
/-! ### the law's walk -/
def prt (rows : List (List Int)) : List Int := rows.map fun r => ps rows / r.sum
def lwd (rows : List (List Int)) (ns : List Int) : List Int := (List.range rows.length).map fun i => el ns i * el (prt rows) i
def lws (rows : List (List Int)) (ns : List Int) : List Int := (List.range rows.length).map fun j => sm rows.length fun k => el (row rows j) k * el (lwd rows ns) k
def W (rows : List (List Int)) (b : Nat) : Nat → List Int
  | 0 => unit rows.length b
  | k + 1 => lws rows (W rows b k)
theorem prt_len : (prt rows).length = rows.length := by unfold prt; rw [List.length_map]
theorem prt_at {i : Nat} (h : i < rows.length) : el (prt rows) i = ps rows / (row rows i).sum := by
  unfold el prt row
  rw [List.getElem?_map, List.getElem?_eq_getElem h]
  rfl
theorem prt_sm (g : Net rows kd) : ∀ x ∈ prt rows, Sm (cb rows kd) x := fun x hx => by
  obtain ⟨r, hr, e⟩ := List.mem_map.mp hx
  rw [← e]
  exact div_sm g.psm (g.pos r hr)
theorem lwd_len (rows : List (List Int)) (ns : List Int) : (lwd rows ns).length = rows.length := by unfold lwd; rw [List.length_map, List.length_range]
theorem W_len (rows : List (List Int)) (b : Nat) : ∀ k, (W rows b k).length = rows.length
  | 0 => by show ((List.range rows.length).map _).length = _; simp
  | k + 1 => by show ((List.range rows.length).map _).length = _; simp
theorem W_sm (g : Net rows kd) (b : Nat) : ∀ k, ∀ x ∈ W rows b k, Sm (1 + sb rows kd * k) x
  | 0, x, hx => by
    obtain ⟨j, _, e⟩ := mem_rng (show x ∈ (List.range rows.length).map _ from hx)
    subst e
    show (if j = b then (1 : Int) else 0).natAbs < 2 ^ (1 + sb rows kd * 0)
    rw [Nat.mul_zero]
    split <;> decide
  | k + 1, x, hx => by
    obtain ⟨j, hj, e⟩ := mem_rng (show x ∈ (List.range rows.length).map _ from hx)
    subst e
    have ih := W_sm g b k
    have hz := g.le
    refine (sm_sm (a := kd + (1 + sb rows kd * k + cb rows kd)) (fun i hi => ?_) (by omega)).mono (by have hs : sb rows kd = kd + cb rows kd + 6 := rfl; rw [Nat.mul_succ (sb rows kd) k]; omega)
    refine (g.elw (row_mem hj) (el_mem (by rw [g.sq _ (row_mem hj)]; exact hi))).mul ?_
    unfold lwd
    rw [el_map hi]
    exact (ih _ (el_mem (by rw [W_len]; exact hi))).mul (prt_sm g _ (el_mem (by rw [prt_len]; exact hi)))
theorem lwd_sm (g : Net rows kd) (b k : Nat) : ∀ x ∈ lwd rows (W rows b k), Sm (1 + sb rows kd * k + cb rows kd) x := fun x hx => by
  obtain ⟨j, hj, e⟩ := mem_rng (show x ∈ (List.range rows.length).map _ from hx)
  subst e
  exact (W_sm g b k _ (el_mem (by rw [W_len]; exact hj))).mul (prt_sm g _ (el_mem (by rw [prt_len]; exact hj)))
/-! ### both are one -/
theorem cut {i : Nat} (h : i < rows.length) : whole rows / (row rows i).sum * ps rows = whole rows * el (prt rows) i := by
  have h1 := whole_div (rows := rows) (r := row rows i) (row_mem h)
  have h2 := ps_div (rows := rows) (r := row rows i) (row_mem h)
  rw [prt_at h]
  have e3 : ∀ q p d L G : Int, q * d = L → p * d = G → q * G = L * p := fun q p d L G a b => by
    rw [← a, ← b]
    grind
  exact e3 _ _ _ _ _ h1 h2
theorem el_W {b k j : Nat} (hj : j < rows.length) : el (W rows b (k + 1)) j = sm rows.length fun i => el (row rows j) i * (el (W rows b k) i * el (prt rows) i) := by
  show el (lws rows (W rows b k)) j = _
  unfold lws
  rw [el_map hj]
  exact sm_congr fun i hi => by unfold lwd; rw [el_map hi]
theorem pw_eq (g : Tied rows) (b : Nat) : ∀ k j, j < rows.length → el (pw rows b k) j * gp (ps rows) k = el (W rows b k) j * sc rows k
  | 0, j, hj => rfl
  | k + 1, j, hj => by
    have ih := pw_eq g b k
    have e1 : el (pw rows b (k + 1)) j = sm rows.length fun i => el (pw rows b k) i * (el (row rows i) j * (whole rows / (row rows i).sum)) := by
      show el (deal (stepRows rows) (pw rows b k)) j = _
      unfold deal
      rw [el_map (by rw [sr_len]; exact hj), sr_len]
      refine sm_congr fun i hi => ?_
      rw [sr_row hi, el_map hj]
    show _ * (gp (ps rows) k * ps rows) = _ * (sc rows k * whole rows)
    rw [e1, el_W hj, sm_mul, sm_mul]
    refine sm_congr fun i hi => ?_
    have c := cut hi
    have h1 := ih i hi
    rw [g.sym i j hi hj]
    have alg : ∀ a t g L P q G w sk : Int, a * g = t * sk → q * G = L * P → a * (w * q) * (g * G) = w * (t * P) * (sk * L) := fun a t g L P q G w sk h1 h2 => by
      have : a * (w * q) * (g * G) = (a * g) * w * (q * G) := by grind
      rw [this, h1, h2]
      grind
    exact alg _ _ _ _ _ _ _ _ _ h1 c
/-- the law's stray, times the volume -/
def strW (rows : List (List Int)) (b k : Nat) : Int := sm rows.length fun j => el (W rows b k) j * el (W rows b k) j * el (prt rows) j
/-- its bottom -/
def und (rows : List (List Int)) (k : Nat) : Int := gp (ps rows) (2 * k) * ps rows
theorem gp_two (g : Int) (k : Nat) : gp g (2 * k) = gp g k * gp g k := by rw [show 2 * k = k + k by omega, gp_add]
theorem und_pos (g : Tied rows) (k : Nat) : 0 < und rows k := Int.mul_pos (gp_pos (ps_pos g.pos) _) (ps_pos g.pos)
theorem tot_eq (g : Tied rows) (b k : Nat) : tot rows (pw rows b k) * und rows k = strW rows b k * botP rows (sc rows k) := by
  unfold tot strW botP und
  rw [sm_mul, sm_mul, gp_two]
  refine sm_congr fun i hi => ?_
  unfold strayT
  have c := cut hi
  have h1 := pw_eq g b k i hi
  have alg : ∀ a t g L P q G sk : Int, a * g = t * sk → q * G = L * P → a * a * q * (g * g * G) = t * t * P * (L * sk * sk) := fun a t g L P q G sk h1 h2 => by
    have : a * a * q * (g * g * G) = (a * g) * (a * g) * (q * G) := by grind
    rw [this, h1, h2]
    grind
  exact alg _ _ _ _ _ _ _ _ h1 c
theorem top_eq (g : Tied rows) (b k : Nat) : topP rows (pw rows b k) (sc rows k) * und rows k = ((degs rows).sum * strW rows b k - und rows k) * botP rows (sc rows k) := by
  have h := tot_eq g b k
  unfold topP
  generalize tot rows (pw rows b k) = T at *
  generalize botP rows (sc rows k) = B at *
  generalize und rows k = U at *
  generalize strW rows b k = X at *
  have : ((degs rows).sum * T - B) * U = (degs rows).sum * (T * U) - B * U := by grind
  rw [this, h]
  grind
/-! ### the law's walk: to and fro -/
abbrev w (rows : List (List Int)) (k b j : Nat) : Int := el (W rows b k) j
theorem w_zero {b j : Nat} (hj : j < rows.length) : w rows 0 b j = if j = b then 1 else 0 := el_map hj
theorem w_succ {k b j : Nat} (hj : j < rows.length) : w rows (k + 1) b j = sm rows.length fun i => el (row rows j) i * (w rows k b i * el (prt rows) i) := el_W hj
/-- the first step apart -/
theorem w_right (g : Tied rows) : ∀ k b j, b < rows.length → j < rows.length → w rows (k + 1) b j = sm rows.length fun i => w rows k i j * (el (row rows i) b * el (prt rows) b)
  | 0, b, j, hb, hj => by
    rw [w_succ hj]
    have e1 : (sm rows.length fun i => el (row rows j) i * (w rows 0 b i * el (prt rows) i)) = sm rows.length fun i => (if i = b then 1 else 0) * (el (row rows j) i * el (prt rows) i) := sm_congr fun i hi => by
      rw [w_zero hi]
      split <;> simp
    have e2 : (sm rows.length fun i => w rows 0 i j * (el (row rows i) b * el (prt rows) b)) = sm rows.length fun i => (if i = j then 1 else 0) * (el (row rows i) b * el (prt rows) b) := sm_congr fun i hi => by
      rw [w_zero hj]
      by_cases h : j = i
      · subst h; rfl
      · rw [if_neg h, if_neg (fun z => h z.symm)]
    rw [e1, e2, sm_one _ hb, sm_one _ hj]
  | k + 1, b, j, hb, hj => by
    rw [w_succ hj]
    have e1 : (sm rows.length fun i => el (row rows j) i * (w rows (k + 1) b i * el (prt rows) i)) = sm rows.length fun i => sm rows.length fun l => el (row rows j) i * (w rows k l i * (el (row rows l) b * el (prt rows) b) * el (prt rows) i) := sm_congr fun i hi => by
      rw [w_right g k b i hb hi, sm_mul, sm_mull]
    rw [e1, sm_swap]
    refine sm_congr fun l hl => ?_
    rw [w_succ hj, sm_mul]
    exact sm_congr fun i hi => by grind
/-- two walks, one behind the other -/
theorem w_add (s : Nat) (b : Nat) : ∀ t j, j < rows.length → w rows (s + t) b j = sm rows.length fun i => w rows s b i * w rows t i j
  | 0, j, hj => by
    have e : (sm rows.length fun i => w rows s b i * w rows 0 i j) = sm rows.length fun i => (if i = j then 1 else 0) * w rows s b i := sm_congr fun i hi => by
      rw [w_zero hj]
      by_cases h : j = i
      · subst h; simp
      · rw [if_neg h, if_neg (fun z => h z.symm)]; simp
    rw [e, sm_one _ hj]
    rfl
  | t + 1, j, hj => by
    show w rows (s + t + 1) b j = _
    rw [w_succ hj]
    have e1 : (sm rows.length fun l => el (row rows j) l * (w rows (s + t) b l * el (prt rows) l)) = sm rows.length fun l => sm rows.length fun i => el (row rows j) l * (w rows s b i * w rows t i l * el (prt rows) l) := sm_congr fun l hl => by
      rw [w_add s b t l hl, sm_mul, sm_mull]
    rw [e1, sm_swap]
    refine sm_congr fun i hi => ?_
    rw [w_succ hj, sm_mull]
    exact sm_congr fun l hl => by grind
theorem prt_deg {i : Nat} (h : i < rows.length) : el (prt rows) i * (row rows i).sum = ps rows := by
  rw [prt_at h]
  exact ps_div (row_mem h)
/-- detailed balance -/
theorem w_bal (g : Tied rows) : ∀ k b j, b < rows.length → j < rows.length → w rows k b j * (row rows b).sum = w rows k j b * (row rows j).sum
  | 0, b, j, hb, hj => by
    rw [w_zero hj, w_zero hb]
    by_cases h : j = b
    · subst h; rfl
    · rw [if_neg h, if_neg (fun z => h z.symm), Int.zero_mul, Int.zero_mul]
  | k + 1, b, j, hb, hj => by
    rw [w_succ hj, w_right g k j b hj hb, sm_mul, sm_mul]
    refine sm_congr fun i hi => ?_
    have h1 := w_bal g k b i hb hi
    have h2 := prt_deg hi
    have h3 := prt_deg hj
    have h4 := g.sym i j hi hj
    have alg : ∀ A wbi wib pi pj di db dj G : Int, wbi * db = wib * di → pi * di = G → pj * dj = G → A * (wbi * pi) * db = wib * (A * pj) * dj := fun A wbi wib pi pj di db dj G a b c => by
      have e1 : A * (wbi * pi) * db = A * (wbi * db) * pi := by grind
      have e2 : wib * (A * pj) * dj = A * wib * (pj * dj) := by grind
      rw [e1, e2, a, c, ← b]
      grind
    rw [h4]
    exact alg _ _ _ _ _ _ _ _ _ h1 h2 h3
/-- the strays by the degrees: the returns in twice the steps -/
theorem stray_sum (g : Tied rows) (k : Nat) : (sm rows.length fun i => (row rows i).sum * strW rows i k) = ps rows * sm rows.length fun i => w rows (2 * k) i i := by
  rw [sm_mull]
  have e1 : (sm rows.length fun i => (row rows i).sum * strW rows i k) = sm rows.length fun i => ps rows * w rows (2 * k) i i := sm_congr fun i hi => by
    rw [show 2 * k = k + k by omega, w_add k i k i hi, sm_mull]
    unfold strW
    rw [sm_mull]
    refine sm_congr fun j hj => ?_
    have h1 := w_bal g k i j hi hj
    have h2 := prt_deg hj
    have alg : ∀ di wij wji p dj G : Int, wij * di = wji * dj → p * dj = G → di * (wij * wij * p) = G * (wij * wji) := fun di wij wji p dj G a b => by
      have : di * (wij * wij * p) = (wij * di) * wij * p := by grind
      rw [this, a, ← b]
      grind
    exact alg _ _ _ _ _ _ h1 h2
  rw [e1]
/-! ### returns -/
def trc (rows : List (List Int)) (t : Nat) : Int := sm rows.length fun s => el (pw rows s t) s
/-- the law's returns -/
def clo (rows : List (List Int)) (t : Nat) : Int := sm rows.length fun i => w rows t i i
theorem trc_eq (g : Tied rows) (t : Nat) : trc rows t * gp (ps rows) t = clo rows t * sc rows t := by
  unfold trc clo
  rw [sm_mul, sm_mul]
  exact sm_congr fun i hi => pw_eq g i t i hi
theorem sm_ones : ∀ n, (sm n fun _ => 1) = n
  | 0 => rfl
  | n + 1 => by rw [sm_succ, sm_ones n]; omega
theorem trc_zero : trc rows 0 = rows.length := by
  unfold trc
  rw [← sm_ones rows.length]
  exact sm_congr fun i hi => by show el (unit rows.length i) i = 1; unfold unit; rw [el_map hi, if_pos rfl]
theorem strW_zero {b : Nat} (hb : b < rows.length) : strW rows b 0 = el (prt rows) b := by
  unfold strW
  have e : (sm rows.length fun j => el (W rows b 0) j * el (W rows b 0) j * el (prt rows) j) = sm rows.length fun j => (if j = b then 1 else 0) * el (prt rows) j := sm_congr fun j hj => by
    have := w_zero (rows := rows) (b := b) hj
    unfold w at this
    rw [this]
    split <;> simp
  rw [e, sm_one _ hb]
/-- the stray's top, by the law -/
def due (rows : List (List Int)) (b k : Nat) : Int := (degs rows).sum * strW rows b k - und rows k
theorem due_zero {b : Nat} (hb : b < rows.length) : due rows b 0 * (row rows b).sum = ((degs rows).sum - (row rows b).sum) * und rows 0 := by
  have h := prt_deg hb
  have e : und rows 0 = ps rows := by show 1 * ps rows = _; rw [Int.one_mul]
  unfold due
  rw [strW_zero hb, e, ← h]
  grind
theorem due_sum (g : Tied rows) (k : Nat) : (sm rows.length fun i => (row rows i).sum * due rows i k) = (degs rows).sum * (ps rows * (clo rows (2 * k) - gp (ps rows) (2 * k))) := by
  have h := stray_sum g k
  have e1 : (sm rows.length fun i => (row rows i).sum * due rows i k) = (sm rows.length fun i => ((row rows i).sum * strW rows i k) * (degs rows).sum) + sm rows.length fun i => (row rows i).sum * (- und rows k) := by
    rw [sm_add]
    exact sm_congr fun i hi => by unfold due; grind
  rw [e1, ← sm_mul, ← sm_mul, h]
  have e2 : (sm rows.length fun i => (row rows i).sum) = (degs rows).sum := by
    unfold sm degs
    rw [← map_row List.sum]
  rw [e2]
  unfold und clo
  grind
theorem F_due (g : Tied rows) (b k : Nat) : F (topP rows (pw rows b k) (sc rows k)) (botP rows (sc rows k)) = F (due rows b k) (und rows k) := F_eq (botP_pos g.pos (sc_pos g.pos k)) (und_pos g k) (top_eq g b k)
theorem F_clo (g : Tied rows) (t : Nat) : F (trc rows t) (sc rows t) = F (clo rows t) (gp (ps rows) t) := F_eq (sc_pos g.pos t) (gp_pos (ps_pos g.pos) t) (trc_eq g t)
/-- the strays' weighed sum, by fractions that are multiplied out -/
theorem fin_eq {left bottom C U th bh V G : Int} (hU : 0 < U) (hG : 0 < G) (h : left * (U * G) = bottom * (V * (G * (C - U)))) (hh : th * U = C * bh) : left * bh = (th - bh) * bottom * V := by
  have e1 : left * U = bottom * (V * (C - U)) := by
    refine Int.eq_of_mul_eq_mul_right (a := G) (by omega) ?_
    have : left * U * G = left * (U * G) := by grind
    rw [this, h]
    grind
  refine Int.eq_of_mul_eq_mul_right (a := U) (by omega) ?_
  have a1 : left * bh * U = (left * U) * bh := by grind
  rw [a1, e1]
  have a2 : (th - bh) * bottom * V * U = (th * U - bh * U) * bottom * V := by grind
  rw [a2, hh]
  grind
theorem add_sm {a : Nat} {x y : Int} (hx : Sm a x) (hy : Sm a y) : Sm (a + 1) (x + y) := by
  show (x + y).natAbs < 2 ^ (a + 1)
  have h1 : x.natAbs < 2 ^ a := hx
  have h2 : y.natAbs < 2 ^ a := hy
  have h3 := Int.natAbs_add_le x y
  rw [Nat.pow_succ]
  omega
theorem strW_sm (g : Net rows kd) (b t : Nat) : Sm (2 * (1 + sb rows kd * t) + cb rows kd + 6) (strW rows b t) :=
  (sm_sm (a := 1 + sb rows kd * t + (1 + sb rows kd * t) + cb rows kd) (fun j hj => ((W_sm g b t _ (el_mem (by rw [W_len]; exact hj))).mul (W_sm g b t _ (el_mem (by rw [W_len]; exact hj)))).mul (prt_sm g _ (el_mem (by rw [prt_len]; exact hj)))) (by have := g.le; omega)).mono (by omega)
theorem und_sm (g : Net rows kd) (t : Nat) : Sm (1 + cb rows kd * (2 * t) + cb rows kd) (und rows t) := (gp_sm g.psm (2 * t)).mul g.psm
theorem clo_sm (g : Net rows kd) (t : Nat) : Sm (1 + sb rows kd * t + 6) (clo rows t) := sm_sm (fun i hi => W_sm g i t _ (el_mem (by rw [W_len]; exact hi))) (by have := g.le; omega)
end DL
set_option Elab.async false
set_option linter.all false
set_option maxRecDepth 100000
set_option maxHeartbeats 1000000
/-! DLP: tables as cells; nets from drawn rows; the pool. -/
namespace DL
open PySem PySem.Spec PyProof.Rows L2 MP
variable {n : Nat} {S : Store} {rows M : List (List Int)} {m : Nat} {B : Int}
/-! ### tables as cells -/
theorem rep_stM : Rep (stM S M) (.own (S.length + M.length)) M (ownsR S.length M.length) := by
  refine ⟨Lst.own stM_outer, by unfold ownsR; rw [List.length_map, List.length_range], fun k x hx => ?_⟩
  unfold ownsR at hx
  rw [List.getElem?_map] at hx
  cases e : (List.range M.length)[k]? with
  | none => rw [e] at hx; cases hx
  | some i =>
    rw [e] at hx
    cases hx
    have hk := (List.getElem?_eq_some_iff.mp e).1
    rw [List.length_range] at hk
    rw [List.getElem?_range hk] at e
    cases e
    exact RowR.own (stM_row hk)
theorem loop_rows {t : IT} {c : MP.Env → MP.M Bool} {e : MP.Env → MP.M (List R)} {ρ0 : MP.Env} : ∀ {xs : List Itm} {S : Store} {M : List (List Int)}, xs.length = M.length → (∀ (k : Nat) x, xs[k]? = some x → ∀ S', ∃ ρ', bindT t x ρ0 S' = some ρ' ∧ c ρ' S' = .ok true S' ∧ e ρ' S' = .ok [.own S'.length] (S' ++ [pool (row M k)])) →
    lcLoop [] (lcTurn t [] c e ρ0) xs S = .ok (ownsR S.length M.length) (S ++ M.map pool)
  | [], S, [], _, _ => by
    show (if gdOk S [] = true then Res.ok [] S else .stuck) = _
    rw [if_pos gd_nil]
    simp [ownsR]
  | [], S, _ :: _, h, _ => by cases h
  | _ :: _, S, [], h, _ => by cases h
  | x :: xs, S, a :: M, hl, h => by
    obtain ⟨ρ', h1, h2, h3⟩ := h 0 x rfl S
    have h3' : e ρ' S = .ok [.own S.length] (S ++ [pool a]) := h3
    have e1 : lcTurn t [] c e ρ0 x S = .ok [.own S.length] (S ++ [pool a]) := by
      unfold lcTurn
      rw [if_pos gd_nil]
      simp only [h1]
      unfold MP.M.noX
      rw [bind_at h2]
      simp only [if_pos, h3']
    have ih := loop_rows (t := t) (c := c) (e := e) (ρ0 := ρ0) (xs := xs) (S := S ++ [pool a]) (M := M) (Nat.succ.inj hl) fun k y hy => h (k + 1) y hy
    show MP.M.bind (lcTurn t [] c e ρ0 x) (fun a => MP.M.bind (lcLoop [] (lcTurn t [] c e ρ0) xs) fun b => MP.M.pure (a ++ b)) S = _
    rw [bind_at e1, bind_at ih]
    have e2 : [R.own S.length] ++ ownsR (S ++ [pool a]).length M.length = ownsR S.length (M.length + 1) := by
      unfold ownsR
      rw [List.range_succ_eq_map, List.map_cons, List.map_map]
      simp [Function.comp_def, Nat.add_assoc, Nat.add_comm 1]
    show Res.ok ([R.own S.length] ++ ownsR (S ++ [pool a]).length M.length) _ = _
    rw [e2]
    simp
/-- [list(row) for row in rows], to be changed -/
theorem lc_own {C : Calls} {e a : IE} {i : Nat} {x : Str} {px : Pos} {own : List (Str × Nat)} {sc : Scope} {p : Pos} {ρ : MP.Env} (ha : evE C a ρ S = .ok (RM M) S) (hl : M.length ≤ 1000000)
    (hx : ∀ k, k < M.length → ∀ S', evE C e ((wipeE ρ (own.map (·.2))).set i (some (RL (row M k)))) S' = .ok (.own S'.length) (S' ++ [pool (row M k)])) : evE C (.lc true e (.one i x px) (.of a) .nil own sc p) ρ S = .ok (.own (S.length + M.length)) (stM S M) := by
  have hi := ii_wk ha (Lst.dat (S := S) (l := M.map IL)).toWk
  show MP.M.bind (evII C (.of a) ρ) (fun q => MP.M.bind (lcLoop q.2 (lcTurn (.one i x px) q.2 (fun ρ' => evTs C .nil ρ') (fun ρ' => MP.M.bind (evE C e ρ') fun r => MP.M.pure [r]) (wipeE ρ (own.map (·.2)))) q.1) (lcOut true)) S = _
  rw [bind_at hi]
  have q := loop_rows (t := .one i x px) (c := fun ρ' => evTs C .nil ρ') (e := fun ρ' => MP.M.bind (evE C e ρ') fun r => MP.M.pure [r]) (ρ0 := wipeE ρ (own.map (·.2))) (xs := ((M.map IL).map R.dat).map Itm.one) (S := S) (M := M) (by rw [List.length_map, List.length_map, List.length_map]) (fun k y hy S' => by
    obtain ⟨z, h1, rfl⟩ := one_at hy
    obtain ⟨hk, rfl⟩ := il_at h1
    exact ⟨_, rfl, rfl, by rw [bind_at (hx k hk S')]; rfl⟩)
  have q' : lcLoop (guardR S (RM M)) (lcTurn (.one i x px) (guardR S (RM M)) (fun ρ' => evTs C .nil ρ') (fun ρ' => MP.M.bind (evE C e ρ') fun r => MP.M.pure [r]) (wipeE ρ (own.map (·.2)))) (((M.map IL).map R.dat).map Itm.one) S = .ok (ownsR S.length M.length) (S ++ M.map pool) := q
  rw [bind_at q']
  unfold lcOut
  have h2 : small (ownsR S.length M.length).length = true := by
    unfold ownsR
    rw [List.length_map, List.length_range]
    exact decide_eq_true hl
  rw [if_pos h2]
  unfold mkL DL.stM
  simp
theorem r_put1 {C : CallsX} {ρ : MP.Env} {ns : List Int} {a b : IE} {e : IE} {p1 p2 : Pos} {i j : Nat} {w : Int} (hn : M.length = m) (hr : evE C.toCalls a ρ (stM [pool ns] M) = .ok (.own (1 + i)) (stM [pool ns] M)) (hb : evE C.toCalls b ρ (stM [pool ns] M) = .ok (RI (j : Int)) (stM [pool ns] M)) (he : evE C.toCalls e ρ (stM [pool ns] M) = .ok (RI w) (stM [pool ns] M))
    (hi : i < M.length) (hj : j < (row M i).length) : evS C (.setIx a b e p1 p2) ρ (stM [pool ns] M) = .go .next ρ (stM [pool ns] (put M i j w)) := by
  have h2 := set_cell (S := [pool ns]) (w := w) hi hj
  have h3 : [pool ns].length = 1 := rfl
  rw [h3] at h2
  show SRes.of ρ (MP.M.bind (evE C.toCalls e ρ) (fun v => MP.M.bind (evE C.toCalls a ρ) fun x => MP.M.bind (evE C.toCalls b ρ) fun y => setIxR x y v) (stM [pool ns] M)) _ = _
  rw [bind_at he, bind_at hr, bind_at hb, h2]
  rfl
/-! ### nets -/
theorem Sq.mem (g : Sq m B M) {r : List Int} (h : r ∈ M) : r.length = m ∧ ∀ x ∈ r, 0 ≤ x ∧ x ≤ B := by
  obtain ⟨i, hi, rfl⟩ := mem_row h
  rw [g.len] at hi
  refine ⟨g.row i hi, fun x hx => ?_⟩
  obtain ⟨k, hk, rfl⟩ := mem_el hx
  rw [g.row i hi] at hk
  exact g.pos i k hi hk
theorem Sq.net (g : Sq m B M) {kd : Nat} (h1 : 1 ≤ m) (h2 : m ≤ 40) (hB : B ≤ 1000000000000000000000000000000) (hp : ∀ a, a < m → 0 < (DL.row M a).sum) (hk : (m : Int) * B < ((2 ^ kd : Nat) : Int)) (hb : 1 + kd * m ≤ 8900) : Net M kd := by
  have hl := g.len
  refine ⟨⟨by omega, by omega, fun r hr => by rw [hl]; exact (g.mem hr).1, fun r hr x hx => ?_, fun i j hi hj => ?_, fun r hr => ?_⟩, fun r hr => ?_, by rw [hl]; exact hb⟩
  · have := (g.mem hr).2 x hx
    omega
  · rw [hl] at hi hj
    exact g.sym i j hi hj
  · obtain ⟨i, hi, rfl⟩ := mem_row hr
    rw [hl] at hi
    exact hp i hi
  · have a := sum_nn r fun x hx => ((g.mem hr).2 x hx).1
    have b := sum_le (l := r) (b := B) fun x hx => ((g.mem hr).2 x hx).2
    rw [(g.mem hr).1] at b
    show r.sum.natAbs < 2 ^ kd
    omega
/-- a tie set -/
theorem Sq.put2_pos (g : Sq m B M) {i j : Nat} {w : Int} (hi : i < m) (hj : j < m) (h0 : 0 < w) (h1 : w ≤ B) (hp : ∀ a, a < m → 0 < (DL.row M a).sum) : ∀ a, a < m → 0 < (DL.row (DL.put2 M i j w) a).sum := fun a ha => by
  have g' := g.put2 (w := w) hi hj (by omega) h1
  by_cases e1 : a = i
  · exact g'.pos_of (b := j) ha hj (by rw [g.ent2 hi hj, if_pos (Or.inl ⟨e1, rfl⟩)]; exact h0)
  · by_cases e2 : a = j
    · exact g'.pos_of (b := i) ha hi (by rw [g.ent2 hi hj, if_pos (Or.inr ⟨e2, rfl⟩)]; exact h0)
    · rw [g.put2_row hi hj e1 e2]
      exact hp a ha
/-! ### equal tables -/
theorem pys_tl : ∀ rows : List (List Int), pys (rows.map TL) = some (rows.map fun r => PyData.tuple (r.map PyData.int))
  | [] => rfl
  | r :: rows => by
    show (match (pys (r.map D.int)).map PyData.tuple, pys (rows.map TL) with
    | some x, some xs => some (x :: xs)
    | _, _ => none) = _
    rw [pys_tl rows, pys_map]
    rfl
theorem lay_tl : ∀ rows : List (List Int), PyData.canLayAll0 (rows.map fun r => PyData.tuple (r.map PyData.int)) = true
  | [] => by simp [PyData.canLayAll0]
  | r :: rows => by simp [PyData.canLayAll0, PyData.canLay0, lay_ints r, lay_tl rows]
theorem dep_tl : ∀ rows : List (List Int), PyData.depthAll (rows.map fun r => PyData.tuple (r.map PyData.int)) ≤ 4
  | [] => by simp [PyData.depthAll]
  | r :: rows => by
    have h1 := dep_tl rows
    have h2 := dep_ints r
    simp [PyData.depthAll, PyData.depth] <;> omega
theorem eq_tl {rows : List (List Int)} : cmpR .eq (.dat (.tup (rows.map TL))) (.dat (.tup (rows.map TL))) S = .ok (.dat (.bl true)) S := by
  have e3 : py (.tup (rows.map TL)) = some (.tuple (rows.map fun r => PyData.tuple (r.map PyData.int))) := by
    show (pys (rows.map TL)).map PyData.tuple = _
    rw [pys_tl]
    rfl
  have l0 : PyData.canLay0 (.tuple (rows.map fun r => PyData.tuple (r.map PyData.int))) = true := by simp [PyData.canLay0, lay_tl rows]
  have sh : SeqAt.shaped (.tuple (rows.map fun r => PyData.tuple (r.map PyData.int))) = true := by
    unfold SeqAt.shaped
    rw [Bool.and_eq_true, decide_eq_true_iff]
    refine ⟨l0, ?_⟩
    have := dep_tl rows
    simp only [PyData.depth]
    omega
  show (match (match toD 0 S 8 (.dat (.tup (rows.map TL))), toD 0 S 8 (.dat (.tup (rows.map TL))) with
    | some d, some e => (match py d, py e with
      | some x, some y => if SeqAt.shaped x = true ∧ SeqAt.shaped y = true then some (PyData.eqv x y) else none
      | _, _ => none)
    | _, _ => none) with
    | some c => Res.ok (R.dat (.bl c)) S
    | none => .stuck) = _
  have e2 : toD 0 S 8 (.dat (.tup (rows.map TL))) = some (.tup (rows.map TL)) := rfl
  rw [e2]
  simp only [e3]
  rw [if_pos ⟨sh, sh⟩, SeqAt.eqv_refl _ l0]
/-! ### the pool -/
theorem cutM {α β : Type} (f : α → β) (xs : List α) (lo hi : Option Int) : cutR (xs.map f) lo hi = (cutR xs lo hi).map f := by
  unfold cutR
  rw [List.length_map, List.map_take, List.map_drop]
def cells (ns : List Int) : List Int := (cutR ns none (some 63)).map fun x => if x < 0 then -x else x
theorem cells_nn (ns : List Int) : ∀ x ∈ cells ns, 0 ≤ x := fun y hy => by
  obtain ⟨x, _, rfl⟩ := List.mem_map.mp hy
  split <;> omega
/-- [abs(int(cell)) for cell in script[:63]] -/
theorem e_cells {C : Calls} {e : IE} {i : Nat} {x : Str} {px p1 p2 p3 p4 : Pos} {k : Nat} {own : List (Str × Nat)} {sc : Scope} {p : Pos} {ρ : MP.Env} {ns : List Int} (h0 : ρ[0]? = some (some (.dat (.slst (ns.map D.int))))) (h : ns.length ≤ 63)
    (he : ∀ v, evE C e ((wipeE ρ (own.map (·.2))).set i (some (RI v))) [] = .ok (RI (if v < 0 then -v else v)) []) : evE C (.lc true e (.one i x px) (.of (.sl false (.var 0 "script" p1) .nil (.cons (.int 63 k p2) .nil) p3 p4)) .nil own sc p) ρ [] = .ok (.own 0) [pool (cells ns)] := by
  have hc : (cutR ns none (some 63)).length ≤ 1000000 := by
    have : (cutR ns none (some 63)).length ≤ ns.length := by
      show ((ns.drop _).take _).length ≤ _
      rw [List.length_take, List.length_drop]
      omega
    omega
  have hs : evE C (.sl false (.var 0 "script" p1) .nil (.cons (.int 63 k p2) .nil) p3 p4) ρ [] = .ok (RL (cutR ns none (some 63))) [] := by
    show MP.M.bind (getV ρ 0) _ [] = _
    have : getV ρ 0 [] = .ok (.dat (.slst (ns.map D.int))) [] := by
      unfold getV
      rw [h0]
      rfl
    rw [bind_at this]
    show Res.ok (R.dat (.lst (cutR (ns.map D.int) none (some 63)))) [] = _
    rw [cutM]
  refine (lcT_at (S := []) (l := (cutR ns none (some 63)).map D.int) (n := (cutR ns none (some 63)).length) (G := fun k => .int (if el (cutR ns none (some 63)) k < 0 then -el (cutR ns none (some 63)) k else el (cutR ns none (some 63)) k)) (ii_of hs) (by rw [List.length_map]) (fun k d hd => ?_) hc).trans ?_
  · have h6 : (((cutR ns none (some 63)).map D.int).map R.dat)[k]? = some (.dat d) := by rw [List.getElem?_map, hd]; rfl
    obtain ⟨h7, h8⟩ := rin_at h6
    cases h8
    exact he _
  · have e : (cells ns).map D.int = (List.range (cutR ns none (some 63)).length).map fun k => D.int (if el (cutR ns none (some 63)) k < 0 then -el (cutR ns none (some 63)) k else el (cutR ns none (some 63)) k) := by
      unfold cells
      rw [List.map_map]
      exact map_el (fun x => D.int (if x < 0 then -x else x))
    show Res.ok (R.own 0) ([] ++ [Cell.lst (((List.range (cutR ns none (some 63)).length).map fun k => D.int (if el (cutR ns none (some 63)) k < 0 then -el (cutR ns none (some 63)) k else el (cutR ns none (some 63)) k)).map R.dat)]) = _
    unfold pool
    rw [e]
    rfl
end DL
namespace MP
def ISs.drop : Nat → ISs → ISs
  | 0, r => r
  | n + 1, .cons _ r => ISs.drop n r
  | _ + 1, .nil => .nil
end MP
set_option Elab.async false
set_option linter.all false
set_option maxRecDepth 1000000
set_option maxHeartbeats 0
/-! K25IR: the code of the law as data. -/
namespace K25
open PySem PySem.Spec PyProof.Rows L2 MP
def topS (i : Nat) : Stmt := PySem.Challenge.pw_spreadgap_k25_strays_and_trace.main.body.getD i (.Pass ⟨0, 0, 0, 0⟩)
def methS (s : Stmt) (k : Nat) : Stmt := match s with
  | .ClassDef _ _ _ body _ _ _ _ _ _ _ => body.getD k (.Pass ⟨0, 0, 0, 0⟩)
  | _ => .Pass ⟨0, 0, 0, 0⟩
def e0_0 : IE :=
    .lc false (.bi false .tuple (.var 18 "row" ⟨575, 36, 575, 39⟩) .nil ⟨575, 30, 575, 35⟩ ⟨575, 30, 575, 40⟩) (.one 18 "row" ⟨575, 45, 575, 48⟩) (.of (.var 6 "rows" ⟨575, 52, 575, 56⟩)) .nil [("row", 18)] { kind := .function, names := [(".0", .«local»), ("row", .«local»), ("tuple", .globalImplicit)], isGenerator := false, isCoroutine := false, more := [] } ⟨575, 29, 575, 57⟩
def b0_1 : ISs :=
    (.cons (.ite (.not (.call 1 "_law_range" (.var 11 "net" ⟨573, 26, 573, 29⟩) (.cons (.var 7 "begin" ⟨573, 31, 573, 36⟩) (.cons (.var 15 "odd" ⟨573, 38, 573, 41⟩) (.cons (.var 17 "lone" ⟨573, 43, 573, 47⟩) .nil))) ⟨573, 15, 573, 25⟩ ⟨573, 15, 573, 48⟩) ⟨573, 11, 573, 48⟩) (.cons (.ret (.bl false 0 ⟨574, 19, 574, 24⟩) ⟨574, 12, 574, 24⟩)
    .nil) .nil ⟨573, 8, 574, 24⟩)
    .nil)
def b0_2 : ISs :=
    (.cons (.ite (.not (.call 2 "_law_place" (.var 11 "net" ⟨570, 26, 570, 29⟩) (.cons (.var 14 "bad" ⟨570, 31, 570, 34⟩) (.cons (.var 16 "steps" ⟨570, 36, 570, 41⟩) .nil)) ⟨570, 15, 570, 25⟩ ⟨570, 15, 570, 42⟩) ⟨570, 11, 570, 42⟩) (.cons (.ret (.bl false 0 ⟨571, 19, 571, 24⟩) ⟨571, 12, 571, 24⟩)
    .nil) .nil ⟨570, 8, 571, 24⟩)
    .nil)
def e0_3 : IE :=
    .lc false (.bi false .list (.var 18 "row" ⟨556, 20, 556, 23⟩) .nil ⟨556, 15, 556, 19⟩ ⟨556, 15, 556, 24⟩) (.one 18 "row" ⟨556, 29, 556, 32⟩) (.of (.var 6 "rows" ⟨556, 36, 556, 40⟩)) .nil [("row", 18)] { kind := .function, names := [(".0", .«local»), ("row", .«local»), ("list", .globalImplicit)], isGenerator := false, isCoroutine := false, more := [] } ⟨556, 14, 556, 41⟩
def e0_4 : IE :=
    .lc true (.bi true .list (.var 18 "row" ⟨553, 17, 553, 20⟩) .nil ⟨553, 12, 553, 16⟩ ⟨553, 12, 553, 21⟩) (.one 18 "row" ⟨553, 26, 553, 29⟩) (.of (.var 6 "rows" ⟨553, 33, 553, 37⟩)) .nil [("row", 18)] { kind := .function, names := [(".0", .«local»), ("row", .«local»), ("list", .globalImplicit)], isGenerator := false, isCoroutine := false, more := [] } ⟨553, 11, 553, 38⟩
def e0_5 : IE :=
    .lc true (.bi false .abs (.bi false .int (.var 19 "cell" ⟨532, 20, 532, 24⟩) .nil ⟨532, 16, 532, 19⟩ ⟨532, 16, 532, 25⟩) .nil ⟨532, 12, 532, 15⟩ ⟨532, 12, 532, 26⟩) (.one 19 "cell" ⟨532, 31, 532, 35⟩) (.of (.sl false (.var 0 "script" ⟨532, 39, 532, 45⟩) .nil (.cons (.int (63) 0 ⟨532, 47, 532, 49⟩) .nil) ⟨532, 46, 532, 49⟩ ⟨532, 39, 532, 50⟩)) .nil [("cell", 19)] { kind := .function, names := [(".0", .«local»), ("cell", .«local»), ("abs", .globalImplicit), ("int", .globalImplicit)], isGenerator := false, isCoroutine := false, more := [] } ⟨532, 11, 532, 51⟩
/-- law -/
def ir0 : ISs :=
    (.cons (.asg (.one 1 "pool" ⟨532, 4, 532, 8⟩) e0_5 ⟨532, 4, 532, 51⟩)
    (.cons (.asg (.one 2 "mode" ⟨533, 4, 533, 8⟩) (.call 3 "_law_draw" (.var 1 "pool" ⟨533, 21, 533, 25⟩) (.cons (.int (16) 0 ⟨533, 27, 533, 29⟩) .nil) ⟨533, 11, 533, 20⟩ ⟨533, 11, 533, 30⟩) ⟨533, 4, 533, 30⟩)
    (.cons (.asg (.one 3 "size" ⟨534, 4, 534, 8⟩) (.bin false .add (.int (1) 0 ⟨534, 11, 534, 12⟩) (.bin false .mod (.bi false .int (.bin false .add (.call 3 "_law_draw" (.var 1 "pool" ⟨534, 29, 534, 33⟩) (.cons (.int (6) 0 ⟨534, 35, 534, 36⟩) .nil) ⟨534, 19, 534, 28⟩ ⟨534, 19, 534, 37⟩) (.int (2) 0 ⟨534, 40, 534, 41⟩) ⟨534, 19, 534, 41⟩) .nil ⟨534, 15, 534, 18⟩ ⟨534, 15, 534, 42⟩) (.int (6) 0 ⟨534, 45, 534, 46⟩) ⟨534, 15, 534, 46⟩) ⟨534, 11, 534, 46⟩) ⟨534, 4, 534, 46⟩)
    (.cons (.asg (.one 4 "many" ⟨535, 4, 535, 8⟩) (.bin false .mod (.bi false .int (.bin false .add (.call 3 "_law_draw" (.var 1 "pool" ⟨535, 25, 535, 29⟩) (.cons (.int (7) 0 ⟨535, 31, 535, 32⟩) .nil) ⟨535, 15, 535, 24⟩ ⟨535, 15, 535, 33⟩) (.int (2) 0 ⟨535, 36, 535, 37⟩) ⟨535, 15, 535, 37⟩) .nil ⟨535, 11, 535, 14⟩ ⟨535, 11, 535, 38⟩) (.int (7) 0 ⟨535, 41, 535, 42⟩) ⟨535, 11, 535, 42⟩) ⟨535, 4, 535, 42⟩)
    (.cons (.asg (.one 5 "top" ⟨536, 4, 536, 7⟩) (.ix (.lst false (.cons (.int (4) 0 ⟨536, 11, 536, 12⟩) (.cons (.int (10) 0 ⟨536, 14, 536, 16⟩) (.cons (.int (2) 0 ⟨536, 18, 536, 19⟩) (.cons (.int (6) 0 ⟨536, 21, 536, 22⟩) .nil)))) ⟨536, 10, 536, 23⟩) (.call 3 "_law_draw" (.var 1 "pool" ⟨536, 34, 536, 38⟩) (.cons (.int (4) 0 ⟨536, 40, 536, 41⟩) .nil) ⟨536, 24, 536, 33⟩ ⟨536, 24, 536, 42⟩) ⟨536, 10, 536, 43⟩) ⟨536, 4, 536, 43⟩)
    (.cons (.ite (.cmp .gt (.var 3 "size" ⟨537, 7, 537, 11⟩) (.int (3) 0 ⟨537, 14, 537, 15⟩) ⟨537, 7, 537, 15⟩) (.cons (.asg (.one 4 "many" ⟨538, 8, 538, 12⟩) (.bin false .mod (.bi false .int (.var 4 "many" ⟨538, 19, 538, 23⟩) .nil ⟨538, 15, 538, 18⟩ ⟨538, 15, 538, 24⟩) (.int (4) 0 ⟨538, 27, 538, 28⟩) ⟨538, 15, 538, 28⟩) ⟨538, 8, 538, 28⟩)
    .nil) .nil ⟨537, 4, 538, 28⟩)
    (.cons (.ite (.cmp .eq (.var 2 "mode" ⟨539, 7, 539, 11⟩) (.int (1) 0 ⟨539, 15, 539, 16⟩) ⟨539, 7, 539, 16⟩) (.cons (.asg (.one 3 "size" ⟨540, 8, 540, 12⟩) (.bin false .add (.int (1) 0 ⟨540, 15, 540, 16⟩) (.bin false .mod (.bi false .int (.var 3 "size" ⟨540, 23, 540, 27⟩) .nil ⟨540, 19, 540, 22⟩ ⟨540, 19, 540, 28⟩) (.int (2) 0 ⟨540, 31, 540, 32⟩) ⟨540, 19, 540, 32⟩) ⟨540, 15, 540, 32⟩) ⟨540, 8, 540, 32⟩)
    (.cons (.asg (.one 4 "many" ⟨541, 8, 541, 12⟩) (.int (30) 0 ⟨541, 15, 541, 17⟩) ⟨541, 8, 541, 17⟩)
    .nil)) .nil ⟨539, 4, 541, 17⟩)
    (.cons (.ite (.cmp .eq (.var 2 "mode" ⟨542, 7, 542, 11⟩) (.int (2) 0 ⟨542, 15, 542, 16⟩) ⟨542, 7, 542, 16⟩) (.cons (.asg (.one 3 "size" ⟨543, 8, 543, 12⟩) (.bin false .add (.int (1) 0 ⟨543, 15, 543, 16⟩) (.bin false .mod (.bi false .int (.bin false .add (.var 3 "size" ⟨543, 23, 543, 27⟩) (.int (2) 0 ⟨543, 30, 543, 31⟩) ⟨543, 23, 543, 31⟩) .nil ⟨543, 19, 543, 22⟩ ⟨543, 19, 543, 32⟩) (.int (3) 0 ⟨543, 35, 543, 36⟩) ⟨543, 19, 543, 36⟩) ⟨543, 15, 543, 36⟩) ⟨543, 8, 543, 36⟩)
    (.cons (.asg (.one 4 "many" ⟨544, 8, 544, 12⟩) (.bin false .add (.int (1) 0 ⟨544, 15, 544, 16⟩) (.bin false .mod (.bi false .int (.var 4 "many" ⟨544, 23, 544, 27⟩) .nil ⟨544, 19, 544, 22⟩ ⟨544, 19, 544, 28⟩) (.int (2) 0 ⟨544, 31, 544, 32⟩) ⟨544, 19, 544, 32⟩) ⟨544, 15, 544, 32⟩) ⟨544, 8, 544, 32⟩)
    (.cons (.asg (.one 5 "top" ⟨545, 8, 545, 11⟩) (.bin false .add (.bin false .pow (.int (10) 0 ⟨545, 14, 545, 16⟩) (.int (30) 0 ⟨545, 20, 545, 22⟩) ⟨545, 14, 545, 22⟩) (.int (1) 0 ⟨545, 25, 545, 26⟩) ⟨545, 14, 545, 26⟩) ⟨545, 8, 545, 26⟩)
    .nil))) .nil ⟨542, 4, 545, 26⟩)
    (.cons (.ite (.cmp .eq (.var 2 "mode" ⟨546, 7, 546, 11⟩) (.int (3) 0 ⟨546, 15, 546, 16⟩) ⟨546, 7, 546, 16⟩) (.cons (.asg (.one 3 "size" ⟨547, 8, 547, 12⟩) (.int (9) 0 ⟨547, 15, 547, 16⟩) ⟨547, 8, 547, 16⟩)
    (.cons (.asg (.one 4 "many" ⟨548, 8, 548, 12⟩) (.int (1) 0 ⟨548, 15, 548, 16⟩) ⟨548, 8, 548, 16⟩)
    .nil)) .nil ⟨546, 4, 548, 16⟩)
    (.cons (.asg (.one 6 "rows" ⟨549, 4, 549, 8⟩) (.call 6 "_law_drawn" (.var 1 "pool" ⟨549, 22, 549, 26⟩) (.cons (.var 3 "size" ⟨549, 28, 549, 32⟩) (.cons (.var 5 "top" ⟨549, 34, 549, 37⟩) .nil)) ⟨549, 11, 549, 21⟩ ⟨549, 11, 549, 38⟩) ⟨549, 4, 549, 38⟩)
    (.cons (.asg (.one 7 "begin" ⟨550, 4, 550, 9⟩) (.call 3 "_law_draw" (.var 1 "pool" ⟨550, 22, 550, 26⟩) (.cons (.var 3 "size" ⟨550, 28, 550, 32⟩) .nil) ⟨550, 12, 550, 21⟩ ⟨550, 12, 550, 33⟩) ⟨550, 4, 550, 33⟩)
    (.cons (.asg (.one 8 "i" ⟨551, 4, 551, 5⟩) (.call 3 "_law_draw" (.var 1 "pool" ⟨551, 18, 551, 22⟩) (.cons (.var 3 "size" ⟨551, 24, 551, 28⟩) .nil) ⟨551, 8, 551, 17⟩ ⟨551, 8, 551, 29⟩) ⟨551, 4, 551, 29⟩)
    (.cons (.asg (.one 9 "j" ⟨552, 4, 552, 5⟩) (.call 3 "_law_draw" (.var 1 "pool" ⟨552, 18, 552, 22⟩) (.cons (.var 3 "size" ⟨552, 24, 552, 28⟩) .nil) ⟨552, 8, 552, 17⟩ ⟨552, 8, 552, 29⟩) ⟨552, 4, 552, 29⟩)
    (.cons (.asg (.one 10 "bent" ⟨553, 4, 553, 8⟩) e0_4 ⟨553, 4, 553, 38⟩)
    (.cons (.setIx (.ix (.var 10 "bent" ⟨554, 4, 554, 8⟩) (.var 8 "i" ⟨554, 9, 554, 10⟩) ⟨554, 4, 554, 11⟩) (.var 9 "j" ⟨554, 12, 554, 13⟩) (.bin false .add (.int (1) 0 ⟨554, 17, 554, 18⟩) (.bi false .int (.cmp .eq (.ix (.ix (.var 6 "rows" ⟨554, 25, 554, 29⟩) (.var 8 "i" ⟨554, 30, 554, 31⟩) ⟨554, 25, 554, 32⟩) (.var 9 "j" ⟨554, 33, 554, 34⟩) ⟨554, 25, 554, 35⟩) (.int (1) 0 ⟨554, 39, 554, 40⟩) ⟨554, 25, 554, 40⟩) .nil ⟨554, 21, 554, 24⟩ ⟨554, 21, 554, 41⟩) ⟨554, 17, 554, 41⟩) ⟨554, 4, 554, 14⟩ ⟨554, 4, 554, 41⟩)
    (.cons (.setIx (.ix (.var 10 "bent" ⟨555, 4, 555, 8⟩) (.var 9 "j" ⟨555, 9, 555, 10⟩) ⟨555, 4, 555, 11⟩) (.var 8 "i" ⟨555, 12, 555, 13⟩) (.ix (.ix (.var 10 "bent" ⟨555, 17, 555, 21⟩) (.var 8 "i" ⟨555, 22, 555, 23⟩) ⟨555, 17, 555, 24⟩) (.var 9 "j" ⟨555, 25, 555, 26⟩) ⟨555, 17, 555, 27⟩) ⟨555, 4, 555, 14⟩ ⟨555, 4, 555, 27⟩)
    (.cons (.asg (.one 11 "net" ⟨556, 4, 556, 7⟩) (.make false 5 "Web" e0_3 .nil ⟨556, 10, 556, 13⟩ ⟨556, 10, 556, 42⟩) ⟨556, 4, 556, 42⟩)
    (.cons (.asg (.one 12 "near" ⟨557, 4, 557, 8⟩) (.make false 5 "Web" (.var 10 "bent" ⟨557, 15, 557, 19⟩) .nil ⟨557, 11, 557, 14⟩ ⟨557, 11, 557, 20⟩) ⟨557, 4, 557, 20⟩)
    (.cons (.ite (.not (.call 4 "_law_sums" (.var 6 "rows" ⟨558, 21, 558, 25⟩) (.cons (.var 11 "net" ⟨558, 27, 558, 30⟩) (.cons (.var 7 "begin" ⟨558, 32, 558, 37⟩) (.cons (.var 4 "many" ⟨558, 39, 558, 43⟩) .nil))) ⟨558, 11, 558, 20⟩ ⟨558, 11, 558, 44⟩) ⟨558, 7, 558, 44⟩) (.cons (.ret (.bl false 0 ⟨559, 15, 559, 20⟩) ⟨559, 8, 559, 20⟩)
    .nil) .nil ⟨558, 4, 559, 20⟩)
    (.cons (.asg (.one 13 "few" ⟨560, 4, 560, 7⟩) (.bin false .add (.int (1) 0 ⟨560, 10, 560, 11⟩) (.bin false .mod (.bi false .int (.var 4 "many" ⟨560, 18, 560, 22⟩) .nil ⟨560, 14, 560, 17⟩ ⟨560, 14, 560, 23⟩) (.int (2) 0 ⟨560, 26, 560, 27⟩) ⟨560, 14, 560, 27⟩) ⟨560, 10, 560, 27⟩) ⟨560, 4, 560, 27⟩)
    (.cons (.ite (.cmp .gt (.var 3 "size" ⟨561, 7, 561, 11⟩) (.int (6) 0 ⟨561, 14, 561, 15⟩) ⟨561, 7, 561, 15⟩) (.cons (.asg (.one 13 "few" ⟨562, 8, 562, 11⟩) (.int (1) 0 ⟨562, 14, 562, 15⟩) ⟨562, 8, 562, 15⟩)
    .nil) .nil ⟨561, 4, 562, 15⟩)
    (.cons (.ite (.not (.call 4 "_law_sums" (.var 10 "bent" ⟨563, 21, 563, 25⟩) (.cons (.var 12 "near" ⟨563, 27, 563, 31⟩) (.cons (.var 8 "i" ⟨563, 33, 563, 34⟩) (.cons (.var 13 "few" ⟨563, 36, 563, 39⟩) .nil))) ⟨563, 11, 563, 20⟩ ⟨563, 11, 563, 40⟩) ⟨563, 7, 563, 40⟩) (.cons (.ret (.bl false 0 ⟨564, 15, 564, 20⟩) ⟨564, 8, 564, 20⟩)
    .nil) .nil ⟨563, 4, 564, 20⟩)
    (.cons (.ite (.not (.call 4 "_law_sums" (.var 6 "rows" ⟨565, 21, 565, 25⟩) (.cons (.var 11 "net" ⟨565, 27, 565, 30⟩) (.cons (.var 9 "j" ⟨565, 32, 565, 33⟩) (.cons (.var 13 "few" ⟨565, 35, 565, 38⟩) .nil))) ⟨565, 11, 565, 20⟩ ⟨565, 11, 565, 39⟩) ⟨565, 7, 565, 39⟩) (.cons (.ret (.bl false 0 ⟨566, 15, 566, 20⟩) ⟨566, 8, 566, 20⟩)
    .nil) .nil ⟨565, 4, 566, 20⟩)
    (.cons (.asg (.one 14 "bad" ⟨567, 4, 567, 7⟩) (.ix (.lst false (.cons (.neg (.int (1) 0 ⟨567, 12, 567, 13⟩) ⟨567, 11, 567, 13⟩) (.cons (.var 3 "size" ⟨567, 15, 567, 19⟩) (.cons (.bin false .add (.var 3 "size" ⟨567, 21, 567, 25⟩) (.int (7) 0 ⟨567, 28, 567, 29⟩) ⟨567, 21, 567, 29⟩) (.cons (.bin false .sub (.bin false .pow (.bin false .pow (.int (10) 0 ⟨567, 32, 567, 34⟩) (.int (50) 0 ⟨567, 38, 567, 40⟩) ⟨567, 32, 567, 40⟩) (.int (8) 0 ⟨567, 45, 567, 46⟩) ⟨567, 31, 567, 46⟩) (.int (1) 0 ⟨567, 49, 567, 50⟩) ⟨567, 31, 567, 50⟩) .nil)))) ⟨567, 10, 567, 51⟩) (.call 3 "_law_draw" (.var 1 "pool" ⟨567, 62, 567, 66⟩) (.cons (.int (4) 0 ⟨567, 68, 567, 69⟩) .nil) ⟨567, 52, 567, 61⟩ ⟨567, 52, 567, 70⟩) ⟨567, 10, 567, 71⟩) ⟨567, 4, 567, 71⟩)
    (.cons (.asg (.one 15 "odd" ⟨568, 4, 568, 7⟩) (.ix (.lst false (.cons (.int (61) 0 ⟨568, 11, 568, 13⟩) (.cons (.neg (.int (1) 0 ⟨568, 16, 568, 17⟩) ⟨568, 15, 568, 17⟩) (.cons (.bin false .sub (.bin false .pow (.bin false .pow (.int (10) 0 ⟨568, 20, 568, 22⟩) (.int (50) 0 ⟨568, 26, 568, 28⟩) ⟨568, 20, 568, 28⟩) (.int (8) 0 ⟨568, 33, 568, 34⟩) ⟨568, 19, 568, 34⟩) (.int (1) 0 ⟨568, 37, 568, 38⟩) ⟨568, 19, 568, 38⟩) (.cons (.neg (.int (60) 0 ⟨568, 41, 568, 43⟩) ⟨568, 40, 568, 43⟩) .nil)))) ⟨568, 10, 568, 44⟩) (.call 3 "_law_draw" (.var 1 "pool" ⟨568, 55, 568, 59⟩) (.cons (.int (4) 0 ⟨568, 61, 568, 62⟩) .nil) ⟨568, 45, 568, 54⟩ ⟨568, 45, 568, 63⟩) ⟨568, 10, 568, 64⟩) ⟨568, 4, 568, 64⟩)
    (.cons (.for_ (.one 16 "steps" ⟨569, 8, 569, 13⟩) (.of (.tup (.cons (.var 4 "many" ⟨569, 18, 569, 22⟩) (.cons (.var 15 "odd" ⟨569, 24, 569, 27⟩) .nil)) 0 ⟨569, 17, 569, 28⟩)) b0_2 ⟨569, 4, 571, 24⟩)
    (.cons (.for_ (.one 17 "lone" ⟨572, 8, 572, 12⟩) (.of (.tup (.cons (.bl true 0 ⟨572, 17, 572, 21⟩) (.cons (.bl false 0 ⟨572, 23, 572, 28⟩) .nil)) 0 ⟨572, 16, 572, 29⟩)) b0_1 ⟨572, 4, 574, 24⟩)
    (.cons (.ret (.cmp .eq (.attr (.var 11 "net" ⟨575, 11, 575, 14⟩) "Web" "rows" ⟨575, 11, 575, 19⟩) (.bi false .tuple e0_0 .nil ⟨575, 23, 575, 28⟩ ⟨575, 23, 575, 58⟩) ⟨575, 11, 575, 58⟩) ⟨575, 4, 575, 58⟩)
    .nil))))))))))))))))))))))))))))
def f0 : Fn := ⟨"law", 1, ["script", "pool", "mode", "size", "many", "top", "rows", "begin", "i", "j", "bent", "net", "near", "few", "bad", "odd", "steps", "lone", "row", "cell"], defScope (topS 69), ir0⟩
theorem irOk0 : ir0.ss = defBody (topS 69) := by rfl
/-- _law_range -/
def ir1 : ISs :=
    (.cons (.try1 (.cons (.ite (.var 3 "lone" ⟨487, 11, 487, 15⟩) (.cons (.expr (.call 7 "start_stray" (.var 0 "net" ⟨488, 24, 488, 27⟩) (.cons (.var 1 "begin" ⟨488, 29, 488, 34⟩) (.cons (.var 2 "many" ⟨488, 36, 488, 40⟩) .nil)) ⟨488, 12, 488, 23⟩ ⟨488, 12, 488, 41⟩) ⟨488, 12, 488, 41⟩)
    .nil) (.cons (.expr (.call 8 "trace" (.var 0 "net" ⟨490, 18, 490, 21⟩) (.cons (.var 2 "many" ⟨490, 23, 490, 27⟩) .nil) ⟨490, 12, 490, 17⟩ ⟨490, 12, 490, 28⟩) ⟨490, 12, 490, 28⟩)
    .nil) ⟨487, 8, 490, 28⟩)
    .nil) "OutOfRange" 4 "e" (.cons (.ite (.or (.xIs 4 "e" "BadPlace" ⟨492, 22, 492, 23⟩ ⟨492, 25, 492, 33⟩ ⟨492, 11, 492, 21⟩ ⟨492, 11, 492, 34⟩) (.cons (.not (.xIs 4 "e" "GapError" ⟨492, 53, 492, 54⟩ ⟨492, 56, 492, 64⟩ ⟨492, 42, 492, 52⟩ ⟨492, 42, 492, 65⟩) ⟨492, 38, 492, 65⟩) .nil) ⟨492, 11, 492, 65⟩) (.cons (.ret (.bl false 0 ⟨493, 19, 493, 24⟩) ⟨493, 12, 493, 24⟩)
    .nil) .nil ⟨492, 8, 493, 24⟩)
    (.cons (.ret (.and (.call 9 "_law_whole" (.xAt 4 "e" "value" ⟨494, 26, 494, 27⟩ ⟨494, 26, 494, 33⟩) .nil ⟨494, 15, 494, 25⟩ ⟨494, 15, 494, 34⟩) (.cons (.cmp .eq (.xAt 4 "e" "value" ⟨494, 39, 494, 40⟩ ⟨494, 39, 494, 46⟩) (.var 2 "many" ⟨494, 50, 494, 54⟩) ⟨494, 39, 494, 54⟩) .nil) ⟨494, 15, 494, 54⟩) ⟨494, 8, 494, 54⟩)
    .nil)) ⟨491, 11, 491, 21⟩ ⟨491, 4, 494, 54⟩ (.cons "GapError" (.cons (.ret (.bl false 0 ⟨496, 15, 496, 20⟩) ⟨496, 8, 496, 20⟩)
    .nil) ⟨495, 11, 495, 19⟩ ⟨495, 4, 496, 20⟩ .nil) ⟨486, 4, 496, 20⟩)
    (.cons (.ret (.bl false 0 ⟨497, 11, 497, 16⟩) ⟨497, 4, 497, 16⟩)
    .nil))
def f1 : Fn := ⟨"_law_range", 4, ["net", "begin", "many", "lone", "e"], defScope (topS 67), ir1⟩
theorem irOk1 : ir1.ss = defBody (topS 67) := by rfl
/-- _law_place -/
def ir2 : ISs :=
    (.cons (.try1 (.cons (.expr (.call 7 "start_stray" (.var 0 "net" ⟨477, 20, 477, 23⟩) (.cons (.var 1 "begin" ⟨477, 25, 477, 30⟩) (.cons (.var 2 "many" ⟨477, 32, 477, 36⟩) .nil)) ⟨477, 8, 477, 19⟩ ⟨477, 8, 477, 37⟩) ⟨477, 8, 477, 37⟩)
    .nil) "BadPlace" 3 "e" (.cons (.ite (.or (.xIs 3 "e" "OutOfRange" ⟨479, 22, 479, 23⟩ ⟨479, 25, 479, 35⟩ ⟨479, 11, 479, 21⟩ ⟨479, 11, 479, 36⟩) (.cons (.not (.xIs 3 "e" "GapError" ⟨479, 55, 479, 56⟩ ⟨479, 58, 479, 66⟩ ⟨479, 44, 479, 54⟩ ⟨479, 44, 479, 67⟩) ⟨479, 40, 479, 67⟩) .nil) ⟨479, 11, 479, 67⟩) (.cons (.ret (.bl false 0 ⟨480, 19, 480, 24⟩) ⟨480, 12, 480, 24⟩)
    .nil) .nil ⟨479, 8, 480, 24⟩)
    (.cons (.ret (.and (.call 9 "_law_whole" (.xAt 3 "e" "place" ⟨481, 26, 481, 27⟩ ⟨481, 26, 481, 33⟩) .nil ⟨481, 15, 481, 25⟩ ⟨481, 15, 481, 34⟩) (.cons (.cmp .eq (.xAt 3 "e" "place" ⟨481, 39, 481, 40⟩ ⟨481, 39, 481, 46⟩) (.var 1 "begin" ⟨481, 50, 481, 55⟩) ⟨481, 39, 481, 55⟩) .nil) ⟨481, 15, 481, 55⟩) ⟨481, 8, 481, 55⟩)
    .nil)) ⟨478, 11, 478, 19⟩ ⟨478, 4, 481, 55⟩ (.cons "GapError" (.cons (.ret (.bl false 0 ⟨483, 15, 483, 20⟩) ⟨483, 8, 483, 20⟩)
    .nil) ⟨482, 11, 482, 19⟩ ⟨482, 4, 483, 20⟩ .nil) ⟨476, 4, 483, 20⟩)
    (.cons (.ret (.bl false 0 ⟨484, 11, 484, 16⟩) ⟨484, 4, 484, 16⟩)
    .nil))
def f2 : Fn := ⟨"_law_place", 3, ["net", "begin", "many", "e"], defScope (topS 66), ir2⟩
theorem irOk2 : ir2.ss = defBody (topS 66) := by rfl
/-- _law_draw -/
def ir3 : ISs :=
    (.cons (.ite (.cmp .eq (.var 0 "pool" ⟨381, 7, 381, 11⟩) (.lst false .nil ⟨381, 15, 381, 17⟩) ⟨381, 7, 381, 17⟩) (.cons (.ret (.int (0) 0 ⟨382, 15, 382, 16⟩) ⟨382, 8, 382, 16⟩)
    .nil) .nil ⟨381, 4, 382, 16⟩)
    (.cons (.asg (.one 2 "told" ⟨383, 4, 383, 8⟩) (.bin false .mod (.bi false .int (.ix (.var 0 "pool" ⟨383, 15, 383, 19⟩) (.int (0) 0 ⟨383, 20, 383, 21⟩) ⟨383, 15, 383, 22⟩) .nil ⟨383, 11, 383, 14⟩ ⟨383, 11, 383, 23⟩) (.var 1 "many" ⟨383, 26, 383, 30⟩) ⟨383, 11, 383, 30⟩) ⟨383, 4, 383, 30⟩)
    (.cons (.asg (.one 3 "rest" ⟨384, 4, 384, 8⟩) (.bin false .fdiv (.bi false .int (.ix (.var 0 "pool" ⟨384, 15, 384, 19⟩) (.int (0) 0 ⟨384, 20, 384, 21⟩) ⟨384, 15, 384, 22⟩) .nil ⟨384, 11, 384, 14⟩ ⟨384, 11, 384, 23⟩) (.var 1 "many" ⟨384, 27, 384, 31⟩) ⟨384, 11, 384, 31⟩) ⟨384, 4, 384, 31⟩)
    (.cons (.ite (.cmp .eq (.var 3 "rest" ⟨385, 7, 385, 11⟩) (.int (0) 0 ⟨385, 15, 385, 16⟩) ⟨385, 7, 385, 16⟩) (.cons (.expr (.lmeth (.var 0 "pool" ⟨386, 8, 386, 12⟩) .pop (.cons (.int (0) 0 ⟨386, 17, 386, 18⟩) .nil) ⟨386, 8, 386, 16⟩ ⟨386, 8, 386, 19⟩) ⟨386, 8, 386, 19⟩)
    .nil) (.cons (.setIx (.var 0 "pool" ⟨388, 8, 388, 12⟩) (.int (0) 0 ⟨388, 13, 388, 14⟩) (.var 3 "rest" ⟨388, 18, 388, 22⟩) ⟨388, 8, 388, 15⟩ ⟨388, 8, 388, 22⟩)
    .nil) ⟨385, 4, 388, 22⟩)
    (.cons (.ret (.var 2 "told" ⟨389, 11, 389, 15⟩) ⟨389, 4, 389, 15⟩)
    .nil)))))
def f3 : Fn := ⟨"_law_draw", 2, ["pool", "many", "told", "rest"], defScope (topS 54), ir3⟩
theorem irOk3 : ir3.ss = defBody (topS 54) := by rfl
def e4_0 : IE :=
    .lc false (.bi false .sum (.var 20 "row" ⟨518, 21, 518, 24⟩) .nil ⟨518, 17, 518, 20⟩ ⟨518, 17, 518, 25⟩) (.one 20 "row" ⟨518, 30, 518, 33⟩) (.of (.var 0 "rows" ⟨518, 37, 518, 41⟩)) .nil [("row", 20)] { kind := .function, names := [(".0", .«local»), ("row", .«local»), ("sum", .globalImplicit)], isGenerator := false, isCoroutine := false, more := [] } ⟨518, 16, 518, 42⟩
def b4_1 : ISs :=
    (.cons (.asg (.one 13 "told" ⟨512, 8, 512, 12⟩) (.call 7 "start_stray" (.var 1 "net" ⟨512, 27, 512, 30⟩) (.cons (.var 7 "i" ⟨512, 32, 512, 33⟩) (.cons (.var 3 "many" ⟨512, 35, 512, 39⟩) .nil)) ⟨512, 15, 512, 26⟩ ⟨512, 15, 512, 40⟩) ⟨512, 8, 512, 40⟩)
    (.cons (.asg (.one 14 "due" ⟨513, 8, 513, 11⟩) (.bin false .sub (.call 11 "_law_spread" (.var 0 "rows" ⟨513, 26, 513, 30⟩) (.cons (.ix (.ix (.var 8 "walks" ⟨513, 32, 513, 37⟩) (.var 7 "i" ⟨513, 38, 513, 39⟩) ⟨513, 32, 513, 40⟩) (.var 3 "many" ⟨513, 41, 513, 45⟩) ⟨513, 32, 513, 46⟩) (.cons (.var 5 "grow" ⟨513, 48, 513, 52⟩) .nil)) ⟨513, 14, 513, 25⟩ ⟨513, 14, 513, 53⟩) (.bin false .mul (.var 6 "under" ⟨513, 56, 513, 61⟩) (.var 5 "grow" ⟨513, 64, 513, 68⟩) ⟨513, 56, 513, 68⟩) ⟨513, 14, 513, 68⟩) ⟨513, 8, 513, 68⟩)
    (.cons (.ite (.not (.call 10 "_law_same" (.var 13 "told" ⟨514, 25, 514, 29⟩) (.cons (.var 14 "due" ⟨514, 31, 514, 34⟩) (.cons (.bin false .mul (.var 6 "under" ⟨514, 36, 514, 41⟩) (.var 5 "grow" ⟨514, 44, 514, 48⟩) ⟨514, 36, 514, 48⟩) .nil)) ⟨514, 15, 514, 24⟩ ⟨514, 15, 514, 49⟩) ⟨514, 11, 514, 49⟩) (.cons (.ret (.bl false 0 ⟨515, 19, 515, 24⟩) ⟨515, 12, 515, 24⟩)
    .nil) .nil ⟨514, 8, 515, 24⟩)
    (.cons (.asg (.one 11 "left" ⟨516, 8, 516, 12⟩) (.bin false .add (.bin false .mul (.var 11 "left" ⟨516, 15, 516, 19⟩) (.attr (.var 13 "told" ⟨516, 22, 516, 26⟩) "Frac" "bottom" ⟨516, 22, 516, 33⟩) ⟨516, 15, 516, 33⟩) (.bin false .mul (.bin false .mul (.bi false .sum (.ix (.var 0 "rows" ⟨516, 40, 516, 44⟩) (.var 7 "i" ⟨516, 45, 516, 46⟩) ⟨516, 40, 516, 47⟩) .nil ⟨516, 36, 516, 39⟩ ⟨516, 36, 516, 48⟩) (.attr (.var 13 "told" ⟨516, 51, 516, 55⟩) "Frac" "top" ⟨516, 51, 516, 59⟩) ⟨516, 36, 516, 59⟩) (.var 12 "bottom" ⟨516, 62, 516, 68⟩) ⟨516, 36, 516, 68⟩) ⟨516, 15, 516, 68⟩) ⟨516, 8, 516, 68⟩)
    (.cons (.asg (.one 12 "bottom" ⟨517, 8, 517, 14⟩) (.bin false .mul (.var 12 "bottom" ⟨517, 17, 517, 23⟩) (.attr (.var 13 "told" ⟨517, 26, 517, 30⟩) "Frac" "bottom" ⟨517, 26, 517, 37⟩) ⟨517, 17, 517, 37⟩) ⟨517, 8, 517, 37⟩)
    .nil)))))
def e4_2 : IE :=
    .lc false (.call 14 "_law_dealt" (.var 0 "rows" ⟨502, 24, 502, 28⟩) (.cons (.var 7 "i" ⟨502, 30, 502, 31⟩) (.cons (.bin false .mul (.int (2) 0 ⟨502, 33, 502, 34⟩) (.var 3 "many" ⟨502, 37, 502, 41⟩) ⟨502, 33, 502, 41⟩) .nil)) ⟨502, 13, 502, 23⟩ ⟨502, 13, 502, 42⟩) (.one 7 "i" ⟨502, 47, 502, 48⟩) (.rng1 (.var 4 "size" ⟨502, 58, 502, 62⟩) ⟨502, 52, 502, 57⟩ ⟨502, 52, 502, 63⟩) .nil [("i", 7)] { kind := .function, names := [(".0", .«local»), ("i", .«local»), ("_law_dealt", .globalImplicit), ("many", .free), ("rows", .free)], isGenerator := false, isCoroutine := false, more := [] } ⟨502, 12, 502, 64⟩
/-- _law_sums -/
def ir4 : ISs :=
    (.cons (.asg (.one 4 "size" ⟨499, 4, 499, 8⟩) (.bi false .len (.var 0 "rows" ⟨499, 15, 499, 19⟩) .nil ⟨499, 11, 499, 14⟩ ⟨499, 11, 499, 20⟩) ⟨499, 4, 499, 20⟩)
    (.cons (.asg (.one 5 "grow" ⟨500, 4, 500, 8⟩) (.call 15 "_law_base" (.var 0 "rows" ⟨500, 21, 500, 25⟩) .nil ⟨500, 11, 500, 20⟩ ⟨500, 11, 500, 26⟩) ⟨500, 4, 500, 26⟩)
    (.cons (.asg (.one 6 "under" ⟨501, 4, 501, 9⟩) (.call 12 "_law_power" (.var 5 "grow" ⟨501, 23, 501, 27⟩) (.cons (.bin false .mul (.int (2) 0 ⟨501, 29, 501, 30⟩) (.var 3 "many" ⟨501, 33, 501, 37⟩) ⟨501, 29, 501, 37⟩) .nil) ⟨501, 12, 501, 22⟩ ⟨501, 12, 501, 38⟩) ⟨501, 4, 501, 38⟩)
    (.cons (.asg (.one 8 "walks" ⟨502, 4, 502, 9⟩) e4_2 ⟨502, 4, 502, 64⟩)
    (.cons (.asg (.one 9 "home" ⟨503, 4, 503, 8⟩) (.call 8 "trace" (.var 1 "net" ⟨503, 17, 503, 20⟩) (.cons (.bin false .mul (.int (2) 0 ⟨503, 22, 503, 23⟩) (.var 3 "many" ⟨503, 26, 503, 30⟩) ⟨503, 22, 503, 30⟩) .nil) ⟨503, 11, 503, 16⟩ ⟨503, 11, 503, 31⟩) ⟨503, 4, 503, 31⟩)
    (.cons (.ite (.not (.call 10 "_law_same" (.var 9 "home" ⟨504, 21, 504, 25⟩) (.cons (.call 13 "_law_closed" (.var 8 "walks" ⟨504, 39, 504, 44⟩) (.cons (.bin false .mul (.int (2) 0 ⟨504, 46, 504, 47⟩) (.var 3 "many" ⟨504, 50, 504, 54⟩) ⟨504, 46, 504, 54⟩) .nil) ⟨504, 27, 504, 38⟩ ⟨504, 27, 504, 55⟩) (.cons (.var 6 "under" ⟨504, 57, 504, 62⟩) .nil)) ⟨504, 11, 504, 20⟩ ⟨504, 11, 504, 63⟩) ⟨504, 7, 504, 63⟩) (.cons (.ret (.bl false 0 ⟨505, 15, 505, 20⟩) ⟨505, 8, 505, 20⟩)
    .nil) .nil ⟨504, 4, 505, 20⟩)
    (.cons (.asg (.one 10 "half" ⟨506, 4, 506, 8⟩) (.callK 8 "trace" (.var 1 "net" ⟨506, 17, 506, 20⟩) .nil (.cons "steps" (.var 3 "many" ⟨506, 28, 506, 32⟩) ⟨506, 22, 506, 32⟩ .nil) [0, 1] ⟨506, 11, 506, 16⟩ ⟨506, 11, 506, 33⟩) ⟨506, 4, 506, 33⟩)
    (.cons (.ite (.not (.call 10 "_law_same" (.var 10 "half" ⟨507, 21, 507, 25⟩) (.cons (.call 13 "_law_closed" (.var 8 "walks" ⟨507, 39, 507, 44⟩) (.cons (.var 3 "many" ⟨507, 46, 507, 50⟩) .nil) ⟨507, 27, 507, 38⟩ ⟨507, 27, 507, 51⟩) (.cons (.call 12 "_law_power" (.var 5 "grow" ⟨507, 64, 507, 68⟩) (.cons (.var 3 "many" ⟨507, 70, 507, 74⟩) .nil) ⟨507, 53, 507, 63⟩ ⟨507, 53, 507, 75⟩) .nil)) ⟨507, 11, 507, 20⟩ ⟨507, 11, 507, 76⟩) ⟨507, 7, 507, 76⟩) (.cons (.ret (.bl false 0 ⟨508, 15, 508, 20⟩) ⟨508, 8, 508, 20⟩)
    .nil) .nil ⟨507, 4, 508, 20⟩)
    (.cons (.asg (.one 11 "left" ⟨509, 4, 509, 8⟩) (.int (0) 0 ⟨509, 11, 509, 12⟩) ⟨509, 4, 509, 12⟩)
    (.cons (.asg (.one 12 "bottom" ⟨510, 4, 510, 10⟩) (.int (1) 0 ⟨510, 13, 510, 14⟩) ⟨510, 4, 510, 14⟩)
    (.cons (.for_ (.one 7 "i" ⟨511, 8, 511, 9⟩) (.rng1 (.var 4 "size" ⟨511, 19, 511, 23⟩) ⟨511, 13, 511, 18⟩ ⟨511, 13, 511, 24⟩) b4_1 ⟨511, 4, 517, 37⟩)
    (.cons (.asg (.one 15 "whole" ⟨518, 4, 518, 9⟩) (.bi false .sum e4_0 .nil ⟨518, 12, 518, 15⟩ ⟨518, 12, 518, 43⟩) ⟨518, 4, 518, 43⟩)
    (.cons (.asg (.one 16 "right" ⟨519, 4, 519, 9⟩) (.bin false .mul (.bin false .mul (.bin false .sub (.attr (.var 9 "home" ⟨519, 13, 519, 17⟩) "Frac" "top" ⟨519, 13, 519, 21⟩) (.attr (.var 9 "home" ⟨519, 24, 519, 28⟩) "Frac" "bottom" ⟨519, 24, 519, 35⟩) ⟨519, 13, 519, 35⟩) (.var 12 "bottom" ⟨519, 39, 519, 45⟩) ⟨519, 12, 519, 45⟩) (.var 15 "whole" ⟨519, 48, 519, 53⟩) ⟨519, 12, 519, 53⟩) ⟨519, 4, 519, 53⟩)
    (.cons (.ite (.cmp .ne (.bin false .mul (.var 11 "left" ⟨520, 7, 520, 11⟩) (.attr (.var 9 "home" ⟨520, 14, 520, 18⟩) "Frac" "bottom" ⟨520, 14, 520, 25⟩) ⟨520, 7, 520, 25⟩) (.var 16 "right" ⟨520, 29, 520, 34⟩) ⟨520, 7, 520, 34⟩) (.cons (.ret (.bl false 0 ⟨521, 15, 521, 20⟩) ⟨521, 8, 521, 20⟩)
    .nil) .nil ⟨520, 4, 521, 20⟩)
    (.cons (.asg (.one 17 "far" ⟨522, 4, 522, 7⟩) (.callK 7 "start_stray" (.var 1 "net" ⟨522, 22, 522, 25⟩) .nil (.cons "steps" (.bin false .mul (.int (2) 0 ⟨522, 33, 522, 34⟩) (.var 3 "many" ⟨522, 37, 522, 41⟩) ⟨522, 33, 522, 41⟩) ⟨522, 27, 522, 41⟩ (.cons "start" (.var 2 "begin" ⟨522, 49, 522, 54⟩) ⟨522, 43, 522, 54⟩ .nil)) [0, 2, 1] ⟨522, 10, 522, 21⟩ ⟨522, 10, 522, 55⟩) ⟨522, 4, 522, 55⟩)
    (.cons (.asg (.one 18 "wide" ⟨523, 4, 523, 8⟩) (.bin false .mul (.bin false .mul (.var 6 "under" ⟨523, 11, 523, 16⟩) (.var 6 "under" ⟨523, 19, 523, 24⟩) ⟨523, 11, 523, 24⟩) (.var 5 "grow" ⟨523, 27, 523, 31⟩) ⟨523, 11, 523, 31⟩) ⟨523, 4, 523, 31⟩)
    (.cons (.asg (.one 14 "due" ⟨524, 4, 524, 7⟩) (.bin false .sub (.call 11 "_law_spread" (.var 0 "rows" ⟨524, 22, 524, 26⟩) (.cons (.ix (.ix (.var 8 "walks" ⟨524, 28, 524, 33⟩) (.var 2 "begin" ⟨524, 34, 524, 39⟩) ⟨524, 28, 524, 40⟩) (.bin false .mul (.int (2) 0 ⟨524, 41, 524, 42⟩) (.var 3 "many" ⟨524, 45, 524, 49⟩) ⟨524, 41, 524, 49⟩) ⟨524, 28, 524, 50⟩) (.cons (.var 5 "grow" ⟨524, 52, 524, 56⟩) .nil)) ⟨524, 10, 524, 21⟩ ⟨524, 10, 524, 57⟩) (.var 18 "wide" ⟨524, 60, 524, 64⟩) ⟨524, 10, 524, 64⟩) ⟨524, 4, 524, 64⟩)
    (.cons (.ite (.not (.call 10 "_law_same" (.var 17 "far" ⟨525, 21, 525, 24⟩) (.cons (.var 14 "due" ⟨525, 26, 525, 29⟩) (.cons (.var 18 "wide" ⟨525, 31, 525, 35⟩) .nil)) ⟨525, 11, 525, 20⟩ ⟨525, 11, 525, 36⟩) ⟨525, 7, 525, 36⟩) (.cons (.ret (.bl false 0 ⟨526, 15, 526, 20⟩) ⟨526, 8, 526, 20⟩)
    .nil) .nil ⟨525, 4, 526, 20⟩)
    (.cons (.asg (.one 19 "degree" ⟨527, 4, 527, 10⟩) (.bi false .sum (.ix (.var 0 "rows" ⟨527, 17, 527, 21⟩) (.var 2 "begin" ⟨527, 22, 527, 27⟩) ⟨527, 17, 527, 28⟩) .nil ⟨527, 13, 527, 16⟩ ⟨527, 13, 527, 29⟩) ⟨527, 4, 527, 29⟩)
    (.cons (.ite (.not (.call 10 "_law_same" (.call 7 "start_stray" (.var 1 "net" ⟨528, 33, 528, 36⟩) (.cons (.var 2 "begin" ⟨528, 38, 528, 43⟩) (.cons (.int (0) 0 ⟨528, 45, 528, 46⟩) .nil)) ⟨528, 21, 528, 32⟩ ⟨528, 21, 528, 47⟩) (.cons (.bin false .sub (.var 15 "whole" ⟨528, 49, 528, 54⟩) (.var 19 "degree" ⟨528, 57, 528, 63⟩) ⟨528, 49, 528, 63⟩) (.cons (.var 19 "degree" ⟨528, 65, 528, 71⟩) .nil)) ⟨528, 11, 528, 20⟩ ⟨528, 11, 528, 72⟩) ⟨528, 7, 528, 72⟩) (.cons (.ret (.bl false 0 ⟨529, 15, 529, 20⟩) ⟨529, 8, 529, 20⟩)
    .nil) .nil ⟨528, 4, 529, 20⟩)
    (.cons (.ret (.call 10 "_law_same" (.call 8 "trace" (.var 1 "net" ⟨530, 27, 530, 30⟩) (.cons (.int (0) 0 ⟨530, 32, 530, 33⟩) .nil) ⟨530, 21, 530, 26⟩ ⟨530, 21, 530, 34⟩) (.cons (.var 4 "size" ⟨530, 36, 530, 40⟩) (.cons (.int (1) 0 ⟨530, 42, 530, 43⟩) .nil)) ⟨530, 11, 530, 20⟩ ⟨530, 11, 530, 44⟩) ⟨530, 4, 530, 44⟩)
    .nil)))))))))))))))))))))
def f4 : Fn := ⟨"_law_sums", 4, ["rows", "net", "begin", "many", "size", "grow", "under", "i", "walks", "home", "half", "left", "bottom", "told", "due", "whole", "right", "far", "wide", "degree", "row"], defScope (topS 68), ir4⟩
theorem irOk4 : ir4.ss = defBody (topS 68) := by rfl
def e5_0 : IE :=
    .lc2 false (.tup (.cons (.var 2 "i" ⟨258, 29, 258, 30⟩) (.cons (.var 4 "j" ⟨258, 32, 258, 33⟩) (.cons (.var 5 "weight" ⟨258, 35, 258, 41⟩) .nil))) 0 ⟨258, 28, 258, 42⟩) (.many [(2, "i", ⟨258, 47, 258, 48⟩), (3, "row", ⟨258, 50, 258, 53⟩)] 0 ⟨258, 47, 258, 53⟩) (.enum (.var 1 "rows" ⟨258, 67, 258, 71⟩) ⟨258, 57, 258, 66⟩ ⟨258, 57, 258, 72⟩) .nil (.many [(4, "j", ⟨258, 77, 258, 78⟩), (5, "weight", ⟨258, 80, 258, 86⟩)] 0 ⟨258, 77, 258, 86⟩) (.enum (.var 3 "row" ⟨258, 100, 258, 103⟩) ⟨258, 90, 258, 99⟩ ⟨258, 90, 258, 104⟩) (.cons (.and (.cmp .le (.var 2 "i" ⟨258, 108, 258, 109⟩) (.var 4 "j" ⟨258, 113, 258, 114⟩) ⟨258, 108, 258, 114⟩) (.cons (.cmp .gt (.var 5 "weight" ⟨258, 119, 258, 125⟩) (.int (0) 0 ⟨258, 128, 258, 129⟩) ⟨258, 119, 258, 129⟩) .nil) ⟨258, 108, 258, 129⟩) .nil) [("i", 2), ("row", 3), ("j", 4), ("weight", 5)] [4, 5] { kind := .function, names := [(".0", .«local»), ("i", .«local»), ("row", .«local»), ("j", .«local»), ("weight", .«local»), ("enumerate", .globalImplicit)], isGenerator := false, isCoroutine := false, more := [] } ⟨258, 27, 258, 130⟩
def e5_1 : IE :=
    .lc false (.bi false .sum (.var 3 "row" ⟨256, 34, 256, 37⟩) .nil ⟨256, 30, 256, 33⟩ ⟨256, 30, 256, 38⟩) (.one 3 "row" ⟨256, 43, 256, 46⟩) (.of (.var 1 "rows" ⟨256, 50, 256, 54⟩)) .nil [("row", 3)] { kind := .function, names := [(".0", .«local»), ("row", .«local»), ("sum", .globalImplicit)], isGenerator := false, isCoroutine := false, more := [] } ⟨256, 29, 256, 55⟩
def e5_2 : IE :=
    .lc false (.bi false .tuple (.var 3 "row" ⟨254, 33, 254, 36⟩) .nil ⟨254, 27, 254, 32⟩ ⟨254, 27, 254, 37⟩) (.one 3 "row" ⟨254, 42, 254, 45⟩) (.of (.var 1 "rows" ⟨254, 49, 254, 53⟩)) .nil [("row", 3)] { kind := .function, names := [(".0", .«local»), ("row", .«local»), ("tuple", .globalImplicit)], isGenerator := false, isCoroutine := false, more := [] } ⟨254, 26, 254, 54⟩
/-- Web.__init__ -/
def ir5 : ISs :=
    (.cons (.expr (.call 19 "_need_square" (.var 1 "rows" ⟨250, 21, 250, 25⟩) .nil ⟨250, 8, 250, 20⟩ ⟨250, 8, 250, 26⟩) ⟨250, 8, 250, 26⟩)
    (.cons (.expr (.call 18 "_need_weights" (.var 1 "rows" ⟨251, 22, 251, 26⟩) .nil ⟨251, 8, 251, 21⟩ ⟨251, 8, 251, 27⟩) ⟨251, 8, 251, 27⟩)
    (.cons (.expr (.call 17 "_need_symmetric" (.var 1 "rows" ⟨252, 24, 252, 28⟩) .nil ⟨252, 8, 252, 23⟩ ⟨252, 8, 252, 29⟩) ⟨252, 8, 252, 29⟩)
    (.cons (.expr (.call 16 "_need_tied" (.var 1 "rows" ⟨253, 19, 253, 23⟩) .nil ⟨253, 8, 253, 18⟩ ⟨253, 8, 253, 24⟩) ⟨253, 8, 253, 24⟩)
    (.cons (.setAt (.var 0 "self" ⟨254, 8, 254, 12⟩) "Web" "rows" (.bi false .tuple e5_2 .nil ⟨254, 20, 254, 25⟩ ⟨254, 20, 254, 55⟩) ⟨254, 8, 254, 17⟩ ⟨254, 8, 254, 55⟩)
    (.cons (.setAt (.var 0 "self" ⟨255, 8, 255, 12⟩) "Web" "size" (.bi false .len (.var 1 "rows" ⟨255, 24, 255, 28⟩) .nil ⟨255, 20, 255, 23⟩ ⟨255, 20, 255, 29⟩) ⟨255, 8, 255, 17⟩ ⟨255, 8, 255, 29⟩)
    (.cons (.setAt (.var 0 "self" ⟨256, 8, 256, 12⟩) "Web" "degrees" (.bi false .tuple e5_1 .nil ⟨256, 23, 256, 28⟩ ⟨256, 23, 256, 56⟩) ⟨256, 8, 256, 20⟩ ⟨256, 8, 256, 56⟩)
    (.cons (.setAt (.var 0 "self" ⟨257, 8, 257, 12⟩) "Web" "volume" (.bi false .sum (.attr (.var 0 "self" ⟨257, 26, 257, 30⟩) "Web" "degrees" ⟨257, 26, 257, 38⟩) .nil ⟨257, 22, 257, 25⟩ ⟨257, 22, 257, 39⟩) ⟨257, 8, 257, 19⟩ ⟨257, 8, 257, 39⟩)
    (.cons (.setAt (.var 0 "self" ⟨258, 8, 258, 12⟩) "Web" "_ties" (.bi false .tuple e5_0 .nil ⟨258, 21, 258, 26⟩ ⟨258, 21, 258, 131⟩) ⟨258, 8, 258, 18⟩ ⟨258, 8, 258, 131⟩)
    .nil)))))))))
def f5 : Fn := ⟨"__init__", 2, ["self", "rows", "i", "row", "j", "weight"], defScope (methS (topS 37) 0), ir5⟩
theorem irOk5 : ir5.ss = defBody (methS (topS 37) 0) := by rfl
def b6_0 : ISs :=
    (.cons (.ite (.cmp .eq (.bi false .sum (.ix (.var 4 "rows" ⟨444, 15, 444, 19⟩) (.var 5 "i" ⟨444, 20, 444, 21⟩) ⟨444, 15, 444, 22⟩) .nil ⟨444, 11, 444, 14⟩ ⟨444, 11, 444, 23⟩) (.int (0) 0 ⟨444, 27, 444, 28⟩) ⟨444, 11, 444, 28⟩) (.cons (.asg (.one 6 "j" ⟨445, 12, 445, 13⟩) (.bin false .add (.var 5 "i" ⟨445, 16, 445, 17⟩) (.int (1) 0 ⟨445, 20, 445, 21⟩) ⟨445, 16, 445, 21⟩) ⟨445, 12, 445, 21⟩)
    (.cons (.ite (.cmp .eq (.var 6 "j" ⟨446, 15, 446, 16⟩) (.var 1 "size" ⟨446, 20, 446, 24⟩) ⟨446, 15, 446, 24⟩) (.cons (.asg (.one 6 "j" ⟨447, 16, 447, 17⟩) (.bi false .max (.int (0) 0 ⟨447, 24, 447, 25⟩) (.cons (.bin false .sub (.var 5 "i" ⟨447, 27, 447, 28⟩) (.int (1) 0 ⟨447, 31, 447, 32⟩) ⟨447, 27, 447, 32⟩) .nil) ⟨447, 20, 447, 23⟩ ⟨447, 20, 447, 33⟩) ⟨447, 16, 447, 33⟩)
    .nil) .nil ⟨446, 12, 447, 33⟩)
    (.cons (.setIx (.ix (.var 4 "rows" ⟨448, 12, 448, 16⟩) (.var 5 "i" ⟨448, 17, 448, 18⟩) ⟨448, 12, 448, 19⟩) (.var 6 "j" ⟨448, 20, 448, 21⟩) (.int (1) 0 ⟨448, 25, 448, 26⟩) ⟨448, 12, 448, 22⟩ ⟨448, 12, 448, 26⟩)
    (.cons (.setIx (.ix (.var 4 "rows" ⟨449, 12, 449, 16⟩) (.var 6 "j" ⟨449, 17, 449, 18⟩) ⟨449, 12, 449, 19⟩) (.var 5 "i" ⟨449, 20, 449, 21⟩) (.int (1) 0 ⟨449, 25, 449, 26⟩) ⟨449, 12, 449, 22⟩ ⟨449, 12, 449, 26⟩)
    .nil)))) .nil ⟨444, 8, 449, 26⟩)
    .nil)
def b6_1 : ISs :=
    (.cons (.ite (.call 20 "_law_let" (.var 3 "shape" ⟨435, 24, 435, 29⟩) (.cons (.var 5 "i" ⟨435, 31, 435, 32⟩) (.cons (.var 6 "j" ⟨435, 34, 435, 35⟩) (.cons (.var 1 "size" ⟨435, 37, 435, 41⟩) .nil))) ⟨435, 15, 435, 23⟩ ⟨435, 15, 435, 42⟩) (.cons (.asg (.one 7 "weight" ⟨436, 16, 436, 22⟩) (.call 3 "_law_draw" (.var 0 "pool" ⟨436, 35, 436, 39⟩) (.cons (.var 2 "top" ⟨436, 41, 436, 44⟩) .nil) ⟨436, 25, 436, 34⟩ ⟨436, 25, 436, 45⟩) ⟨436, 16, 436, 45⟩)
    (.cons (.ite (.and (.cmp .ne (.var 5 "i" ⟨437, 19, 437, 20⟩) (.var 6 "j" ⟨437, 24, 437, 25⟩) ⟨437, 19, 437, 25⟩) (.cons (.cmp .gt (.var 2 "top" ⟨437, 30, 437, 33⟩) (.int (99) 0 ⟨437, 36, 437, 38⟩) ⟨437, 30, 437, 38⟩) .nil) ⟨437, 19, 437, 38⟩) (.cons (.asg (.one 7 "weight" ⟨438, 20, 438, 26⟩) (.bin false .sub (.bin false .sub (.var 2 "top" ⟨438, 29, 438, 32⟩) (.int (1) 0 ⟨438, 35, 438, 36⟩) ⟨438, 29, 438, 36⟩) (.var 7 "weight" ⟨438, 39, 438, 45⟩) ⟨438, 29, 438, 45⟩) ⟨438, 20, 438, 45⟩)
    .nil) .nil ⟨437, 16, 438, 45⟩)
    (.cons (.ite (.and (.cmp .ne (.var 5 "i" ⟨439, 19, 439, 20⟩) (.var 6 "j" ⟨439, 24, 439, 25⟩) ⟨439, 19, 439, 25⟩) (.cons (.cmp .lt (.var 2 "top" ⟨439, 30, 439, 33⟩) (.int (99) 0 ⟨439, 36, 439, 38⟩) ⟨439, 30, 439, 38⟩) .nil) ⟨439, 19, 439, 38⟩) (.cons (.asg (.one 7 "weight" ⟨440, 20, 440, 26⟩) (.bin false .mod (.bi false .int (.bin false .add (.var 7 "weight" ⟨440, 33, 440, 39⟩) (.int (1) 0 ⟨440, 42, 440, 43⟩) ⟨440, 33, 440, 43⟩) .nil ⟨440, 29, 440, 32⟩ ⟨440, 29, 440, 44⟩) (.var 2 "top" ⟨440, 47, 440, 50⟩) ⟨440, 29, 440, 50⟩) ⟨440, 20, 440, 50⟩)
    .nil) .nil ⟨439, 16, 440, 50⟩)
    (.cons (.setIx (.ix (.var 4 "rows" ⟨441, 16, 441, 20⟩) (.var 5 "i" ⟨441, 21, 441, 22⟩) ⟨441, 16, 441, 23⟩) (.var 6 "j" ⟨441, 24, 441, 25⟩) (.var 7 "weight" ⟨441, 29, 441, 35⟩) ⟨441, 16, 441, 26⟩ ⟨441, 16, 441, 35⟩)
    (.cons (.setIx (.ix (.var 4 "rows" ⟨442, 16, 442, 20⟩) (.var 6 "j" ⟨442, 21, 442, 22⟩) ⟨442, 16, 442, 23⟩) (.var 5 "i" ⟨442, 24, 442, 25⟩) (.var 7 "weight" ⟨442, 29, 442, 35⟩) ⟨442, 16, 442, 26⟩ ⟨442, 16, 442, 35⟩)
    .nil))))) .nil ⟨435, 12, 442, 35⟩)
    .nil)
def b6_2 : ISs :=
    (.cons (.for_ (.one 6 "j" ⟨434, 12, 434, 13⟩) (.rng2 (.var 5 "i" ⟨434, 23, 434, 24⟩) (.var 1 "size" ⟨434, 26, 434, 30⟩) ⟨434, 17, 434, 22⟩ ⟨434, 17, 434, 31⟩) b6_1 ⟨434, 8, 442, 35⟩)
    .nil)
def e6_3 : IE :=
    .lc true (.bin true .mul (.lst false (.cons (.int (0) 0 ⟨432, 13, 432, 14⟩) .nil) ⟨432, 12, 432, 15⟩) (.var 1 "size" ⟨432, 18, 432, 22⟩) ⟨432, 12, 432, 22⟩) (.one 8 "k" ⟨432, 27, 432, 28⟩) (.rng1 (.var 1 "size" ⟨432, 38, 432, 42⟩) ⟨432, 32, 432, 37⟩ ⟨432, 32, 432, 43⟩) .nil [("k", 8)] { kind := .function, names := [(".0", .«local»), ("k", .«local»), ("size", .free)], isGenerator := false, isCoroutine := false, more := [] } ⟨432, 11, 432, 44⟩
/-- _law_drawn -/
def ir6 : ISs :=
    (.cons (.asg (.one 3 "shape" ⟨429, 4, 429, 9⟩) (.call 3 "_law_draw" (.var 0 "pool" ⟨429, 22, 429, 26⟩) (.cons (.int (8) 0 ⟨429, 28, 429, 29⟩) .nil) ⟨429, 12, 429, 21⟩ ⟨429, 12, 429, 30⟩) ⟨429, 4, 429, 30⟩)
    (.cons (.ite (.cmp .gt (.var 1 "size" ⟨430, 7, 430, 11⟩) (.int (8) 0 ⟨430, 14, 430, 15⟩) ⟨430, 7, 430, 15⟩) (.cons (.asg (.one 3 "shape" ⟨431, 8, 431, 13⟩) (.int (4) 0 ⟨431, 16, 431, 17⟩) ⟨431, 8, 431, 17⟩)
    .nil) .nil ⟨430, 4, 431, 17⟩)
    (.cons (.asg (.one 4 "rows" ⟨432, 4, 432, 8⟩) e6_3 ⟨432, 4, 432, 44⟩)
    (.cons (.for_ (.one 5 "i" ⟨433, 8, 433, 9⟩) (.rng1 (.var 1 "size" ⟨433, 19, 433, 23⟩) ⟨433, 13, 433, 18⟩ ⟨433, 13, 433, 24⟩) b6_2 ⟨433, 4, 442, 35⟩)
    (.cons (.for_ (.one 5 "i" ⟨443, 8, 443, 9⟩) (.rng1 (.var 1 "size" ⟨443, 19, 443, 23⟩) ⟨443, 13, 443, 18⟩ ⟨443, 13, 443, 24⟩) b6_0 ⟨443, 4, 449, 26⟩)
    (.cons (.ret (.var 4 "rows" ⟨450, 11, 450, 15⟩) ⟨450, 4, 450, 15⟩)
    .nil))))))
def f6 : Fn := ⟨"_law_drawn", 3, ["pool", "size", "top", "shape", "rows", "i", "j", "weight", "k"], defScope (topS 61), ir6⟩
theorem irOk6 : ir6.ss = defBody (topS 61) := by rfl
/-- start_stray -/
def ir7 : ISs :=
    (.cons (.expr (.call 25 "need_place" (.var 0 "web" ⟨367, 15, 367, 18⟩) (.cons (.var 1 "start" ⟨367, 20, 367, 25⟩) .nil) ⟨367, 4, 367, 14⟩ ⟨367, 4, 367, 26⟩) ⟨367, 4, 367, 26⟩)
    (.cons (.expr (.call 24 "need_steps" (.var 2 "steps" ⟨368, 15, 368, 20⟩) .nil ⟨368, 4, 368, 14⟩ ⟨368, 4, 368, 21⟩) ⟨368, 4, 368, 21⟩)
    (.cons (.asg (.many [(3, "numbers", ⟨369, 4, 369, 11⟩), (4, "scale", ⟨369, 13, 369, 18⟩)] 0 ⟨369, 4, 369, 18⟩) (.call 23 "walked" (.var 0 "web" ⟨369, 28, 369, 31⟩) (.cons (.var 1 "start" ⟨369, 33, 369, 38⟩) (.cons (.var 2 "steps" ⟨369, 40, 369, 45⟩) .nil)) ⟨369, 21, 369, 27⟩ ⟨369, 21, 369, 46⟩) ⟨369, 4, 369, 46⟩)
    (.cons (.asg (.many [(5, "top", ⟨370, 4, 370, 7⟩), (6, "bottom", ⟨370, 9, 370, 15⟩)] 0 ⟨370, 4, 370, 15⟩) (.call 22 "stray_numbers" (.var 0 "web" ⟨370, 32, 370, 35⟩) (.cons (.var 3 "numbers" ⟨370, 37, 370, 44⟩) (.cons (.var 4 "scale" ⟨370, 46, 370, 51⟩) .nil)) ⟨370, 18, 370, 31⟩ ⟨370, 18, 370, 52⟩) ⟨370, 4, 370, 52⟩)
    (.cons (.ret (.make false 21 "Frac" (.var 5 "top" ⟨371, 16, 371, 19⟩) (.cons (.var 6 "bottom" ⟨371, 21, 371, 27⟩) .nil) ⟨371, 11, 371, 15⟩ ⟨371, 11, 371, 28⟩) ⟨371, 4, 371, 28⟩)
    .nil)))))
def f7 : Fn := ⟨"start_stray", 3, ["web", "start", "steps", "numbers", "scale", "top", "bottom"], defScope (topS 51), ir7⟩
theorem irOk7 : ir7.ss = defBody (topS 51) := by rfl
def b8_0 : ISs :=
    (.cons (.asg (.many [(4, "numbers", ⟨376, 8, 376, 15⟩), (5, "scale", ⟨376, 17, 376, 22⟩)] 0 ⟨376, 8, 376, 22⟩) (.call 23 "walked" (.var 0 "web" ⟨376, 32, 376, 35⟩) (.cons (.var 3 "start" ⟨376, 37, 376, 42⟩) (.cons (.var 1 "steps" ⟨376, 44, 376, 49⟩) .nil)) ⟨376, 25, 376, 31⟩ ⟨376, 25, 376, 50⟩) ⟨376, 8, 376, 50⟩)
    (.cons (.asg (.one 2 "total" ⟨377, 8, 377, 13⟩) (.opm 26 "Frac" .add (.var 2 "total" ⟨377, 16, 377, 21⟩) (.make false 21 "Frac" (.ix (.var 4 "numbers" ⟨377, 29, 377, 36⟩) (.var 3 "start" ⟨377, 37, 377, 42⟩) ⟨377, 29, 377, 43⟩) (.cons (.var 5 "scale" ⟨377, 45, 377, 50⟩) .nil) ⟨377, 24, 377, 28⟩ ⟨377, 24, 377, 51⟩) ⟨377, 16, 377, 51⟩) ⟨377, 8, 377, 51⟩)
    .nil))
/-- trace -/
def ir8 : ISs :=
    (.cons (.expr (.call 24 "need_steps" (.var 1 "steps" ⟨373, 15, 373, 20⟩) .nil ⟨373, 4, 373, 14⟩ ⟨373, 4, 373, 21⟩) ⟨373, 4, 373, 21⟩)
    (.cons (.asg (.one 2 "total" ⟨374, 4, 374, 9⟩) (.makeD false 21 "Frac" (.int (0) 0 ⟨374, 17, 374, 18⟩) .nil [1] ⟨374, 12, 374, 16⟩ ⟨374, 12, 374, 19⟩) ⟨374, 4, 374, 19⟩)
    (.cons (.for_ (.one 3 "start" ⟨375, 8, 375, 13⟩) (.rng1 (.attr (.var 0 "web" ⟨375, 23, 375, 26⟩) "Web" "size" ⟨375, 23, 375, 31⟩) ⟨375, 17, 375, 22⟩ ⟨375, 17, 375, 32⟩) b8_0 ⟨375, 4, 377, 51⟩)
    (.cons (.ret (.var 2 "total" ⟨378, 11, 378, 16⟩) ⟨378, 4, 378, 16⟩)
    .nil))))
def f8 : Fn := ⟨"trace", 2, ["web", "steps", "total", "start", "numbers", "scale"], defScope (topS 52), ir8⟩
theorem irOk8 : ir8.ss = defBody (topS 52) := by rfl
/-- _law_whole -/
def ir9 : ISs :=
    (.cons (.ret (.and (.isT (.var 0 "value" ⟨391, 22, 391, 27⟩) .int ⟨391, 29, 391, 32⟩ ⟨391, 11, 391, 21⟩ ⟨391, 11, 391, 33⟩) (.cons (.not (.isT (.var 0 "value" ⟨391, 54, 391, 59⟩) .bool ⟨391, 61, 391, 65⟩ ⟨391, 43, 391, 53⟩ ⟨391, 43, 391, 66⟩) ⟨391, 39, 391, 66⟩) .nil) ⟨391, 11, 391, 67⟩) ⟨391, 4, 391, 67⟩)
    .nil)
def f9 : Fn := ⟨"_law_whole", 1, ["value"], defScope (topS 55), ir9⟩
theorem irOk9 : ir9.ss = defBody (topS 55) := by rfl
/-- _law_same -/
def ir10 : ISs :=
    (.cons (.ite (.not (.isC (.var 0 "value" ⟨401, 22, 401, 27⟩) "Frac" ⟨401, 29, 401, 33⟩ ⟨401, 11, 401, 21⟩ ⟨401, 11, 401, 34⟩) ⟨401, 7, 401, 34⟩) (.cons (.ret (.bl false 0 ⟨402, 15, 402, 20⟩) ⟨402, 8, 402, 20⟩)
    .nil) .nil ⟨401, 4, 402, 20⟩)
    (.cons (.ite (.or (.not (.call 9 "_law_whole" (.attr (.var 0 "value" ⟨403, 22, 403, 27⟩) "Frac" "top" ⟨403, 22, 403, 31⟩) .nil ⟨403, 11, 403, 21⟩ ⟨403, 11, 403, 32⟩) ⟨403, 7, 403, 32⟩) (.cons (.not (.call 9 "_law_whole" (.attr (.var 0 "value" ⟨403, 51, 403, 56⟩) "Frac" "bottom" ⟨403, 51, 403, 63⟩) .nil ⟨403, 40, 403, 50⟩ ⟨403, 40, 403, 64⟩) ⟨403, 36, 403, 64⟩) .nil) ⟨403, 7, 403, 64⟩) (.cons (.ret (.bl false 0 ⟨404, 15, 404, 20⟩) ⟨404, 8, 404, 20⟩)
    .nil) .nil ⟨403, 4, 404, 20⟩)
    (.cons (.asg (.one 3 "part" ⟨405, 4, 405, 8⟩) (.call 27 "_law_gcd" (.var 1 "top" ⟨405, 20, 405, 23⟩) (.cons (.var 2 "bottom" ⟨405, 25, 405, 31⟩) .nil) ⟨405, 11, 405, 19⟩ ⟨405, 11, 405, 32⟩) ⟨405, 4, 405, 32⟩)
    (.cons (.ret (.and (.cmp .eq (.attr (.var 0 "value" ⟨406, 11, 406, 16⟩) "Frac" "top" ⟨406, 11, 406, 20⟩) (.bin false .fdiv (.var 1 "top" ⟨406, 24, 406, 27⟩) (.var 3 "part" ⟨406, 31, 406, 35⟩) ⟨406, 24, 406, 35⟩) ⟨406, 11, 406, 35⟩) (.cons (.cmp .eq (.attr (.var 0 "value" ⟨406, 40, 406, 45⟩) "Frac" "bottom" ⟨406, 40, 406, 52⟩) (.bin false .fdiv (.var 2 "bottom" ⟨406, 56, 406, 62⟩) (.var 3 "part" ⟨406, 66, 406, 70⟩) ⟨406, 56, 406, 70⟩) ⟨406, 40, 406, 70⟩) .nil) ⟨406, 11, 406, 70⟩) ⟨406, 4, 406, 70⟩)
    .nil))))
def f10 : Fn := ⟨"_law_same", 3, ["value", "top", "bottom", "part"], defScope (topS 57), ir10⟩
theorem irOk10 : ir10.ss = defBody (topS 57) := by rfl
def b11_0 : ISs :=
    (.cons (.asg (.one 6 "degree" ⟨469, 8, 469, 14⟩) (.bi false .sum (.ix (.var 0 "rows" ⟨469, 21, 469, 25⟩) (.var 5 "j" ⟨469, 26, 469, 27⟩) ⟨469, 21, 469, 28⟩) .nil ⟨469, 17, 469, 20⟩ ⟨469, 17, 469, 29⟩) ⟨469, 8, 469, 29⟩)
    (.cons (.asg (.one 3 "whole" ⟨470, 8, 470, 13⟩) (.bin false .add (.var 3 "whole" ⟨470, 16, 470, 21⟩) (.var 6 "degree" ⟨470, 24, 470, 30⟩) ⟨470, 16, 470, 30⟩) ⟨470, 8, 470, 30⟩)
    (.cons (.asg (.one 4 "told" ⟨471, 8, 471, 12⟩) (.bin false .add (.var 4 "told" ⟨471, 15, 471, 19⟩) (.bin false .mul (.bin false .mul (.ix (.var 1 "tops" ⟨471, 22, 471, 26⟩) (.var 5 "j" ⟨471, 27, 471, 28⟩) ⟨471, 22, 471, 29⟩) (.ix (.var 1 "tops" ⟨471, 32, 471, 36⟩) (.var 5 "j" ⟨471, 37, 471, 38⟩) ⟨471, 32, 471, 39⟩) ⟨471, 22, 471, 39⟩) (.bin false .fdiv (.var 2 "grow" ⟨471, 43, 471, 47⟩) (.var 6 "degree" ⟨471, 51, 471, 57⟩) ⟨471, 43, 471, 57⟩) ⟨471, 22, 471, 58⟩) ⟨471, 15, 471, 58⟩) ⟨471, 8, 471, 58⟩)
    .nil)))
/-- _law_spread -/
def ir11 : ISs :=
    (.cons (.asg (.one 3 "whole" ⟨466, 4, 466, 9⟩) (.int (0) 0 ⟨466, 12, 466, 13⟩) ⟨466, 4, 466, 13⟩)
    (.cons (.asg (.one 4 "told" ⟨467, 4, 467, 8⟩) (.int (0) 0 ⟨467, 11, 467, 12⟩) ⟨467, 4, 467, 12⟩)
    (.cons (.for_ (.one 5 "j" ⟨468, 8, 468, 9⟩) (.rng1 (.bi false .len (.var 0 "rows" ⟨468, 23, 468, 27⟩) .nil ⟨468, 19, 468, 22⟩ ⟨468, 19, 468, 28⟩) ⟨468, 13, 468, 18⟩ ⟨468, 13, 468, 29⟩) b11_0 ⟨468, 4, 471, 58⟩)
    (.cons (.ret (.bin false .mul (.var 3 "whole" ⟨472, 11, 472, 16⟩) (.var 4 "told" ⟨472, 19, 472, 23⟩) ⟨472, 11, 472, 23⟩) ⟨472, 4, 472, 23⟩)
    .nil))))
def f11 : Fn := ⟨"_law_spread", 3, ["rows", "tops", "grow", "whole", "told", "j", "degree"], defScope (topS 64), ir11⟩
theorem irOk11 : ir11.ss = defBody (topS 64) := by rfl
def b12_0 : ISs :=
    (.cons (.asg (.one 2 "told" ⟨412, 8, 412, 12⟩) (.bin false .mul (.var 2 "told" ⟨412, 15, 412, 19⟩) (.var 0 "base" ⟨412, 22, 412, 26⟩) ⟨412, 15, 412, 26⟩) ⟨412, 8, 412, 26⟩)
    .nil)
/-- _law_power -/
def ir12 : ISs :=
    (.cons (.asg (.one 2 "told" ⟨410, 4, 410, 8⟩) (.int (1) 0 ⟨410, 11, 410, 12⟩) ⟨410, 4, 410, 12⟩)
    (.cons (.for_ (.one 3 "turn" ⟨411, 8, 411, 12⟩) (.rng1 (.var 1 "many" ⟨411, 22, 411, 26⟩) ⟨411, 16, 411, 21⟩ ⟨411, 16, 411, 27⟩) b12_0 ⟨411, 4, 412, 26⟩)
    (.cons (.ret (.var 2 "told" ⟨413, 11, 413, 15⟩) ⟨413, 4, 413, 15⟩)
    .nil)))
def f12 : Fn := ⟨"_law_power", 2, ["base", "many", "told", "turn"], defScope (topS 59), ir12⟩
theorem irOk12 : ir12.ss = defBody (topS 59) := by rfl
def e13_0 : IE :=
    .lc false (.ix (.ix (.ix (.var 0 "walks" ⟨474, 16, 474, 21⟩) (.var 2 "i" ⟨474, 22, 474, 23⟩) ⟨474, 16, 474, 24⟩) (.var 1 "stage" ⟨474, 25, 474, 30⟩) ⟨474, 16, 474, 31⟩) (.var 2 "i" ⟨474, 32, 474, 33⟩) ⟨474, 16, 474, 34⟩) (.one 2 "i" ⟨474, 39, 474, 40⟩) (.rng1 (.bi false .len (.var 0 "walks" ⟨474, 54, 474, 59⟩) .nil ⟨474, 50, 474, 53⟩ ⟨474, 50, 474, 60⟩) ⟨474, 44, 474, 49⟩ ⟨474, 44, 474, 61⟩) .nil [("i", 2)] { kind := .function, names := [(".0", .«local»), ("i", .«local»), ("stage", .free), ("walks", .free)], isGenerator := false, isCoroutine := false, more := [] } ⟨474, 15, 474, 62⟩
/-- _law_closed -/
def ir13 : ISs :=
    (.cons (.ret (.bi false .sum e13_0 .nil ⟨474, 11, 474, 14⟩ ⟨474, 11, 474, 63⟩) ⟨474, 4, 474, 63⟩)
    .nil)
def f13 : Fn := ⟨"_law_closed", 2, ["walks", "stage", "i"], defScope (topS 65), ir13⟩
theorem irOk13 : ir13.ss = defBody (topS 65) := by rfl
def e14_0 : IE :=
    .lc false (.call 28 "_law_dot" (.ix (.var 0 "rows" ⟨463, 30, 463, 34⟩) (.var 9 "j" ⟨463, 35, 463, 36⟩) ⟨463, 30, 463, 37⟩) (.cons (.var 8 "deal" ⟨463, 39, 463, 43⟩) .nil) ⟨463, 21, 463, 29⟩ ⟨463, 21, 463, 44⟩) (.one 9 "j" ⟨463, 49, 463, 50⟩) (.rng1 (.var 3 "size" ⟨463, 60, 463, 64⟩) ⟨463, 54, 463, 59⟩ ⟨463, 54, 463, 65⟩) .nil [("j", 9)] { kind := .function, names := [(".0", .«local»), ("j", .«local»), ("_law_dot", .globalImplicit), ("deal", .free), ("rows", .free)], isGenerator := false, isCoroutine := false, more := [] } ⟨463, 20, 463, 66⟩
def e14_1 : IE :=
    .lc false (.bin false .mul (.ix (.ix (.var 6 "told" ⟨462, 16, 462, 20⟩) (.var 7 "turn" ⟨462, 21, 462, 25⟩) ⟨462, 16, 462, 26⟩) (.var 10 "i" ⟨462, 27, 462, 28⟩) ⟨462, 16, 462, 29⟩) (.ix (.var 5 "parts" ⟨462, 32, 462, 37⟩) (.var 10 "i" ⟨462, 38, 462, 39⟩) ⟨462, 32, 462, 40⟩) ⟨462, 16, 462, 40⟩) (.one 10 "i" ⟨462, 45, 462, 46⟩) (.rng1 (.var 3 "size" ⟨462, 56, 462, 60⟩) ⟨462, 50, 462, 55⟩ ⟨462, 50, 462, 61⟩) .nil [("i", 10)] { kind := .function, names := [(".0", .«local»), ("i", .«local»), ("parts", .free), ("told", .free), ("turn", .free)], isGenerator := false, isCoroutine := false, more := [] } ⟨462, 15, 462, 62⟩
def b14_2 : ISs :=
    (.cons (.asg (.one 8 "deal" ⟨462, 8, 462, 12⟩) e14_1 ⟨462, 8, 462, 62⟩)
    (.cons (.expr (.lmeth (.var 6 "told" ⟨463, 8, 463, 12⟩) .append (.cons e14_0 .nil) ⟨463, 8, 463, 19⟩ ⟨463, 8, 463, 67⟩) ⟨463, 8, 463, 67⟩)
    .nil))
def e14_3 : IE :=
    .lc false (.bi false .int (.cmp .eq (.var 9 "j" ⟨460, 17, 460, 18⟩) (.var 1 "begin" ⟨460, 22, 460, 27⟩) ⟨460, 17, 460, 27⟩) .nil ⟨460, 13, 460, 16⟩ ⟨460, 13, 460, 28⟩) (.one 9 "j" ⟨460, 33, 460, 34⟩) (.rng1 (.var 3 "size" ⟨460, 44, 460, 48⟩) ⟨460, 38, 460, 43⟩ ⟨460, 38, 460, 49⟩) .nil [("j", 9)] { kind := .function, names := [(".0", .«local»), ("j", .«local»), ("int", .globalImplicit), ("begin", .free)], isGenerator := false, isCoroutine := false, more := [] } ⟨460, 12, 460, 50⟩
def e14_4 : IE :=
    .lc false (.bin false .fdiv (.var 4 "grow" ⟨459, 13, 459, 17⟩) (.bi false .sum (.var 11 "row" ⟨459, 25, 459, 28⟩) .nil ⟨459, 21, 459, 24⟩ ⟨459, 21, 459, 29⟩) ⟨459, 13, 459, 29⟩) (.one 11 "row" ⟨459, 34, 459, 37⟩) (.of (.var 0 "rows" ⟨459, 41, 459, 45⟩)) .nil [("row", 11)] { kind := .function, names := [(".0", .«local»), ("row", .«local»), ("sum", .globalImplicit), ("grow", .free)], isGenerator := false, isCoroutine := false, more := [] } ⟨459, 12, 459, 46⟩
/-- _law_dealt -/
def ir14 : ISs :=
    (.cons (.asg (.one 3 "size" ⟨457, 4, 457, 8⟩) (.bi false .len (.var 0 "rows" ⟨457, 15, 457, 19⟩) .nil ⟨457, 11, 457, 14⟩ ⟨457, 11, 457, 20⟩) ⟨457, 4, 457, 20⟩)
    (.cons (.asg (.one 4 "grow" ⟨458, 4, 458, 8⟩) (.call 15 "_law_base" (.var 0 "rows" ⟨458, 21, 458, 25⟩) .nil ⟨458, 11, 458, 20⟩ ⟨458, 11, 458, 26⟩) ⟨458, 4, 458, 26⟩)
    (.cons (.asg (.one 5 "parts" ⟨459, 4, 459, 9⟩) e14_4 ⟨459, 4, 459, 46⟩)
    (.cons (.asg (.one 6 "told" ⟨460, 4, 460, 8⟩) (.lst true (.cons e14_3 .nil) ⟨460, 11, 460, 51⟩) ⟨460, 4, 460, 51⟩)
    (.cons (.for_ (.one 7 "turn" ⟨461, 8, 461, 12⟩) (.rng1 (.var 2 "many" ⟨461, 22, 461, 26⟩) ⟨461, 16, 461, 21⟩ ⟨461, 16, 461, 27⟩) b14_2 ⟨461, 4, 463, 67⟩)
    (.cons (.ret (.var 6 "told" ⟨464, 11, 464, 15⟩) ⟨464, 4, 464, 15⟩)
    .nil))))))
def f14 : Fn := ⟨"_law_dealt", 3, ["rows", "begin", "many", "size", "grow", "parts", "told", "turn", "deal", "j", "i", "row"], defScope (topS 63), ir14⟩
theorem irOk14 : ir14.ss = defBody (topS 63) := by rfl
def b15_0 : ISs :=
    (.cons (.asg (.one 1 "told" ⟨454, 8, 454, 12⟩) (.bin false .mul (.var 1 "told" ⟨454, 15, 454, 19⟩) (.bi false .sum (.var 2 "row" ⟨454, 26, 454, 29⟩) .nil ⟨454, 22, 454, 25⟩ ⟨454, 22, 454, 30⟩) ⟨454, 15, 454, 30⟩) ⟨454, 8, 454, 30⟩)
    .nil)
/-- _law_base -/
def ir15 : ISs :=
    (.cons (.asg (.one 1 "told" ⟨452, 4, 452, 8⟩) (.int (1) 0 ⟨452, 11, 452, 12⟩) ⟨452, 4, 452, 12⟩)
    (.cons (.for_ (.one 2 "row" ⟨453, 8, 453, 11⟩) (.of (.var 0 "rows" ⟨453, 15, 453, 19⟩)) b15_0 ⟨453, 4, 454, 30⟩)
    (.cons (.ret (.var 1 "told" ⟨455, 11, 455, 15⟩) ⟨455, 4, 455, 15⟩)
    .nil)))
def f15 : Fn := ⟨"_law_base", 1, ["rows", "told", "row"], defScope (topS 62), ir15⟩
theorem irOk15 : ir15.ss = defBody (topS 62) := by rfl
def b16_0 : ISs :=
    (.cons (.ite (.cmp .eq (.bi false .sum (.var 2 "row" ⟨239, 15, 239, 18⟩) .nil ⟨239, 11, 239, 14⟩ ⟨239, 11, 239, 19⟩) (.int (0) 0 ⟨239, 23, 239, 24⟩) ⟨239, 11, 239, 24⟩) (.cons (.raise "Bare" none (.cons (.var 1 "place" ⟨240, 23, 240, 28⟩) .nil) ⟨240, 18, 240, 22⟩ ⟨240, 18, 240, 29⟩ ⟨240, 12, 240, 29⟩)
    .nil) .nil ⟨239, 8, 240, 29⟩)
    .nil)
/-- _need_tied -/
def ir16 : ISs :=
    (.cons (.for_ (.many [(1, "place", ⟨238, 8, 238, 13⟩), (2, "row", ⟨238, 15, 238, 18⟩)] 0 ⟨238, 8, 238, 18⟩) (.enum (.var 0 "rows" ⟨238, 32, 238, 36⟩) ⟨238, 22, 238, 31⟩ ⟨238, 22, 238, 37⟩) b16_0 ⟨238, 4, 240, 29⟩)
    .nil)
def f16 : Fn := ⟨"_need_tied", 1, ["rows", "place", "row"], defScope (topS 34), ir16⟩
theorem irOk16 : ir16.ss = defBody (topS 34) := by rfl
def b17_0 : ISs :=
    (.cons (.ite (.cmp .ne (.var 4 "weight" ⟨235, 15, 235, 21⟩) (.ix (.ix (.var 0 "rows" ⟨235, 25, 235, 29⟩) (.var 3 "j" ⟨235, 30, 235, 31⟩) ⟨235, 25, 235, 32⟩) (.var 1 "i" ⟨235, 33, 235, 34⟩) ⟨235, 25, 235, 35⟩) ⟨235, 15, 235, 35⟩) (.cons (.raise "NotSymmetric" none (.cons (.var 1 "i" ⟨236, 35, 236, 36⟩) (.cons (.var 3 "j" ⟨236, 38, 236, 39⟩) .nil)) ⟨236, 22, 236, 34⟩ ⟨236, 22, 236, 40⟩ ⟨236, 16, 236, 40⟩)
    .nil) .nil ⟨235, 12, 236, 40⟩)
    .nil)
def b17_1 : ISs :=
    (.cons (.for_ (.many [(3, "j", ⟨234, 12, 234, 13⟩), (4, "weight", ⟨234, 15, 234, 21⟩)] 0 ⟨234, 12, 234, 21⟩) (.enum (.var 2 "row" ⟨234, 35, 234, 38⟩) ⟨234, 25, 234, 34⟩ ⟨234, 25, 234, 39⟩) b17_0 ⟨234, 8, 236, 40⟩)
    .nil)
/-- _need_symmetric -/
def ir17 : ISs :=
    (.cons (.for_ (.many [(1, "i", ⟨233, 8, 233, 9⟩), (2, "row", ⟨233, 11, 233, 14⟩)] 0 ⟨233, 8, 233, 14⟩) (.enum (.var 0 "rows" ⟨233, 28, 233, 32⟩) ⟨233, 18, 233, 27⟩ ⟨233, 18, 233, 33⟩) b17_1 ⟨233, 4, 236, 40⟩)
    .nil)
def f17 : Fn := ⟨"_need_symmetric", 1, ["rows", "i", "row", "j", "weight"], defScope (topS 33), ir17⟩
theorem irOk17 : ir17.ss = defBody (topS 33) := by rfl
def b18_0 : ISs :=
    (.cons (.ite (.or (.cmp .lt (.var 2 "weight" ⟨230, 15, 230, 21⟩) (.int (0) 0 ⟨230, 24, 230, 25⟩) ⟨230, 15, 230, 25⟩) (.cons (.cmp .gt (.var 2 "weight" ⟨230, 29, 230, 35⟩) (.gint (1000000000000000000000000000000) "MOST_WEIGHT" ⟨230, 38, 230, 49⟩) ⟨230, 29, 230, 49⟩) .nil) ⟨230, 15, 230, 49⟩) (.cons (.raise "BadWeight" none (.cons (.var 2 "weight" ⟨231, 32, 231, 38⟩) .nil) ⟨231, 22, 231, 31⟩ ⟨231, 22, 231, 39⟩ ⟨231, 16, 231, 39⟩)
    .nil) .nil ⟨230, 12, 231, 39⟩)
    .nil)
def b18_1 : ISs :=
    (.cons (.for_ (.one 2 "weight" ⟨229, 12, 229, 18⟩) (.of (.var 1 "row" ⟨229, 22, 229, 25⟩)) b18_0 ⟨229, 8, 231, 39⟩)
    .nil)
/-- _need_weights -/
def ir18 : ISs :=
    (.cons (.for_ (.one 1 "row" ⟨228, 8, 228, 11⟩) (.of (.var 0 "rows" ⟨228, 15, 228, 19⟩)) b18_1 ⟨228, 4, 231, 39⟩)
    .nil)
def f18 : Fn := ⟨"_need_weights", 1, ["rows", "row", "weight"], defScope (topS 32), ir18⟩
theorem irOk18 : ir18.ss = defBody (topS 32) := by rfl
def b19_0 : ISs :=
    (.cons (.ite (.cmp .ne (.bi false .len (.var 2 "row" ⟨225, 15, 225, 18⟩) .nil ⟨225, 11, 225, 14⟩ ⟨225, 11, 225, 19⟩) (.var 1 "size" ⟨225, 23, 225, 27⟩) ⟨225, 11, 225, 27⟩) (.cons (.raise "BadShape" none .nil ⟨226, 18, 226, 26⟩ ⟨226, 18, 226, 28⟩ ⟨226, 12, 226, 28⟩)
    .nil) .nil ⟨225, 8, 226, 28⟩)
    .nil)
/-- _need_square -/
def ir19 : ISs :=
    (.cons (.asg (.one 1 "size" ⟨221, 4, 221, 8⟩) (.bi false .len (.var 0 "rows" ⟨221, 15, 221, 19⟩) .nil ⟨221, 11, 221, 14⟩ ⟨221, 11, 221, 20⟩) ⟨221, 4, 221, 20⟩)
    (.cons (.ite (.or (.cmp .lt (.var 1 "size" ⟨222, 7, 222, 11⟩) (.int (1) 0 ⟨222, 14, 222, 15⟩) ⟨222, 7, 222, 15⟩) (.cons (.cmp .gt (.var 1 "size" ⟨222, 19, 222, 23⟩) (.gint (40) "MOST_PLACES" ⟨222, 26, 222, 37⟩) ⟨222, 19, 222, 37⟩) .nil) ⟨222, 7, 222, 37⟩) (.cons (.raise "BadShape" none .nil ⟨223, 14, 223, 22⟩ ⟨223, 14, 223, 24⟩ ⟨223, 8, 223, 24⟩)
    .nil) .nil ⟨222, 4, 223, 24⟩)
    (.cons (.for_ (.one 2 "row" ⟨224, 8, 224, 11⟩) (.of (.var 0 "rows" ⟨224, 15, 224, 19⟩)) b19_0 ⟨224, 4, 226, 28⟩)
    .nil)))
def f19 : Fn := ⟨"_need_square", 1, ["rows", "size", "row"], defScope (topS 31), ir19⟩
theorem irOk19 : ir19.ss = defBody (topS 31) := by rfl
/-- _law_let -/
def ir20 : ISs :=
    (.cons (.ite (.cmp .eq (.var 0 "shape" ⟨415, 7, 415, 12⟩) (.int (2) 0 ⟨415, 16, 415, 17⟩) ⟨415, 7, 415, 17⟩) (.cons (.ret (.cmp .ne (.var 1 "i" ⟨416, 15, 416, 16⟩) (.var 2 "j" ⟨416, 20, 416, 21⟩) ⟨416, 15, 416, 21⟩) ⟨416, 8, 416, 21⟩)
    .nil) .nil ⟨415, 4, 416, 21⟩)
    (.cons (.ite (.cmp .eq (.var 0 "shape" ⟨417, 7, 417, 12⟩) (.int (3) 0 ⟨417, 16, 417, 17⟩) ⟨417, 7, 417, 17⟩) (.cons (.ret (.cmp .eq (.bin false .mod (.bi false .int (.bin false .add (.var 1 "i" ⟨418, 19, 418, 20⟩) (.var 2 "j" ⟨418, 23, 418, 24⟩) ⟨418, 19, 418, 24⟩) .nil ⟨418, 15, 418, 18⟩ ⟨418, 15, 418, 25⟩) (.int (2) 0 ⟨418, 28, 418, 29⟩) ⟨418, 15, 418, 29⟩) (.int (1) 0 ⟨418, 33, 418, 34⟩) ⟨418, 15, 418, 34⟩) ⟨418, 8, 418, 34⟩)
    .nil) .nil ⟨417, 4, 418, 34⟩)
    (.cons (.ite (.cmp .eq (.var 0 "shape" ⟨419, 7, 419, 12⟩) (.int (4) 0 ⟨419, 16, 419, 17⟩) ⟨419, 7, 419, 17⟩) (.cons (.ret (.cmp .le (.var 2 "j" ⟨420, 15, 420, 16⟩) (.bin false .add (.var 1 "i" ⟨420, 20, 420, 21⟩) (.int (1) 0 ⟨420, 24, 420, 25⟩) ⟨420, 20, 420, 25⟩) ⟨420, 15, 420, 25⟩) ⟨420, 8, 420, 25⟩)
    .nil) .nil ⟨419, 4, 420, 25⟩)
    (.cons (.ite (.cmp .eq (.var 0 "shape" ⟨421, 7, 421, 12⟩) (.int (5) 0 ⟨421, 16, 421, 17⟩) ⟨421, 7, 421, 17⟩) (.cons (.ret (.cmp .eq (.var 1 "i" ⟨422, 15, 422, 16⟩) (.int (0) 0 ⟨422, 20, 422, 21⟩) ⟨422, 15, 422, 21⟩) ⟨422, 8, 422, 21⟩)
    .nil) .nil ⟨421, 4, 422, 21⟩)
    (.cons (.ite (.cmp .eq (.var 0 "shape" ⟨423, 7, 423, 12⟩) (.int (6) 0 ⟨423, 16, 423, 17⟩) ⟨423, 7, 423, 17⟩) (.cons (.ret (.cmp .eq (.cmp .lt (.bin false .mul (.int (2) 0 ⟨424, 16, 424, 17⟩) (.var 1 "i" ⟨424, 20, 424, 21⟩) ⟨424, 16, 424, 21⟩) (.var 3 "size" ⟨424, 24, 424, 28⟩) ⟨424, 16, 424, 28⟩) (.cmp .lt (.bin false .mul (.int (2) 0 ⟨424, 34, 424, 35⟩) (.var 2 "j" ⟨424, 38, 424, 39⟩) ⟨424, 34, 424, 39⟩) (.var 3 "size" ⟨424, 42, 424, 46⟩) ⟨424, 34, 424, 46⟩) ⟨424, 15, 424, 47⟩) ⟨424, 8, 424, 47⟩)
    .nil) .nil ⟨423, 4, 424, 47⟩)
    (.cons (.ite (.cmp .eq (.var 0 "shape" ⟨425, 7, 425, 12⟩) (.int (7) 0 ⟨425, 16, 425, 17⟩) ⟨425, 7, 425, 17⟩) (.cons (.ret (.cmp .eq (.bin false .mod (.bi false .int (.bin false .add (.var 1 "i" ⟨426, 19, 426, 20⟩) (.var 2 "j" ⟨426, 23, 426, 24⟩) ⟨426, 19, 426, 24⟩) .nil ⟨426, 15, 426, 18⟩ ⟨426, 15, 426, 25⟩) (.int (2) 0 ⟨426, 28, 426, 29⟩) ⟨426, 15, 426, 29⟩) (.int (0) 0 ⟨426, 33, 426, 34⟩) ⟨426, 15, 426, 34⟩) ⟨426, 8, 426, 34⟩)
    .nil) .nil ⟨425, 4, 426, 34⟩)
    (.cons (.ret (.bl true 0 ⟨427, 11, 427, 15⟩) ⟨427, 4, 427, 15⟩)
    .nil)))))))
def f20 : Fn := ⟨"_law_let", 4, ["shape", "i", "j", "size"], defScope (topS 60), ir20⟩
theorem irOk20 : ir20.ss = defBody (topS 60) := by rfl
/-- Frac.__init__ -/
def ir21 : ISs :=
    (.cons (.ite (.cmp .eq (.var 2 "bottom" ⟨61, 11, 61, 17⟩) (.int (0) 0 ⟨61, 21, 61, 22⟩) ⟨61, 11, 61, 22⟩) (.cons (.raise "ZeroBottom" none .nil ⟨62, 18, 62, 28⟩ ⟨62, 18, 62, 30⟩ ⟨62, 12, 62, 30⟩)
    .nil) .nil ⟨61, 8, 62, 30⟩)
    (.cons (.asg (.one 3 "common" ⟨63, 8, 63, 14⟩) (.gcd false (.var 1 "top" ⟨63, 21, 63, 24⟩) (.var 2 "bottom" ⟨63, 26, 63, 32⟩) ⟨63, 17, 63, 20⟩ ⟨63, 17, 63, 33⟩) ⟨63, 8, 63, 33⟩)
    (.cons (.ite (.cmp .lt (.var 2 "bottom" ⟨64, 11, 64, 17⟩) (.int (0) 0 ⟨64, 20, 64, 21⟩) ⟨64, 11, 64, 21⟩) (.cons (.asg (.one 3 "common" ⟨65, 12, 65, 18⟩) (.neg (.var 3 "common" ⟨65, 22, 65, 28⟩) ⟨65, 21, 65, 28⟩) ⟨65, 12, 65, 28⟩)
    .nil) .nil ⟨64, 8, 65, 28⟩)
    (.cons (.setAt (.var 0 "self" ⟨66, 8, 66, 12⟩) "Frac" "top" (.bin false .fdiv (.var 1 "top" ⟨66, 19, 66, 22⟩) (.var 3 "common" ⟨66, 26, 66, 32⟩) ⟨66, 19, 66, 32⟩) ⟨66, 8, 66, 16⟩ ⟨66, 8, 66, 32⟩)
    (.cons (.setAt (.var 0 "self" ⟨67, 8, 67, 12⟩) "Frac" "bottom" (.bin false .fdiv (.var 2 "bottom" ⟨67, 22, 67, 28⟩) (.var 3 "common" ⟨67, 32, 67, 38⟩) ⟨67, 22, 67, 38⟩) ⟨67, 8, 67, 19⟩ ⟨67, 8, 67, 38⟩)
    .nil)))))
def f21 : Fn := ⟨"__init__", 3, ["self", "top", "bottom", "common"], defScope (methS (topS 20) 0), ir21⟩
theorem irOk21 : ir21.ss = defBody (methS (topS 20) 0) := by rfl
def b22_0 : ISs :=
    (.cons (.asg (.one 4 "total" ⟨363, 8, 363, 13⟩) (.bin false .add (.var 4 "total" ⟨363, 16, 363, 21⟩) (.bin false .mul (.bin false .mul (.var 5 "number" ⟨363, 24, 363, 30⟩) (.var 5 "number" ⟨363, 33, 363, 39⟩) ⟨363, 24, 363, 39⟩) (.bin false .fdiv (.var 3 "whole" ⟨363, 43, 363, 48⟩) (.var 6 "degree" ⟨363, 52, 363, 58⟩) ⟨363, 43, 363, 58⟩) ⟨363, 24, 363, 59⟩) ⟨363, 16, 363, 59⟩) ⟨363, 8, 363, 59⟩)
    .nil)
/-- stray_numbers -/
def ir22 : ISs :=
    (.cons (.asg (.one 3 "whole" ⟨360, 4, 360, 9⟩) (.call 29 "common_degree" (.var 0 "web" ⟨360, 26, 360, 29⟩) .nil ⟨360, 12, 360, 25⟩ ⟨360, 12, 360, 30⟩) ⟨360, 4, 360, 30⟩)
    (.cons (.asg (.one 4 "total" ⟨361, 4, 361, 9⟩) (.int (0) 0 ⟨361, 12, 361, 13⟩) ⟨361, 4, 361, 13⟩)
    (.cons (.for_ (.many [(5, "number", ⟨362, 8, 362, 14⟩), (6, "degree", ⟨362, 16, 362, 22⟩)] 0 ⟨362, 8, 362, 22⟩) (.zip (.var 1 "numbers" ⟨362, 30, 362, 37⟩) (.attr (.var 0 "web" ⟨362, 39, 362, 42⟩) "Web" "degrees" ⟨362, 39, 362, 50⟩) ⟨362, 26, 362, 29⟩ ⟨362, 26, 362, 51⟩) b22_0 ⟨362, 4, 363, 59⟩)
    (.cons (.asg (.one 7 "bottom" ⟨364, 4, 364, 10⟩) (.bin false .mul (.bin false .mul (.var 3 "whole" ⟨364, 13, 364, 18⟩) (.var 2 "scale" ⟨364, 21, 364, 26⟩) ⟨364, 13, 364, 26⟩) (.var 2 "scale" ⟨364, 29, 364, 34⟩) ⟨364, 13, 364, 34⟩) ⟨364, 4, 364, 34⟩)
    (.cons (.ret (.tup (.cons (.bin false .sub (.bin false .mul (.attr (.var 0 "web" ⟨365, 12, 365, 15⟩) "Web" "volume" ⟨365, 12, 365, 22⟩) (.var 4 "total" ⟨365, 25, 365, 30⟩) ⟨365, 12, 365, 30⟩) (.var 7 "bottom" ⟨365, 33, 365, 39⟩) ⟨365, 12, 365, 39⟩) (.cons (.var 7 "bottom" ⟨365, 41, 365, 47⟩) .nil)) 0 ⟨365, 11, 365, 48⟩) ⟨365, 4, 365, 48⟩)
    .nil)))))
def f22 : Fn := ⟨"stray_numbers", 3, ["web", "numbers", "scale", "whole", "total", "number", "degree", "bottom"], defScope (topS 50), ir22⟩
theorem irOk22 : ir22.ss = defBody (topS 50) := by rfl
def b23_0 : ISs :=
    (.cons (.asg (.one 5 "numbers" ⟨355, 8, 355, 15⟩) (.call 30 "dealt" (.var 4 "rows" ⟨355, 24, 355, 28⟩) (.cons (.var 5 "numbers" ⟨355, 30, 355, 37⟩) .nil) ⟨355, 18, 355, 23⟩ ⟨355, 18, 355, 38⟩) ⟨355, 8, 355, 38⟩)
    (.cons (.asg (.one 6 "scale" ⟨356, 8, 356, 13⟩) (.bin false .mul (.var 6 "scale" ⟨356, 16, 356, 21⟩) (.var 3 "whole" ⟨356, 24, 356, 29⟩) ⟨356, 16, 356, 29⟩) ⟨356, 8, 356, 29⟩)
    .nil))
/-- walked -/
def ir23 : ISs :=
    (.cons (.asg (.one 3 "whole" ⟨350, 4, 350, 9⟩) (.call 29 "common_degree" (.var 0 "web" ⟨350, 26, 350, 29⟩) .nil ⟨350, 12, 350, 25⟩ ⟨350, 12, 350, 30⟩) ⟨350, 4, 350, 30⟩)
    (.cons (.asg (.one 4 "rows" ⟨351, 4, 351, 8⟩) (.call 32 "step_numbers" (.var 0 "web" ⟨351, 24, 351, 27⟩) .nil ⟨351, 11, 351, 23⟩ ⟨351, 11, 351, 28⟩) ⟨351, 4, 351, 28⟩)
    (.cons (.asg (.one 5 "numbers" ⟨352, 4, 352, 11⟩) (.call 31 "begun" (.var 0 "web" ⟨352, 20, 352, 23⟩) (.cons (.var 1 "start" ⟨352, 25, 352, 30⟩) .nil) ⟨352, 14, 352, 19⟩ ⟨352, 14, 352, 31⟩) ⟨352, 4, 352, 31⟩)
    (.cons (.asg (.one 6 "scale" ⟨353, 4, 353, 9⟩) (.int (1) 0 ⟨353, 12, 353, 13⟩) ⟨353, 4, 353, 13⟩)
    (.cons (.for_ (.one 7 "_" ⟨354, 8, 354, 9⟩) (.rng1 (.var 2 "steps" ⟨354, 19, 354, 24⟩) ⟨354, 13, 354, 18⟩ ⟨354, 13, 354, 25⟩) b23_0 ⟨354, 4, 356, 29⟩)
    (.cons (.ret (.tup (.cons (.var 5 "numbers" ⟨357, 12, 357, 19⟩) (.cons (.var 6 "scale" ⟨357, 21, 357, 26⟩) .nil)) 0 ⟨357, 11, 357, 27⟩) ⟨357, 4, 357, 27⟩)
    .nil))))))
def f23 : Fn := ⟨"walked", 3, ["web", "start", "steps", "whole", "rows", "numbers", "scale", "_"], defScope (topS 48), ir23⟩
theorem irOk23 : ir23.ss = defBody (topS 48) := by rfl
/-- need_steps -/
def ir24 : ISs :=
    (.cons (.ite (.or (.cmp .lt (.var 0 "steps" ⟨335, 7, 335, 12⟩) (.int (0) 0 ⟨335, 15, 335, 16⟩) ⟨335, 7, 335, 16⟩) (.cons (.cmp .gt (.var 0 "steps" ⟨335, 20, 335, 25⟩) (.gint (60) "MOST_STEPS_shares" ⟨335, 28, 335, 45⟩) ⟨335, 20, 335, 45⟩) .nil) ⟨335, 7, 335, 45⟩) (.cons (.raise "OutOfRange" none (.cons (.var 0 "steps" ⟨336, 25, 336, 30⟩) .nil) ⟨336, 14, 336, 24⟩ ⟨336, 14, 336, 31⟩ ⟨336, 8, 336, 31⟩)
    .nil) .nil ⟨335, 4, 336, 31⟩)
    .nil)
def f24 : Fn := ⟨"need_steps", 1, ["steps"], defScope (topS 43), ir24⟩
theorem irOk24 : ir24.ss = defBody (topS 43) := by rfl
/-- need_place -/
def ir25 : ISs :=
    (.cons (.ite (.or (.cmp .lt (.var 1 "place" ⟨245, 7, 245, 12⟩) (.int (0) 0 ⟨245, 15, 245, 16⟩) ⟨245, 7, 245, 16⟩) (.cons (.cmp .ge (.var 1 "place" ⟨245, 20, 245, 25⟩) (.attr (.var 0 "web" ⟨245, 29, 245, 32⟩) "Web" "size" ⟨245, 29, 245, 37⟩) ⟨245, 20, 245, 37⟩) .nil) ⟨245, 7, 245, 37⟩) (.cons (.raise "BadPlace" none (.cons (.var 1 "place" ⟨246, 23, 246, 28⟩) .nil) ⟨246, 14, 246, 22⟩ ⟨246, 14, 246, 29⟩ ⟨246, 8, 246, 29⟩)
    .nil) .nil ⟨245, 4, 246, 29⟩)
    .nil)
def f25 : Fn := ⟨"need_place", 2, ["web", "place"], defScope (topS 36), ir25⟩
theorem irOk25 : ir25.ss = defBody (topS 36) := by rfl
/-- Frac.__add__ -/
def ir26 : ISs :=
    (.cons (.asg (.one 2 "more" ⟨88, 8, 88, 12⟩) (.call 33 "as_frac" (.var 1 "other" ⟨88, 23, 88, 28⟩) .nil ⟨88, 15, 88, 22⟩ ⟨88, 15, 88, 29⟩) ⟨88, 8, 88, 29⟩)
    (.cons (.ret (.make false 21 "Frac" (.bin false .add (.bin false .mul (.attr (.var 0 "self" ⟨89, 20, 89, 24⟩) "Frac" "top" ⟨89, 20, 89, 28⟩) (.attr (.var 2 "more" ⟨89, 31, 89, 35⟩) "Frac" "bottom" ⟨89, 31, 89, 42⟩) ⟨89, 20, 89, 42⟩) (.bin false .mul (.attr (.var 2 "more" ⟨89, 45, 89, 49⟩) "Frac" "top" ⟨89, 45, 89, 53⟩) (.attr (.var 0 "self" ⟨89, 56, 89, 60⟩) "Frac" "bottom" ⟨89, 56, 89, 67⟩) ⟨89, 45, 89, 67⟩) ⟨89, 20, 89, 67⟩) (.cons (.bin false .mul (.attr (.var 0 "self" ⟨89, 69, 89, 73⟩) "Frac" "bottom" ⟨89, 69, 89, 80⟩) (.attr (.var 2 "more" ⟨89, 83, 89, 87⟩) "Frac" "bottom" ⟨89, 83, 89, 94⟩) ⟨89, 69, 89, 94⟩) .nil) ⟨89, 15, 89, 19⟩ ⟨89, 15, 89, 95⟩) ⟨89, 8, 89, 95⟩)
    .nil))
def f26 : Fn := ⟨"__add__", 2, ["self", "other", "more"], defScope (methS (topS 20) 2), ir26⟩
theorem irOk26 : ir26.ss = defBody (methS (topS 20) 2) := by rfl
/-- _law_gcd -/
def ir27 : ISs :=
    (.cons (.asg (.one 0 "left" ⟨393, 4, 393, 8⟩) (.bi false .abs (.var 0 "left" ⟨393, 15, 393, 19⟩) .nil ⟨393, 11, 393, 14⟩ ⟨393, 11, 393, 20⟩) ⟨393, 4, 393, 20⟩)
    (.cons (.asg (.one 1 "right" ⟨394, 4, 394, 9⟩) (.bi false .abs (.var 1 "right" ⟨394, 16, 394, 21⟩) .nil ⟨394, 12, 394, 15⟩ ⟨394, 12, 394, 22⟩) ⟨394, 4, 394, 22⟩)
    (.cons (.while_ (.cmp .gt (.var 1 "right" ⟨395, 10, 395, 15⟩) (.int (0) 0 ⟨395, 18, 395, 19⟩) ⟨395, 10, 395, 19⟩) (.cons (.asg (.one 2 "rest" ⟨396, 8, 396, 12⟩) (.bin false .mod (.bi false .int (.var 0 "left" ⟨396, 19, 396, 23⟩) .nil ⟨396, 15, 396, 18⟩ ⟨396, 15, 396, 24⟩) (.var 1 "right" ⟨396, 27, 396, 32⟩) ⟨396, 15, 396, 32⟩) ⟨396, 8, 396, 32⟩)
    (.cons (.asg (.one 0 "left" ⟨397, 8, 397, 12⟩) (.var 1 "right" ⟨397, 15, 397, 20⟩) ⟨397, 8, 397, 20⟩)
    (.cons (.asg (.one 1 "right" ⟨398, 8, 398, 13⟩) (.var 2 "rest" ⟨398, 16, 398, 20⟩) ⟨398, 8, 398, 20⟩)
    .nil))) ⟨395, 4, 398, 20⟩)
    (.cons (.ret (.bi false .max (.int (1) 0 ⟨399, 15, 399, 16⟩) (.cons (.var 0 "left" ⟨399, 18, 399, 22⟩) .nil) ⟨399, 11, 399, 14⟩ ⟨399, 11, 399, 23⟩) ⟨399, 4, 399, 23⟩)
    .nil))))
def f27 : Fn := ⟨"_law_gcd", 2, ["left", "right", "rest"], defScope (topS 56), ir27⟩
theorem irOk27 : ir27.ss = defBody (topS 56) := by rfl
def e28_0 : IE :=
    .lc false (.bin false .mul (.ix (.var 0 "left" ⟨408, 16, 408, 20⟩) (.var 2 "k" ⟨408, 21, 408, 22⟩) ⟨408, 16, 408, 23⟩) (.ix (.var 1 "right" ⟨408, 26, 408, 31⟩) (.var 2 "k" ⟨408, 32, 408, 33⟩) ⟨408, 26, 408, 34⟩) ⟨408, 16, 408, 34⟩) (.one 2 "k" ⟨408, 39, 408, 40⟩) (.rng1 (.bi false .len (.var 0 "left" ⟨408, 54, 408, 58⟩) .nil ⟨408, 50, 408, 53⟩ ⟨408, 50, 408, 59⟩) ⟨408, 44, 408, 49⟩ ⟨408, 44, 408, 60⟩) .nil [("k", 2)] { kind := .function, names := [(".0", .«local»), ("k", .«local»), ("left", .free), ("right", .free)], isGenerator := false, isCoroutine := false, more := [] } ⟨408, 15, 408, 61⟩
/-- _law_dot -/
def ir28 : ISs :=
    (.cons (.ret (.bi false .sum e28_0 .nil ⟨408, 11, 408, 14⟩ ⟨408, 11, 408, 62⟩) ⟨408, 4, 408, 62⟩)
    .nil)
def f28 : Fn := ⟨"_law_dot", 2, ["left", "right", "k"], defScope (topS 58), ir28⟩
theorem irOk28 : ir28.ss = defBody (topS 58) := by rfl
def b29_0 : ISs :=
    (.cons (.asg (.one 1 "whole" ⟨340, 8, 340, 13⟩) (.gcd true (.var 1 "whole" ⟨340, 20, 340, 25⟩) (.var 2 "degree" ⟨340, 27, 340, 33⟩) ⟨340, 16, 340, 19⟩ ⟨340, 16, 340, 34⟩) ⟨340, 8, 340, 34⟩)
    .nil)
/-- common_degree -/
def ir29 : ISs :=
    (.cons (.asg (.one 1 "whole" ⟨338, 4, 338, 9⟩) (.int (1) 0 ⟨338, 12, 338, 13⟩) ⟨338, 4, 338, 13⟩)
    (.cons (.for_ (.one 2 "degree" ⟨339, 8, 339, 14⟩) (.of (.attr (.var 0 "web" ⟨339, 18, 339, 21⟩) "Web" "degrees" ⟨339, 18, 339, 29⟩)) b29_0 ⟨339, 4, 340, 34⟩)
    (.cons (.ret (.var 1 "whole" ⟨341, 11, 341, 16⟩) ⟨341, 4, 341, 16⟩)
    .nil)))
def f29 : Fn := ⟨"common_degree", 1, ["web", "whole", "degree"], defScope (topS 44), ir29⟩
theorem irOk29 : ir29.ss = defBody (topS 44) := by rfl
def e30_0 : IE :=
    .lc false (.bin false .mul (.var 3 "number" ⟨348, 17, 348, 23⟩) (.ix (.var 4 "row" ⟨348, 26, 348, 29⟩) (.var 2 "place" ⟨348, 30, 348, 35⟩) ⟨348, 26, 348, 36⟩) ⟨348, 17, 348, 36⟩) (.many [(3, "number", ⟨348, 41, 348, 47⟩), (4, "row", ⟨348, 49, 348, 52⟩)] 0 ⟨348, 41, 348, 52⟩) (.zip (.var 1 "numbers" ⟨348, 60, 348, 67⟩) (.var 0 "rows" ⟨348, 69, 348, 73⟩) ⟨348, 56, 348, 59⟩ ⟨348, 56, 348, 74⟩) .nil [("number", 3), ("row", 4)] { kind := .function, names := [(".0", .«local»), ("number", .«local»), ("row", .«local»), ("place", .free)], isGenerator := false, isCoroutine := false, more := [] } ⟨348, 16, 348, 75⟩
def e30_1 : IE :=
    .lc false (.bi false .sum e30_0 .nil ⟨348, 12, 348, 15⟩ ⟨348, 12, 348, 76⟩) (.one 2 "place" ⟨348, 81, 348, 86⟩) (.rng1 (.bi false .len (.var 0 "rows" ⟨348, 100, 348, 104⟩) .nil ⟨348, 96, 348, 99⟩ ⟨348, 96, 348, 105⟩) ⟨348, 90, 348, 95⟩ ⟨348, 90, 348, 106⟩) .nil [("place", 2)] { kind := .function, names := [(".0", .«local»), ("place", .cell), ("sum", .globalImplicit), ("zip", .globalImplicit), ("numbers", .free), ("rows", .free)], isGenerator := false, isCoroutine := false, more := [] } ⟨348, 11, 348, 107⟩
/-- dealt -/
def ir30 : ISs :=
    (.cons (.ret e30_1 ⟨348, 4, 348, 107⟩)
    .nil)
def f30 : Fn := ⟨"dealt", 2, ["rows", "numbers", "place", "number", "row"], defScope (topS 47), ir30⟩
theorem irOk30 : ir30.ss = defBody (topS 47) := by rfl
def e31_0 : IE :=
    .lc false (.bi false .int (.cmp .eq (.var 2 "place" ⟨346, 16, 346, 21⟩) (.var 1 "start" ⟨346, 25, 346, 30⟩) ⟨346, 16, 346, 30⟩) .nil ⟨346, 12, 346, 15⟩ ⟨346, 12, 346, 31⟩) (.one 2 "place" ⟨346, 36, 346, 41⟩) (.rng1 (.attr (.var 0 "web" ⟨346, 51, 346, 54⟩) "Web" "size" ⟨346, 51, 346, 59⟩) ⟨346, 45, 346, 50⟩ ⟨346, 45, 346, 60⟩) .nil [("place", 2)] { kind := .function, names := [(".0", .«local»), ("place", .«local»), ("int", .globalImplicit), ("start", .free)], isGenerator := false, isCoroutine := false, more := [] } ⟨346, 11, 346, 61⟩
/-- begun -/
def ir31 : ISs :=
    (.cons (.ret e31_0 ⟨346, 4, 346, 61⟩)
    .nil)
def f31 : Fn := ⟨"begun", 2, ["web", "start", "place"], defScope (topS 46), ir31⟩
theorem irOk31 : ir31.ss = defBody (topS 46) := by rfl
def e32_0 : IE :=
    .lc false (.bin false .mul (.var 4 "weight" ⟨344, 13, 344, 19⟩) (.bin false .fdiv (.var 1 "whole" ⟨344, 23, 344, 28⟩) (.var 3 "degree" ⟨344, 32, 344, 38⟩) ⟨344, 23, 344, 38⟩) ⟨344, 13, 344, 39⟩) (.one 4 "weight" ⟨344, 44, 344, 50⟩) (.of (.var 2 "row" ⟨344, 54, 344, 57⟩)) .nil [("weight", 4)] { kind := .function, names := [(".0", .«local»), ("weight", .«local»), ("degree", .free), ("whole", .free)], isGenerator := false, isCoroutine := false, more := [] } ⟨344, 12, 344, 58⟩
def e32_1 : IE :=
    .lc false e32_0 (.many [(2, "row", ⟨344, 63, 344, 66⟩), (3, "degree", ⟨344, 68, 344, 74⟩)] 0 ⟨344, 63, 344, 74⟩) (.zip (.attr (.var 0 "web" ⟨344, 82, 344, 85⟩) "Web" "rows" ⟨344, 82, 344, 90⟩) (.attr (.var 0 "web" ⟨344, 92, 344, 95⟩) "Web" "degrees" ⟨344, 92, 344, 103⟩) ⟨344, 78, 344, 81⟩ ⟨344, 78, 344, 104⟩) .nil [("row", 2), ("degree", 3)] { kind := .function, names := [(".0", .«local»), ("row", .«local»), ("degree", .cell), ("whole", .free)], isGenerator := false, isCoroutine := false, more := [] } ⟨344, 11, 344, 105⟩
/-- step_numbers -/
def ir32 : ISs :=
    (.cons (.asg (.one 1 "whole" ⟨343, 4, 343, 9⟩) (.call 29 "common_degree" (.var 0 "web" ⟨343, 26, 343, 29⟩) .nil ⟨343, 12, 343, 25⟩ ⟨343, 12, 343, 30⟩) ⟨343, 4, 343, 30⟩)
    (.cons (.ret e32_1 ⟨344, 4, 344, 105⟩)
    .nil))
def f32 : Fn := ⟨"step_numbers", 1, ["web", "whole", "row", "degree", "weight"], defScope (topS 45), ir32⟩
theorem irOk32 : ir32.ss = defBody (topS 45) := by rfl
/-- as_frac -/
def ir33 : ISs :=
    (.cons (.ite (.isC (.var 0 "value" ⟨50, 18, 50, 23⟩) "Frac" ⟨50, 25, 50, 29⟩ ⟨50, 7, 50, 17⟩ ⟨50, 7, 50, 30⟩) (.cons (.ret (.var 0 "value" ⟨51, 15, 51, 20⟩) ⟨51, 8, 51, 20⟩)
    .nil) .nil ⟨50, 4, 51, 20⟩)
    (.cons (.ret (.makeD false 21 "Frac" (.var 0 "value" ⟨52, 16, 52, 21⟩) .nil [1] ⟨52, 11, 52, 15⟩ ⟨52, 11, 52, 22⟩) ⟨52, 4, 52, 22⟩)
    .nil))
def f33 : Fn := ⟨"as_frac", 1, ["value"], defScope (topS 18), ir33⟩
theorem irOk33 : ir33.ss = defBody (topS 18) := by rfl
end K25
set_option Elab.async false
set_option linter.all false
set_option maxRecDepth 1000000
set_option maxHeartbeats 0
/-! K25Tab: the tables. -/
namespace K25
open PySem PySem.Spec PyProof.Rows L2 MP He
def subs : List ((Str × Str) × Bool) := [(("OutOfRange", "BadPlace"), false), (("OutOfRange", "GapError"), true), (("OutOfRange", "OutOfRange"), true), (("BadPlace", "BadPlace"), true), (("BadPlace", "GapError"), true), (("BadPlace", "OutOfRange"), false)]
def inss : List ((Str × Str) × Bool) := [(("int", "Frac"), false), (("NoneType", "Frac"), false), (("Frac", "Frac"), true), (("Web", "Frac"), false)]
def xfs : List (Str × Str) := [("BadPlace", "place"), ("OutOfRange", "value")]
def xcs : List (Str × List (Str × Bool)) := [("OutOfRange", [("value", false)]), ("BadPlace", [("place", true)])]
def fns : List Fn := [f0, f1, f2, f3, f4, f5, f6, f7, f8, f9, f10, f11, f12, f13, f14, f15, f16, f17, f18, f19, f20, f21, f22, f23, f24, f25, f26, f27, f28, f29, f30, f31, f32, f33]
def st : ST where
  T := mkTab fns subs xfs xcs inss
  tops := [(0, "law"), (1, "_law_range"), (2, "_law_place"), (3, "_law_draw"), (4, "_law_sums"), (6, "_law_drawn"), (7, "start_stray"), (8, "trace"), (9, "_law_whole"), (10, "_law_same"), (11, "_law_spread"), (12, "_law_power"), (13, "_law_closed"), (14, "_law_dealt"), (15, "_law_base"), (16, "_need_tied"), (17, "_need_symmetric"), (18, "_need_weights"), (19, "_need_square"), (20, "_law_let"), (22, "stray_numbers"), (23, "walked"), (24, "need_steps"), (25, "need_place"), (27, "_law_gcd"), (28, "_law_dot"), (29, "common_degree"), (30, "dealt"), (31, "begun"), (32, "step_numbers"), (33, "as_frac")]
  hots := [(9, "_law_whole")]
  cls := [("Frac", 21), ("Web", 5)]
  attrs := [("Frac", "bottom"), ("Frac", "top"), ("Web", "_ties"), ("Web", "degrees"), ("Web", "rows"), ("Web", "size"), ("Web", "volume")]
  xcs := xcs
  blt := ["abs", "bool", "enumerate", "int", "isinstance", "len", "list", "max", "range", "sum", "tuple", "zip"]
  gis := [("MOST_PLACES", 40), ("MOST_STEPS_shares", 60), ("MOST_WEIGHT", 1000000000000000000000000000000)]
  exn := ["BadPlace", "Frac", "GapError", "OutOfRange"]
  kws := [(7, 1, ["steps", "start"], [0, 2, 1]), (8, 1, ["steps"], [0, 1])]
  math := [("gcd", "math.gcd"), ("lcm", "math.lcm")]
  mets := [("Frac", "__add__", 26)]
  ops := ["Frac"]
  props := []
  dfs := [(21, [1])]
def d0 : DefD := ⟨("law", none), "law", "law", defArgs (topS 69), defBody (topS 69), defScope (topS 69), [], []⟩
def d1 : DefD := ⟨("_law_range", none), "_law_range", "_law_range", defArgs (topS 67), defBody (topS 67), defScope (topS 67), [], []⟩
def d2 : DefD := ⟨("_law_place", none), "_law_place", "_law_place", defArgs (topS 66), defBody (topS 66), defScope (topS 66), [], []⟩
def d3 : DefD := ⟨("_law_draw", none), "_law_draw", "_law_draw", defArgs (topS 54), defBody (topS 54), defScope (topS 54), [], []⟩
def d4 : DefD := ⟨("_law_sums", none), "_law_sums", "_law_sums", defArgs (topS 68), defBody (topS 68), defScope (topS 68), [], []⟩
def d5 : DefD := ⟨("Web", some "__init__"), "__init__", "Web.__init__", defArgs (methS (topS 37) 0), defBody (methS (topS 37) 0), defScope (methS (topS 37) 0), [], []⟩
def d6 : DefD := ⟨("_law_drawn", none), "_law_drawn", "_law_drawn", defArgs (topS 61), defBody (topS 61), defScope (topS 61), [], []⟩
def d7 : DefD := ⟨("start_stray", none), "start_stray", "start_stray", defArgs (topS 51), defBody (topS 51), defScope (topS 51), [], []⟩
def d8 : DefD := ⟨("trace", none), "trace", "trace", defArgs (topS 52), defBody (topS 52), defScope (topS 52), [], []⟩
def d9 : DefD := ⟨("_law_whole", none), "_law_whole", "_law_whole", defArgs (topS 55), defBody (topS 55), defScope (topS 55), [], []⟩
def d10 : DefD := ⟨("_law_same", none), "_law_same", "_law_same", defArgs (topS 57), defBody (topS 57), defScope (topS 57), [], []⟩
def d11 : DefD := ⟨("_law_spread", none), "_law_spread", "_law_spread", defArgs (topS 64), defBody (topS 64), defScope (topS 64), [], []⟩
def d12 : DefD := ⟨("_law_power", none), "_law_power", "_law_power", defArgs (topS 59), defBody (topS 59), defScope (topS 59), [], []⟩
def d13 : DefD := ⟨("_law_closed", none), "_law_closed", "_law_closed", defArgs (topS 65), defBody (topS 65), defScope (topS 65), [], []⟩
def d14 : DefD := ⟨("_law_dealt", none), "_law_dealt", "_law_dealt", defArgs (topS 63), defBody (topS 63), defScope (topS 63), [], []⟩
def d15 : DefD := ⟨("_law_base", none), "_law_base", "_law_base", defArgs (topS 62), defBody (topS 62), defScope (topS 62), [], []⟩
def d16 : DefD := ⟨("_need_tied", none), "_need_tied", "_need_tied", defArgs (topS 34), defBody (topS 34), defScope (topS 34), [], []⟩
def d17 : DefD := ⟨("_need_symmetric", none), "_need_symmetric", "_need_symmetric", defArgs (topS 33), defBody (topS 33), defScope (topS 33), [], []⟩
def d18 : DefD := ⟨("_need_weights", none), "_need_weights", "_need_weights", defArgs (topS 32), defBody (topS 32), defScope (topS 32), [], []⟩
def d19 : DefD := ⟨("_need_square", none), "_need_square", "_need_square", defArgs (topS 31), defBody (topS 31), defScope (topS 31), [], []⟩
def d20 : DefD := ⟨("_law_let", none), "_law_let", "_law_let", defArgs (topS 60), defBody (topS 60), defScope (topS 60), [], []⟩
def d21 : DefD := ⟨("Frac", some "__init__"), "__init__", "Frac.__init__", defArgs (methS (topS 20) 0), defBody (methS (topS 20) 0), defScope (methS (topS 20) 0), [.int (1)], []⟩
def d22 : DefD := ⟨("stray_numbers", none), "stray_numbers", "stray_numbers", defArgs (topS 50), defBody (topS 50), defScope (topS 50), [], []⟩
def d23 : DefD := ⟨("walked", none), "walked", "walked", defArgs (topS 48), defBody (topS 48), defScope (topS 48), [], []⟩
def d24 : DefD := ⟨("need_steps", none), "need_steps", "need_steps", defArgs (topS 43), defBody (topS 43), defScope (topS 43), [], []⟩
def d25 : DefD := ⟨("need_place", none), "need_place", "need_place", defArgs (topS 36), defBody (topS 36), defScope (topS 36), [], []⟩
def d26 : DefD := ⟨("Frac", some "__add__"), "__add__", "Frac.__add__", defArgs (methS (topS 20) 2), defBody (methS (topS 20) 2), defScope (methS (topS 20) 2), [], []⟩
def d27 : DefD := ⟨("_law_gcd", none), "_law_gcd", "_law_gcd", defArgs (topS 56), defBody (topS 56), defScope (topS 56), [], []⟩
def d28 : DefD := ⟨("_law_dot", none), "_law_dot", "_law_dot", defArgs (topS 58), defBody (topS 58), defScope (topS 58), [], []⟩
def d29 : DefD := ⟨("common_degree", none), "common_degree", "common_degree", defArgs (topS 44), defBody (topS 44), defScope (topS 44), [], []⟩
def d30 : DefD := ⟨("dealt", none), "dealt", "dealt", defArgs (topS 47), defBody (topS 47), defScope (topS 47), [], []⟩
def d31 : DefD := ⟨("begun", none), "begun", "begun", defArgs (topS 46), defBody (topS 46), defScope (topS 46), [], []⟩
def d32 : DefD := ⟨("step_numbers", none), "step_numbers", "step_numbers", defArgs (topS 45), defBody (topS 45), defScope (topS 45), [], []⟩
def d33 : DefD := ⟨("as_frac", none), "as_frac", "as_frac", defArgs (topS 18), defBody (topS 18), defScope (topS 18), [], []⟩
def fn : List DefD := [d0, d1, d2, d3, d4, d5, d6, d7, d8, d9, d10, d11, d12, d13, d14, d15, d16, d17, d18, d19, d20, d21, d22, d23, d24, d25, d26, d27, d28, d29, d30, d31, d32, d33]
def x0 : DefD := ⟨("OutOfRange", some "__init__"), "__init__", "OutOfRange.__init__", defArgs (methS (topS 7) 0), defBody (methS (topS 7) 0), defScope (methS (topS 7) 0), [], []⟩
def x1 : DefD := ⟨("BadPlace", some "__init__"), "__init__", "BadPlace.__init__", defArgs (methS (topS 9) 0), defBody (methS (topS 9) 0), defScope (methS (topS 9) 0), [], []⟩
def kd : DefD := ⟨("_kept", none), "_kept", "_kept", defArgs (topS 3), defBody (topS 3), defScope (topS 3), [], []⟩
def xfn : List DefD := [x0, x1, kd]
theorem row0 : RowOk f0 d0 := ⟨irOk0.symm, rfl, rfl, ⟨rfl, rfl, rfl, by decide +kernel, by decide +kernel, by decide +kernel, by decide +kernel⟩, by decide +kernel, .plain rfl fun _ _ _ _ _ _ us hl => match us, hl with | [_], _ => rfl⟩
theorem row1 : RowOk f1 d1 := ⟨irOk1.symm, rfl, rfl, ⟨rfl, rfl, rfl, by decide +kernel, by decide +kernel, by decide +kernel, by decide +kernel⟩, by decide +kernel, .plain rfl fun _ _ _ _ _ _ us hl => match us, hl with | [_, _, _, _], _ => rfl⟩
theorem row2 : RowOk f2 d2 := ⟨irOk2.symm, rfl, rfl, ⟨rfl, rfl, rfl, by decide +kernel, by decide +kernel, by decide +kernel, by decide +kernel⟩, by decide +kernel, .plain rfl fun _ _ _ _ _ _ us hl => match us, hl with | [_, _, _], _ => rfl⟩
theorem row3 : RowOk f3 d3 := ⟨irOk3.symm, rfl, rfl, ⟨rfl, rfl, rfl, by decide +kernel, by decide +kernel, by decide +kernel, by decide +kernel⟩, by decide +kernel, .plain rfl fun _ _ _ _ _ _ us hl => match us, hl with | [_, _], _ => rfl⟩
theorem row4 : RowOk f4 d4 := ⟨irOk4.symm, rfl, rfl, ⟨rfl, rfl, rfl, by decide +kernel, by decide +kernel, by decide +kernel, by decide +kernel⟩, by decide +kernel, .plain rfl fun _ _ _ _ _ _ us hl => match us, hl with | [_, _, _, _], _ => rfl⟩
theorem row5 : RowOk f5 d5 := ⟨irOk5.symm, rfl, rfl, ⟨rfl, rfl, rfl, by decide +kernel, by decide +kernel, by decide +kernel, by decide +kernel⟩, by decide +kernel, .plain rfl fun _ _ _ _ _ _ us hl => match us, hl with | [_, _], _ => rfl⟩
theorem row6 : RowOk f6 d6 := ⟨irOk6.symm, rfl, rfl, ⟨rfl, rfl, rfl, by decide +kernel, by decide +kernel, by decide +kernel, by decide +kernel⟩, by decide +kernel, .plain rfl fun _ _ _ _ _ _ us hl => match us, hl with | [_, _, _], _ => rfl⟩
theorem row7 : RowOk f7 d7 := ⟨irOk7.symm, rfl, rfl, ⟨rfl, rfl, rfl, by decide +kernel, by decide +kernel, by decide +kernel, by decide +kernel⟩, by decide +kernel, .plain rfl fun _ _ _ _ _ _ us hl => match us, hl with | [_, _, _], _ => rfl⟩
theorem row8 : RowOk f8 d8 := ⟨irOk8.symm, rfl, rfl, ⟨rfl, rfl, rfl, by decide +kernel, by decide +kernel, by decide +kernel, by decide +kernel⟩, by decide +kernel, .plain rfl fun _ _ _ _ _ _ us hl => match us, hl with | [_, _], _ => rfl⟩
theorem row9 : RowOk f9 d9 := ⟨irOk9.symm, rfl, rfl, ⟨rfl, rfl, rfl, by decide +kernel, by decide +kernel, by decide +kernel, by decide +kernel⟩, by decide +kernel, .plain rfl fun _ _ _ _ _ _ us hl => match us, hl with | [_], _ => rfl⟩
theorem row10 : RowOk f10 d10 := ⟨irOk10.symm, rfl, rfl, ⟨rfl, rfl, rfl, by decide +kernel, by decide +kernel, by decide +kernel, by decide +kernel⟩, by decide +kernel, .plain rfl fun _ _ _ _ _ _ us hl => match us, hl with | [_, _, _], _ => rfl⟩
theorem row11 : RowOk f11 d11 := ⟨irOk11.symm, rfl, rfl, ⟨rfl, rfl, rfl, by decide +kernel, by decide +kernel, by decide +kernel, by decide +kernel⟩, by decide +kernel, .plain rfl fun _ _ _ _ _ _ us hl => match us, hl with | [_, _, _], _ => rfl⟩
theorem row12 : RowOk f12 d12 := ⟨irOk12.symm, rfl, rfl, ⟨rfl, rfl, rfl, by decide +kernel, by decide +kernel, by decide +kernel, by decide +kernel⟩, by decide +kernel, .plain rfl fun _ _ _ _ _ _ us hl => match us, hl with | [_, _], _ => rfl⟩
theorem row13 : RowOk f13 d13 := ⟨irOk13.symm, rfl, rfl, ⟨rfl, rfl, rfl, by decide +kernel, by decide +kernel, by decide +kernel, by decide +kernel⟩, by decide +kernel, .plain rfl fun _ _ _ _ _ _ us hl => match us, hl with | [_, _], _ => rfl⟩
theorem row14 : RowOk f14 d14 := ⟨irOk14.symm, rfl, rfl, ⟨rfl, rfl, rfl, by decide +kernel, by decide +kernel, by decide +kernel, by decide +kernel⟩, by decide +kernel, .plain rfl fun _ _ _ _ _ _ us hl => match us, hl with | [_, _, _], _ => rfl⟩
theorem row15 : RowOk f15 d15 := ⟨irOk15.symm, rfl, rfl, ⟨rfl, rfl, rfl, by decide +kernel, by decide +kernel, by decide +kernel, by decide +kernel⟩, by decide +kernel, .plain rfl fun _ _ _ _ _ _ us hl => match us, hl with | [_], _ => rfl⟩
theorem row16 : RowOk f16 d16 := ⟨irOk16.symm, rfl, rfl, ⟨rfl, rfl, rfl, by decide +kernel, by decide +kernel, by decide +kernel, by decide +kernel⟩, by decide +kernel, .plain rfl fun _ _ _ _ _ _ us hl => match us, hl with | [_], _ => rfl⟩
theorem row17 : RowOk f17 d17 := ⟨irOk17.symm, rfl, rfl, ⟨rfl, rfl, rfl, by decide +kernel, by decide +kernel, by decide +kernel, by decide +kernel⟩, by decide +kernel, .plain rfl fun _ _ _ _ _ _ us hl => match us, hl with | [_], _ => rfl⟩
theorem row18 : RowOk f18 d18 := ⟨irOk18.symm, rfl, rfl, ⟨rfl, rfl, rfl, by decide +kernel, by decide +kernel, by decide +kernel, by decide +kernel⟩, by decide +kernel, .plain rfl fun _ _ _ _ _ _ us hl => match us, hl with | [_], _ => rfl⟩
theorem row19 : RowOk f19 d19 := ⟨irOk19.symm, rfl, rfl, ⟨rfl, rfl, rfl, by decide +kernel, by decide +kernel, by decide +kernel, by decide +kernel⟩, by decide +kernel, .plain rfl fun _ _ _ _ _ _ us hl => match us, hl with | [_], _ => rfl⟩
theorem row20 : RowOk f20 d20 := ⟨irOk20.symm, rfl, rfl, ⟨rfl, rfl, rfl, by decide +kernel, by decide +kernel, by decide +kernel, by decide +kernel⟩, by decide +kernel, .plain rfl fun _ _ _ _ _ _ us hl => match us, hl with | [_, _, _, _], _ => rfl⟩
theorem row21 : RowOk f21 d21 := ⟨irOk21.symm, rfl, rfl, ⟨rfl, rfl, rfl, by decide +kernel, by decide +kernel, by decide +kernel, by decide +kernel⟩, by decide +kernel, .dfl (by decide) fun _ _ _ _ _ _ _ us its hl hi => match us, its, hl, hi with | [_, _, _], [_], _, _ => ⟨_, rfl, rfl⟩⟩
theorem row22 : RowOk f22 d22 := ⟨irOk22.symm, rfl, rfl, ⟨rfl, rfl, rfl, by decide +kernel, by decide +kernel, by decide +kernel, by decide +kernel⟩, by decide +kernel, .plain rfl fun _ _ _ _ _ _ us hl => match us, hl with | [_, _, _], _ => rfl⟩
theorem row23 : RowOk f23 d23 := ⟨irOk23.symm, rfl, rfl, ⟨rfl, rfl, rfl, by decide +kernel, by decide +kernel, by decide +kernel, by decide +kernel⟩, by decide +kernel, .plain rfl fun _ _ _ _ _ _ us hl => match us, hl with | [_, _, _], _ => rfl⟩
theorem row24 : RowOk f24 d24 := ⟨irOk24.symm, rfl, rfl, ⟨rfl, rfl, rfl, by decide +kernel, by decide +kernel, by decide +kernel, by decide +kernel⟩, by decide +kernel, .plain rfl fun _ _ _ _ _ _ us hl => match us, hl with | [_], _ => rfl⟩
theorem row25 : RowOk f25 d25 := ⟨irOk25.symm, rfl, rfl, ⟨rfl, rfl, rfl, by decide +kernel, by decide +kernel, by decide +kernel, by decide +kernel⟩, by decide +kernel, .plain rfl fun _ _ _ _ _ _ us hl => match us, hl with | [_, _], _ => rfl⟩
theorem row26 : RowOk f26 d26 := ⟨irOk26.symm, rfl, rfl, ⟨rfl, rfl, rfl, by decide +kernel, by decide +kernel, by decide +kernel, by decide +kernel⟩, by decide +kernel, .plain rfl fun _ _ _ _ _ _ us hl => match us, hl with | [_, _], _ => rfl⟩
theorem row27 : RowOk f27 d27 := ⟨irOk27.symm, rfl, rfl, ⟨rfl, rfl, rfl, by decide +kernel, by decide +kernel, by decide +kernel, by decide +kernel⟩, by decide +kernel, .plain rfl fun _ _ _ _ _ _ us hl => match us, hl with | [_, _], _ => rfl⟩
theorem row28 : RowOk f28 d28 := ⟨irOk28.symm, rfl, rfl, ⟨rfl, rfl, rfl, by decide +kernel, by decide +kernel, by decide +kernel, by decide +kernel⟩, by decide +kernel, .plain rfl fun _ _ _ _ _ _ us hl => match us, hl with | [_, _], _ => rfl⟩
theorem row29 : RowOk f29 d29 := ⟨irOk29.symm, rfl, rfl, ⟨rfl, rfl, rfl, by decide +kernel, by decide +kernel, by decide +kernel, by decide +kernel⟩, by decide +kernel, .plain rfl fun _ _ _ _ _ _ us hl => match us, hl with | [_], _ => rfl⟩
theorem row30 : RowOk f30 d30 := ⟨irOk30.symm, rfl, rfl, ⟨rfl, rfl, rfl, by decide +kernel, by decide +kernel, by decide +kernel, by decide +kernel⟩, by decide +kernel, .plain rfl fun _ _ _ _ _ _ us hl => match us, hl with | [_, _], _ => rfl⟩
theorem row31 : RowOk f31 d31 := ⟨irOk31.symm, rfl, rfl, ⟨rfl, rfl, rfl, by decide +kernel, by decide +kernel, by decide +kernel, by decide +kernel⟩, by decide +kernel, .plain rfl fun _ _ _ _ _ _ us hl => match us, hl with | [_, _], _ => rfl⟩
theorem row32 : RowOk f32 d32 := ⟨irOk32.symm, rfl, rfl, ⟨rfl, rfl, rfl, by decide +kernel, by decide +kernel, by decide +kernel, by decide +kernel⟩, by decide +kernel, .plain rfl fun _ _ _ _ _ _ us hl => match us, hl with | [_], _ => rfl⟩
theorem row33 : RowOk f33 d33 := ⟨irOk33.symm, rfl, rfl, ⟨rfl, rfl, rfl, by decide +kernel, by decide +kernel, by decide +kernel, by decide +kernel⟩, by decide +kernel, .plain rfl fun _ _ _ _ _ _ us hl => match us, hl with | [_], _ => rfl⟩
theorem rows : RowsOk fns fn := .cons row0 (.cons row1 (.cons row2 (.cons row3 (.cons row4 (.cons row5 (.cons row6 (.cons row7 (.cons row8 (.cons row9 (.cons row10 (.cons row11 (.cons row12 (.cons row13 (.cons row14 (.cons row15 (.cons row16 (.cons row17 (.cons row18 (.cons row19 (.cons row20 (.cons row21 (.cons row22 (.cons row23 (.cons row24 (.cons row25 (.cons row26 (.cons row27 (.cons row28 (.cons row29 (.cons row30 (.cons row31 (.cons row32 (.cons row33 (.nil))))))))))))))))))))))))))))))))))
theorem xrow0 : XRow ("OutOfRange", [("value", false)]) x0 := ⟨rfl, rfl, rfl, by decide, by decide +kernel, by decide, .cons rfl (by first | exact .name | exact .kept) (.nil rfl), ⟨rfl, rfl, rfl, by decide +kernel, by decide +kernel, by decide +kernel, by decide +kernel⟩, by decide +kernel, by decide +kernel, by decide +kernel, fun _ _ _ _ _ _ us hl => match us, hl with | [_, _], _ => rfl⟩
theorem xrow1 : XRow ("BadPlace", [("place", true)]) x1 := ⟨rfl, rfl, rfl, by decide, by decide +kernel, by decide, .cons rfl (by first | exact .name | exact .kept) (.nil rfl), ⟨rfl, rfl, rfl, by decide +kernel, by decide +kernel, by decide +kernel, by decide +kernel⟩, by decide +kernel, by decide +kernel, by decide +kernel, fun _ _ _ _ _ _ us hl => match us, hl with | [_, _], _ => rfl⟩
theorem krow : KRow kd := ⟨rfl, rfl, rfl, ⟨_, _, _, _, _, _, _, _, rfl⟩, ⟨rfl, rfl, rfl, by decide +kernel, by decide +kernel, by decide +kernel, by decide +kernel⟩, by decide +kernel, by decide +kernel, by decide +kernel, fun _ _ _ _ _ _ us hl => match us, hl with | [_], _ => rfl⟩
theorem xrows : ∀ (i : Nat) q, st.xcs[i]? = some q → ∃ d, xfn[i]? = some d ∧ XRow q d := fun i q h => by
  match i, h with
  | 0, h => cases h; exact ⟨x0, rfl, xrow0⟩
  | 1, h => cases h; exact ⟨x1, rfl, xrow1⟩
  | i + 2, h => cases h
theorem ok0 : (fns.all fun F => okSs st ⟨F.N, F.sc, true⟩ F.body) = true := by decide +kernel
theorem kw0 : ∃ d F, fn[7]? = some d ∧ fns[7]? = some F ∧ d.dfl = [] ∧ ∀ (kV doc pm : Value) (an : Option Addr) (cdv ct : Value) (us ws zs : List Value), us.length = 1 → ws.length = 2 → (([0, 2, 1] : List Nat).mapM fun i => (us ++ ws)[i]?) = some zs →
    bindArgs (PySem.W.fnOf d.name d.qual d.params d.body d.scope .none kV doc pm an cdv ct) ⟨us, (["steps", "start"] : List Str).zip ws⟩ = pure ((F.N.take F.np).zip zs) :=
  ⟨d7, f7, rfl, rfl, rfl, fun _ _ _ _ _ _ us ws zs l1 l2 e => match us, ws, l1, l2, e with | [u0], [w0, w1], _, _, e => by cases e; rfl⟩
theorem kw1 : ∃ d F, fn[8]? = some d ∧ fns[8]? = some F ∧ d.dfl = [] ∧ ∀ (kV doc pm : Value) (an : Option Addr) (cdv ct : Value) (us ws zs : List Value), us.length = 1 → ws.length = 1 → (([0, 1] : List Nat).mapM fun i => (us ++ ws)[i]?) = some zs →
    bindArgs (PySem.W.fnOf d.name d.qual d.params d.body d.scope .none kV doc pm an cdv ct) ⟨us, (["steps"] : List Str).zip ws⟩ = pure ((F.N.take F.np).zip zs) :=
  ⟨d8, f8, rfl, rfl, rfl, fun _ _ _ _ _ _ us ws zs l1 l2 e => match us, ws, l1, l2, e with | [u0], [w0], _, _, e => by cases e; rfl⟩
theorem df0 : ∃ (d : DefD) (F : Fn) (j : Nat), fn[21]? = some d ∧ fns[21]? = some F ∧ d.dfl.drop j = ([1] : List Int).map Dv.int ∧ d.dfl ≠ [] ∧ ∃ n : Nat, n + (d.dfl.length - j) = (F.N.take F.np).length ∧
    ∀ (T : Addr) (kV doc pm : Value) (an : Option Addr) (cdv ct : Value) (us its : List Value), us.length = n → its.length = d.dfl.length →
      ∃ k, bindArgs (PySem.W.fnOf d.name d.qual d.params d.body d.scope (.ref T) kV doc pm an cdv ct) ⟨us, []⟩ = seqItems? (.ref T) >>= k ∧ k (some its.toArray) = pure ((F.N.take F.np).zip (us ++ its.drop j)) :=
  ⟨d21, f21, 0, rfl, rfl, rfl, by decide, 2, rfl, fun _ _ _ _ _ _ _ us its hl hi => match us, its, hl, hi with | [_, _], [_], _, _ => ⟨_, rfl, rfl⟩⟩
theorem mets0 : ∀ q ∈ st.mets, ∃ d F, fn[q.2.2]? = some d ∧ d.at_ = (q.1, some q.2.1) ∧ fns[q.2.2]? = some F := by
  intro q hq
  rcases List.mem_cons.mp hq with rfl | hq
  · exact ⟨d26, f26, rfl, rfl, rfl⟩
  cases hq
theorem stat : Stat st fns subs xfs inss fn xfn where
  T := rfl
  rows := rows
  xrows := xrows
  krow := fun _ => ⟨kd, 36, rfl, krow⟩
  mets := mets0
  props := rfl
  dfs := fun q hq => by
    rcases List.mem_cons.mp hq with rfl | hq
    · exact df0
    cases hq
  tops := tops_by (by decide +kernel)
  hots := by decide +kernel
  cls := cls_by (by decide +kernel)
  exn := exn_by (by decide +kernel)
  kws := fun q hq => by
    rcases List.mem_cons.mp hq with rfl | hq
    · exact kw0
    rcases List.mem_cons.mp hq with rfl | hq
    · exact kw1
    cases hq
  ok := ok0
  hot := hot_by (by decide +kernel)
end K25
set_option Elab.async false
set_option linter.all false
set_option maxRecDepth 100000
set_option maxHeartbeats 2000000
/-! K25Draw -/
namespace K25
open PySem PySem.Spec PyProof.Rows L2 MP DL
variable {n : Nat} {S : Store} {rows M : List (List Int)} {m : Nat} {B : Int}
theorem draw_ret {k : Nat} {ns : List Int} {x : Int} {ρ : MP.Env} (h : WF S) : sealS S.length (.go (.ret (RI x)) ρ (S.set k (pool ns))) = .ok (RI x) (S.set k (pool ns)) := by
  have e : S.length = (S.set k (pool ns)).length := by rw [List.length_set]
  have w : WF (S.set k (pool ns)) := wf_set h (below_dats _)
  rw [e]
  exact seal_dat w
theorem e_draw {ns : List Int} {k : Nat} {many : Int} (hS : S[k]? = some (pool ns)) (h0 : ∀ x ∈ ns, 0 ≤ x) (hm : 0 < many) (hl : many.natAbs.log2 < 9000) (h : WF S) :
    ∃ x ns', 0 ≤ x ∧ x < many ∧ (∀ y ∈ ns', 0 ≤ y) ∧ callN st.T (n + 1) 3 [.own k, RI many] S = .ok (RI x) (S.set k (pool ns')) := by
  have hk : k < S.length := (List.getElem?_eq_some_iff.mp hS).1
  have dk : divOk many = true := decide_eq_true ⟨hm, hl⟩
  have eS : S.set k (pool ns) = S := by
    rw [List.getElem?_eq_some_iff] at hS
    obtain ⟨h1, h2⟩ := hS
    rw [← h2, List.set_getElem_self]
  have eq := eq_pool hS (sh_ints ns)
  have cnd : ∀ p1 p2 p3 a2 a3, evE (st.T.C n).toCalls (.cmp .eq (.var 0 "pool" p1) (.lst false .nil p2) p3) [some (.own k), some (RI many), a2, a3] S = .ok (.dat (.bl ns.isEmpty)) S := fun p1 p2 p3 a2 a3 => by
    show cmpR .eq (.own k) (.dat (.lst [])) S = _
    show (match eqD S (.own k) (.dat (.lst [])) with
      | some c => Res.ok (R.dat (.bl c)) S
      | none => .stuck) = _
    rw [eq]
  cases ns with
  | nil =>
    refine ⟨0, [], Int.le_refl _, hm, (fun y hy => by cases hy), ?_⟩
    rw [eS]
    exact run_ret (F := f3) rfl rfl h (p_if (P := RetOk _ S) (cnd _ _ _ _ _) ⟨rfl, rfl⟩)
  | cons a as =>
    have ha : 0 ≤ a := h0 a List.mem_cons_self
    have q0 := ix_own (S := S) (t := 0) (r := RI a) hS rfl
    have q1 : ixR (.own k) (RI 0) S = .ok (RI a) S := q0
    have b1 : 0 ≤ a % many := Int.emod_nonneg _ (by omega)
    have b2 : a % many < many := Int.emod_lt_of_pos _ hm
    have b3 : 0 ≤ a / many := Int.ediv_nonneg ha (by omega)
    have told : ∀ p1 p2 p3 p4 p5 p6 p7 a2 a3, evE (st.T.C n).toCalls (.bin false .mod (.bi false .int (.ix (.var 0 "pool" p1) (.int 0 0 p2) p3) .nil p4 p5) (.var 1 "many" p6) p7) [some (.own k), some (RI many), a2, a3] S = .ok (RI (a % many)) S := fun p1 p2 p3 p4 p5 p6 p7 a2 a3 => by
      simp [evSs, evS, evE, evEs, evKs, evAnd, evOr, evTs, M.bind, M.pure, SRes.of, getV, truB, optI, MP.start, isTR, tyR, isTy, cmpR, biR, q1, binR, hm]
    have rest : ∀ p1 p2 p3 p4 p5 p6 p7 a2 a3, evE (st.T.C n).toCalls (.bin false .fdiv (.bi false .int (.ix (.var 0 "pool" p1) (.int 0 0 p2) p3) .nil p4 p5) (.var 1 "many" p6) p7) [some (.own k), some (RI many), a2, a3] S = .ok (RI (a / many)) S := fun p1 p2 p3 p4 p5 p6 p7 a2 a3 => by
      simp [evSs, evS, evE, evEs, evKs, evAnd, evOr, evTs, M.bind, M.pure, SRes.of, getV, truB, optI, MP.start, isTR, tyR, isTy, cmpR, biR, q1, binR, dk]
    have cn2 : ∀ p1 p2 p3 a2, evE (st.T.C n).toCalls (.cmp .eq (.var 3 "rest" p1) (.int 0 0 p2) p3) [some (.own k), some (RI many), a2, some (RI (a / many))] S = .ok (.dat (.bl (decide (a / many = 0)))) S := fun p1 p2 p3 a2 => by
      show (match eqD S (RI (a / many)) (RI 0) with
        | some c => Res.ok (R.dat (.bl c)) S
        | none => .stuck) = _
      rfl
    have hS2 : S[k]? = some (.lst (RI a :: (as.map D.int).map R.dat)) := hS
    by_cases hz : a / many = 0
    · refine ⟨a % many, as, b1, b2, fun y hy => h0 y (List.mem_cons_of_mem _ hy), ?_⟩
      have e : evSs (st.T.C n) f3.body (MP.start f3 [.own k, RI many]) S = .go (.ret (RI (a % many))) [some (.own k), some (RI many), some (RI (a % many)), some (RI (a / many))] (S.set k (pool as)) := by
        refine p_if (S1 := S) (P := fun x => x = _) (cnd _ _ _ _ _) ?_
        refine p_asg (S1 := S) (P := fun x => x = _) _ (told _ _ _ _ _ _ _ _ _) (p_asg (S1 := S) (P := fun x => x = _) _ (rest _ _ _ _ _ _ _ _ _) ?_)
        refine p_if (S1 := S) (P := fun x => x = _) (cn2 _ _ _ _) ?_
        rw [decide_eq_true hz, if_pos rfl]
        simp [evSs, evS, evE, evEs, evKs, evAnd, evOr, evTs, M.bind, M.pure, SRes.of, getV, truB, optI, MP.start, isTR, tyR, isTy, cmpR, biR, lmRecv, lmR, hS2, SRes.of, MP.start, f3, pool]
      exact run_call (F := f3) rfl rfl e (draw_ret h)
    · refine ⟨a % many, a / many :: as, b1, b2, fun y hy => ?_, ?_⟩
      · rcases List.mem_cons.mp hy with rfl | hy
        · exact b3
        · exact h0 y (List.mem_cons_of_mem _ hy)
      have e : evSs (st.T.C n) f3.body (MP.start f3 [.own k, RI many]) S = .go (.ret (RI (a % many))) [some (.own k), some (RI many), some (RI (a % many)), some (RI (a / many))] (S.set k (pool (a / many :: as))) := by
        refine p_if (S1 := S) (P := fun x => x = _) (cnd _ _ _ _ _) ?_
        refine p_asg (S1 := S) (P := fun x => x = _) _ (told _ _ _ _ _ _ _ _ _) (p_asg (S1 := S) (P := fun x => x = _) _ (rest _ _ _ _ _ _ _ _ _) ?_)
        refine p_if (S1 := S) (P := fun x => x = _) (cn2 _ _ _ _) ?_
        rw [decide_eq_false hz, if_neg Bool.false_ne_true]
        simp [evSs, evS, evE, evEs, evKs, evAnd, evOr, evTs, M.bind, M.pure, SRes.of, getV, truB, optI, MP.start, isTR, tyR, isTy, cmpR, biR, setIxR, ixN, hS2, SRes.of, MP.start, f3, pool]
      exact run_call (F := f3) rfl rfl e (draw_ret h)
theorem e_let {shape size : Int} {i j : Nat} (hi : i < 1000) (hj : j < 1000) (h : WF S) : ∃ b, callN st.T (n + 1) 20 [RI shape, RI (i : Int), RI (j : Int), RI size] S = .ok (.dat (.bl b)) S := by
  have m1 : mulOk 2 (i : Int) = true := mulOk_of (a := 3) (b := 10) (show (2 : Int).natAbs < 2 ^ 3 by decide) (by show (i : Int).natAbs < 2 ^ 10; omega) (by decide)
  have m2 : mulOk 2 (j : Int) = true := mulOk_of (a := 3) (b := 10) (show (2 : Int).natAbs < 2 ^ 3 by decide) (by show (j : Int).natAbs < 2 ^ 10; omega) (by decide)
  by_cases c2 : shape = 2
  · exact ⟨!decide ((i : Int) = j), run_ret (F := f20) rfl rfl h (by simp [RetOk, f20, ir20, evSs, evS, evE, evEs, evKs, evAnd, evOr, evTs, M.bind, M.pure, SRes.of, getV, truB, optI, MP.start, isTR, tyR, isTy, cmpR, biR, eqD, c2])⟩
  by_cases c3 : shape = 3
  · exact ⟨_, run_ret (F := f20) rfl rfl h (by simp [RetOk, f20, ir20, evSs, evS, evE, evEs, evKs, evAnd, evOr, evTs, M.bind, M.pure, SRes.of, getV, truB, optI, MP.start, isTR, tyR, isTy, cmpR, biR, eqD, c3, binR]; rfl)⟩
  by_cases c4 : shape = 4
  · exact ⟨_, run_ret (F := f20) rfl rfl h (by simp [RetOk, f20, ir20, evSs, evS, evE, evEs, evKs, evAnd, evOr, evTs, M.bind, M.pure, SRes.of, getV, truB, optI, MP.start, isTR, tyR, isTy, cmpR, biR, eqD, c4, binR]; rfl)⟩
  by_cases c5 : shape = 5
  · exact ⟨_, run_ret (F := f20) rfl rfl h (by simp [RetOk, f20, ir20, evSs, evS, evE, evEs, evKs, evAnd, evOr, evTs, M.bind, M.pure, SRes.of, getV, truB, optI, MP.start, isTR, tyR, isTy, cmpR, biR, eqD, c5, binR]; rfl)⟩
  by_cases c6 : shape = 6
  · exact ⟨_, run_ret (F := f20) rfl rfl h (by simp [RetOk, f20, ir20, evSs, evS, evE, evEs, evKs, evAnd, evOr, evTs, M.bind, M.pure, SRes.of, getV, truB, optI, MP.start, isTR, tyR, isTy, cmpR, biR, eqD, c6, binR, m1, m2]; rfl)⟩
  by_cases c7 : shape = 7
  · exact ⟨_, run_ret (F := f20) rfl rfl h (by simp [RetOk, f20, ir20, evSs, evS, evE, evEs, evKs, evAnd, evOr, evTs, M.bind, M.pure, SRes.of, getV, truB, optI, MP.start, isTR, tyR, isTy, cmpR, biR, eqD, c7, binR]; rfl)⟩
  exact ⟨true, run_ret (F := f20) rfl rfl h (by simp [RetOk, f20, ir20, evSs, evS, evE, evEs, evKs, evAnd, evOr, evTs, M.bind, M.pure, SRes.of, getV, truB, optI, MP.start, isTR, tyR, isTy, cmpR, biR, eqD, c2, c3, c4, c5, c6, c7])⟩
/-! ### the rows being filled -/
theorem e_zeros {C : Calls} {m : Nat} (hm : m ≤ 1000) {a0 a2 a3 a4 a5 a6 a7 a8 : Option R} : evE C e6_3 [a0, some (RI (m : Int)), a2, a3, a4, a5, a6, a7, a8] S = .ok (.own (S.length + m)) (stM S (List.replicate m (List.replicate m 0))) := by
  have hi : ∀ p1 p2 p3, evII C (.rng1 (.var 1 "size" p1) p2 p3) [a0, some (RI (m : Int)), a2, a3, a4, a5, a6, a7, a8] S = .ok (rngI 0 m, []) S := fun _ _ _ => ii_rng1 (n := m) rfl (by omega)
  unfold e6_3
  have hx : ∀ (p1 p2 p3 p4 p5 : Pos), ∀ x ∈ rngI 0 m, ∀ S', ∃ ρ', bindT (.one 8 "k" p5) x (wipeE [a0, some (RI (m : Int)), a2, a3, a4, a5, a6, a7, a8] [8]) S' = some ρ' ∧ evTs C .nil ρ' S' = .ok true S' ∧
      (MP.M.bind (evE C (.bin true .mul (.lst false (.cons (.int 0 0 p1) .nil) p2) (.var 1 "size" p3) p4) ρ') fun r => MP.M.pure [r]) S' = .ok [.own S'.length] (S' ++ [pool (List.replicate m 0)]) := by
    intro p1 p2 p3 p4 p5 x hx S'
    rw [rng_eq] at hx
    obtain ⟨k, hk, rfl⟩ := List.mem_map.mp hx
    refine ⟨_, rfl, rfl, ?_⟩
    have e : evE C (.bin true .mul (.lst false (.cons (.int 0 0 p1) .nil) p2) (.var 1 "size" p3) p4) [a0, some (RI (m : Int)), a2, a3, a4, a5, a6, a7, some (RI (0 + (k : Int)))] S' = .ok (.own S'.length) (S' ++ [pool (List.replicate m 0)]) := by
      show repL true (.dat (.lst [.int 0])) (m : Int) S' = _
      have q : itemsL S' (.dat (.lst [.int 0])) = some [RI 0] := rfl
      unfold repL
      rw [q]
      have h1 : small ([RI 0].length * (m : Int).toNat) = true := decide_eq_true (by simp; omega)
      simp only [h1]
      rw [if_pos ⟨trivial, by omega, by omega⟩]
      unfold mkL
      simp [pool]
    exact (bind_at e).trans rfl
  refine (bind_at (hi _ _ _)).trans ?_
  refine (bind_at (loop_new (S := S) (xs := rngI 0 m) (hx _ _ _ _ _))).trans ?_
  unfold lcOut
  have h2 : small (ownsR S.length (rngI 0 m).length).length = true := by
    unfold ownsR
    rw [List.length_map, List.length_range, rng_lenN]
    exact decide_eq_true (by omega)
  rw [if_pos h2]
  unfold mkL DL.stM
  simp [rng_lenN]
abbrev drE (m : Nat) (top shape : Int) (i j : Nat) (y z : Option R) : MP.Env := [some (.own 0), some (RI (m : Int)), some (RI top), some (RI shape), some (.own (1 + m)), some (RI (i : Int)), some (RI (j : Int)), y, z]
/-- rows[a][b] = w in any such environment -/
theorem e_put2 (g : Sq m B M) {ns : List Int} {w : Int} {i j : Nat} (hi : i < m) (hj : j < m) {C : CallsX} {e : IE} {ρ : MP.Env} {p1 p2 p3 p4 p5 p6 q1 q2 q3 q4 q5 q6 : Pos} (he : ∀ S, evE C.toCalls e ρ S = .ok (RI w) S) {e' : IE} (he' : ∀ S, evE C.toCalls e' ρ S = .ok (RI w) S)
    (h4 : ρ[4]? = some (some (.own (1 + m)))) (h5 : ρ[5]? = some (some (RI (i : Int)))) (h6 : ρ[6]? = some (some (RI (j : Int)))) :
    evSs C (.cons (.setIx (.ix (.var 4 "rows" p1) (.var 5 "i" p2) p3) (.var 6 "j" p4) e p5 p6) (.cons (.setIx (.ix (.var 4 "rows" q1) (.var 6 "j" q2) q3) (.var 5 "i" q4) e' q5 q6) .nil)) ρ (stM [pool ns] M) = .go .next ρ (stM [pool ns] (put2 M i j w)) := by
  have g4 : ∀ p S, evE C.toCalls (.var 4 "rows" p) ρ S = .ok (.own (1 + m)) S := fun p S => by
    show getV ρ 4 S = _
    unfold getV
    rw [h4]
    rfl
  have g5 : ∀ p S, evE C.toCalls (.var 5 "i" p) ρ S = .ok (RI (i : Int)) S := fun p S => by
    show getV ρ 5 S = _
    unfold getV
    rw [h5]
    rfl
  have g6 : ∀ p S, evE C.toCalls (.var 6 "j" p) ρ S = .ok (RI (j : Int)) S := fun p S => by
    show getV ρ 6 S = _
    unfold getV
    rw [h6]
    rfl
  refine (ss_next (r_put (m := m) (i := i) (j := j) (w := w) g.len (fun _ => c_ix (g4 _ _) (g5 _ _) rfl) (fun _ => g6 _ _) he (by rw [g.len]; exact hi) (by rw [g.row i hi]; exact hj))).trans ?_
  refine (ss_next (r_put (m := m) (i := j) (j := i) (w := w) (by rw [put_len]; exact g.len) (fun _ => c_ix (g4 _ _) (g6 _ _) rfl) (fun _ => g5 _ _) he' (by rw [put_len, g.len]; exact hj) (by rw [g.lenput hi hj]; exact hi))).trans rfl
theorem e_drawM {ns : List Int} {many : Int} (h0 : ∀ x ∈ ns, 0 ≤ x) (hm : 0 < many) (hl : many.natAbs.log2 < 9000) :
    ∃ x ns', 0 ≤ x ∧ x < many ∧ (∀ y ∈ ns', 0 ≤ y) ∧ callN st.T (n + 1) 3 [.own 0, RI many] (stM [pool ns] M) = .ok (RI x) (stM [pool ns'] M) := by
  have hS : (stM [pool ns] M)[0]? = some (pool ns) := by
    rw [stM_low (show 0 < [pool ns].length from Nat.zero_lt_one)]
    rfl
  obtain ⟨x, ns', a, b, c, d⟩ := e_draw (n := n) hS h0 hm hl (stM_wf (wf_pool ns))
  rw [stM_setlow (show 0 < [pool ns].length from Nat.zero_lt_one)] at d
  exact ⟨x, ns', a, b, c, d⟩
/-- while the entries are drawn -/
def Fl (m : Nat) (B top shape : Int) (iv : Option R) (ρ : MP.Env) (S : Store) : Prop := ∃ jv y z ns M, ρ = [some (.own 0), some (RI (m : Int)), some (RI top), some (RI shape), some (.own (1 + m)), iv, jv, y, z] ∧ S = stM [pool ns] M ∧ Sq m B M ∧ ∀ x ∈ ns, 0 ≤ x
theorem e_turn {top shape : Int} {i k : Nat} {ρ : MP.Env} {P : SRes → Prop} (hm : m ≤ 999) (h1 : 0 < top) (h2 : top ≤ B + 1) (hl : top.natAbs.log2 < 9000) (hi : i < m) (hk : k < m - i) (h : Fl m B top shape (some (RI (i : Int))) ρ S) :
    Turn (Fl m B top shape (some (RI (i : Int)))) P (evSs (st.T.C (n + 1)) b6_1 (ρ.set 6 (some (RI ((i : Int) + (k : Int))))) S) := by
  obtain ⟨jv, y, z, ns, M, rfl, rfl, g, h0⟩ := h
  rw [← Int.natCast_add]
  have hj : i + k < m := by omega
  generalize i + k = j at *
  show Turn _ _ (evSs _ _ (drE m top shape i j y z) _)
  obtain ⟨b, hb⟩ := e_let (n := n) (S := stM [pool ns] M) (shape := shape) (size := (m : Int)) (i := i) (j := j) (by omega) (by omega) (stM_wf (wf_pool ns))
  refine w_if b hb (fun _ => ?_) (fun _ => ⟨_, _, _, _, _, rfl, rfl, g, h0⟩)
  obtain ⟨x, ns', a1, a2, a3, a4⟩ := e_drawM (n := n) (M := M) h0 h1 hl
  have fin : ∀ (w : Int) (p1 p2 p3 p4 p5 p6 q1 q2 q3 q4 q5 q6 p7 q7 : Pos), 0 ≤ w → w < top → Turn (Fl m B top shape (some (RI (i : Int)))) P (evSs (st.T.C (n + 1)) (.cons (.setIx (.ix (.var 4 "rows" p1) (.var 5 "i" p2) p3) (.var 6 "j" p4) (.var 7 "weight" p7) p5 p6) (.cons (.setIx (.ix (.var 4 "rows" q1) (.var 6 "j" q2) q3) (.var 5 "i" q4) (.var 7 "weight" q7) q5 q6) .nil)) (drE m top shape i j (some (RI w)) z) (stM [pool ns'] M)) := fun w _ _ _ _ _ _ _ _ _ _ _ _ _ _ w0 w1 =>
    p_eq (e_put2 (w := w) g hi hj (fun _ => rfl) (fun _ => rfl) rfl rfl rfl) ⟨_, _, _, _, _, rfl, rfl, g.put2 hi hj w0 (by omega), a3⟩
  refine p_asg (RI x) a4 ?_
  refine w_if _ (c_and (x := !decide ((i : Int) = (j : Int))) (y := decide (99 < top)) rfl rfl) (fun t1 => ?_) (fun t1 => ?_)
  · have e : 99 < top := by
      rw [Bool.and_eq_true, decide_eq_true_iff] at t1
      exact t1.2
    refine p_asg (RI (top - 1 - x)) rfl ?_
    refine w_if _ (c_and (x := !decide ((i : Int) = (j : Int))) (y := decide (top < 99)) rfl rfl) (fun t2 => ?_) (fun t2 => fin _ _ _ _ _ _ _ _ _ _ _ _ _ _ _ (by omega) (by omega))
    rw [Bool.and_eq_true, decide_eq_true_iff] at t2
    omega
  · refine w_if _ (c_and (x := !decide ((i : Int) = (j : Int))) (y := decide (top < 99)) rfl rfl) (fun t2 => ?_) (fun t2 => fin _ _ _ _ _ _ _ _ _ _ _ _ _ _ _ a1 a2)
    refine p_asg (RI ((x + 1) % top)) ?_ (fin _ _ _ _ _ _ _ _ _ _ _ _ _ _ _ (Int.emod_nonneg _ (by omega)) (Int.emod_lt_of_pos _ h1))
    refine c_bin (x := RI (x + 1)) (y := RI top) rfl rfl ?_
    show (if 0 < top then MP.M.pure (RI ((x + 1) % top)) else MP.M.stuck) _ = _
    rw [if_pos h1]
    rfl
/-- while bare places are tied -/
def Fb (m : Nat) (B top shape : Int) (k : Nat) (ρ : MP.Env) (S : Store) : Prop := ∃ iv jv y z ns M, ρ = [some (.own 0), some (RI (m : Int)), some (RI top), some (RI shape), some (.own (1 + m)), iv, jv, y, z] ∧ S = stM [pool ns] M ∧ Sq m B M ∧ (∀ x ∈ ns, 0 ≤ x) ∧ ∀ a, a < k → 0 < (row M a).sum
theorem e_tie {top shape : Int} {i : Nat} {ρ : MP.Env} {P : SRes → Prop} (hB : 1 ≤ B) (hi : i < m) (h : Fb m B top shape i ρ S) :
    Turn (Fb m B top shape (i + 1)) P (evSs (st.T.C (n + 1)) b6_0 (ρ.set 5 (some (RI (0 + (i : Int))))) S) := by
  obtain ⟨iv, jv, y, z, ns, M, rfl, rfl, g, h0, hp⟩ := h
  rw [Int.zero_add]
  have hr := stM_row (S := [pool ns]) (M := M) (i := i) (by rw [g.len]; exact hi)
  have hs := sum_own (b := false) hr
  have ho := ix_outer (S := [pool ns]) (M := M) (i := i) (by rw [g.len]; exact hi)
  have h3 : [pool ns].length = 1 := rfl
  rw [h3] at hs ho
  rw [g.len] at ho
  refine w_if (decide ((row M i).sum = 0)) (c_cmp (c_bi1 (c_ix rfl rfl ho) hs) rfl rfl) (fun t => ?_) (fun t => ⟨_, _, _, _, _, _, rfl, rfl, g, h0, fun a ha => ?_⟩)
  · have fin : ∀ (ρ : MP.Env) (j : Nat) (p1 p2 p3 p4 p5 p6 q1 q2 q3 q4 q5 q6 p7 q7 : Pos), j < m → ρ = [some (.own 0), some (RI (m : Int)), some (RI top), some (RI shape), some (.own (1 + m)), some (RI (i : Int)), some (RI (j : Int)), y, z] → Turn (Fb m B top shape (i + 1)) P (evSs (st.T.C (n + 1)) (.cons (.setIx (.ix (.var 4 "rows" p1) (.var 5 "i" p2) p3) (.var 6 "j" p4) (.int 1 0 p7) p5 p6) (.cons (.setIx (.ix (.var 4 "rows" q1) (.var 6 "j" q2) q3) (.var 5 "i" q4) (.int 1 0 q7) q5 q6) .nil)) ρ (stM [pool ns] M)) := by
      intro ρ j _ _ _ _ _ _ _ _ _ _ _ _ _ _ hj e
      subst e
      have g' := g.put2 (w := 1) hi hj (by decide) hB
      refine p_eq (e_put2 (w := 1) g hi hj (fun _ => rfl) (fun _ => rfl) rfl rfl rfl) ⟨_, _, _, _, _, _, rfl, rfl, g', h0, fun a ha => ?_⟩
      by_cases e1 : a = i
      · exact g'.pos_of (b := j) (by omega) hj (by rw [g.ent2 hi hj, if_pos (Or.inl ⟨e1, rfl⟩)]; decide)
      · by_cases e2 : a = j
        · exact g'.pos_of (b := i) (by omega) hi (by rw [g.ent2 hi hj, if_pos (Or.inr ⟨e2, rfl⟩)]; decide)
        · rw [g.put2_row hi hj e1 e2]
          exact hp a (by omega)
    refine p_asg (RI ((i : Int) + 1)) rfl ?_
    refine w_if (decide ((i : Int) + 1 = (m : Int))) rfl (fun t => ?_) (fun t => ?_)
    · refine p_asg (RI (max 0 ((i : Int) - 1))) rfl (fin _ (i - 1) _ _ _ _ _ _ _ _ _ _ _ _ _ _ (by omega) ?_)
      rw [show max 0 ((i : Int) - 1) = ((i - 1 : Nat) : Int) by omega]
      rfl
    · have := of_decide_eq_false t
      exact fin _ (i + 1) _ _ _ _ _ _ _ _ _ _ _ _ _ _ (by omega) rfl
  · by_cases e1 : a = i
    · have h1 := of_decide_eq_false t
      have h2 := sum_nn _ (g.nn hi)
      rw [e1]
      omega
    · exact hp a (by omega)
theorem e_drawn {ns : List Int} {top : Int} (h0 : ∀ x ∈ ns, 0 ≤ x) (hm : m ≤ 999) (hB : 1 ≤ B) (h1 : 0 < top) (h2 : top ≤ B + 1) (hl : top.natAbs.log2 < 9000) :
    ∃ M ns', Sq m B M ∧ (∀ a, a < m → 0 < (row M a).sum) ∧ (∀ y ∈ ns', 0 ≤ y) ∧ callN st.T (n + 2) 6 [.own 0, RI (m : Int), RI top] [pool ns] = .ok (RM M) [pool ns'] := by
  refine run_q (F := f6) (fun r => ∃ M ns', Sq m B M ∧ (∀ a, a < m → 0 < (row M a).sum) ∧ (∀ y ∈ ns', 0 ≤ y) ∧ r = .ok (RM M) [pool ns']) rfl rfl ?_
  obtain ⟨shape, ns1, _, _, n1, d1⟩ := e_draw (n := n) (S := [pool ns]) (k := 0) (many := 8) rfl h0 (by decide) (by decide) (wf_pool ns)
  let P : SRes → Prop := fun x => ∃ M ns', Sq m B M ∧ (∀ a, a < m → 0 < (row M a).sum) ∧ (∀ y ∈ ns', 0 ≤ y) ∧ sealS 1 x = .ok (RM M) [pool ns']
  show P _
  refine p_asg (S1 := [pool ns1]) (RI shape) d1 ?_
  refine w_ifN (decide (8 < (m : Int))) (fun ρ S => ∃ shape : Int, ρ = [some (.own 0), some (RI (m : Int)), some (RI top), some (RI shape), none, none, none, none, none] ∧ S = [pool ns1]) rfl (fun _ => p_asg (RI 4) rfl ⟨4, rfl, rfl⟩) (fun _ => ⟨shape, rfl, rfl⟩) ?_
  intro ρ S ⟨shape, e1, e2⟩
  subst e1 e2
  refine p_asg _ (e_zeros (by omega)) ?_
  refine w_rng (n := m) (lo := 0) (fun k ρ S => ∃ iv, Fl m B top shape iv ρ S) (ii_rng1 (n := m) rfl (by omega)) ?_ (fun k ρ S hk ⟨iv, jv, y, z, ns, M, e1, e2, g, h0⟩ => ?_) (fun ρ S ⟨iv, jv, y, z, ns, M, e1, e2, g, h0⟩ => ?_)
  · exact ⟨none, none, none, none, ns1, _, rfl, rfl, sq_zero (by omega), n1⟩
  · subst e1 e2
    rw [Int.zero_add]
    refine w_rng (n := m - k) (lo := (k : Int)) (fun _ => Fl m B top shape (some (RI (k : Int)))) (ii_rng2 (i := k) (m := m) rfl rfl (by omega) (by omega)) ⟨_, _, _, _, _, rfl, rfl, g, h0⟩ (fun q ρ S hq hh => e_turn hm h1 h2 hl hk hq hh) (fun ρ S hh => ⟨_, hh⟩)
  · subst e1 e2
    refine w_rng (n := m) (lo := 0) (Fb m B top shape) (ii_rng1 (n := m) rfl (by omega)) ⟨_, _, _, _, _, _, rfl, rfl, g, h0, fun a ha => by omega⟩ (fun q ρ S hq hh => e_tie hB hq hh) (fun ρ S ⟨iv, jv, y, z, ns, M, e1, e2, g, h0, hp⟩ => ?_)
    subst e1 e2
    refine w_ret (v := .own (1 + m)) rfl ⟨M, ns, g, hp, h0, ?_⟩
    have hd := toD_rows (M := M) (ns := ns)
    rw [g.len] at hd
    exact seal_own (S := [pool ns]) (S0 := [pool ns]) rfl (wf_pool ns) (by show 1 ≤ 1 + m; omega) hd

end K25
set_option Elab.async false
set_option linter.all false
set_option maxRecDepth 100000
set_option maxHeartbeats 2000000
/-! K25Web -/
namespace K25
open PySem PySem.Spec PyProof.Rows L2 MP DL
variable {n : Nat} {S : Store} {rows : List (List Int)} {r : R} {qs : List R}
theorem e_square (g : Tied rows) (hr : Rep S r rows qs) (h : WF S) : callN st.T (n + 1) 19 [r] S = .ok (.dat .non) S := by
  have hz := g.le
  have hy := g.ge
  refine run_q (F := f19) (fun x => x = .ok (.dat .non) S) rfl rfl ?_
  let P : SRes → Prop := fun x => sealS S.length x = .ok (.dat .non) S
  show P _
  refine p_asg (RI rows.length) (c_bi1 (hr.var _ _ rfl) hr.len) ?_
  refine w_if0 (c_or (x := decide ((rows.length : Int) < 1)) (y := decide ((40 : Int) < rows.length)) rfl rfl) (by rw [decide_eq_false (by omega), decide_eq_false (by omega)]; rfl) ?_
  refine w_wk (fun _ ρ => ∃ y, ρ = [some r, some (RI rows.length), y]) (hr.var _ _ rfl) hr.toWk ⟨none, rfl⟩ (fun k z ρ hz ⟨y, e⟩ => ?_) (fun ρ ⟨y, e⟩ => seal_next h)
  subst e
  have hk := hr.lt hz
  have h1 := hr.at_ k z hz
  exact w_if0 (t := !decide (((row rows k).length : Int) = rows.length)) (c_cmp (x := RI (row rows k).length) (y := RI rows.length) (c_bi1 (h1.var _ _ rfl) h1.len) rfl rfl) (by rw [g.sq _ (row_mem hk), decide_eq_true rfl]; rfl) ⟨rfl, _, rfl⟩
theorem e_weights (g : Tied rows) (hr : Rep S r rows qs) (h : WF S) : callN st.T (n + 1) 18 [r] S = .ok (.dat .non) S := by
  refine run_q (F := f18) (fun x => x = .ok (.dat .non) S) rfl rfl ?_
  let P : SRes → Prop := fun x => sealS S.length x = .ok (.dat .non) S
  show P _
  refine w_wk (fun _ ρ => ∃ y z, ρ = [some r, y, z]) (hr.var _ _ rfl) hr.toWk ⟨none, none, rfl⟩ (fun k q ρ hq ⟨y, z, e⟩ => ?_) (fun ρ ⟨y, z, e⟩ => seal_next h)
  subst e
  have hk := hr.lt hq
  have h1 := hr.at_ k q hq
  refine w_wk (fun _ ρ => ∃ z, ρ = [some r, some q, z]) (h1.var _ _ rfl) h1.toWk ⟨z, rfl⟩ (fun j w ρ hw ⟨z, e⟩ => ?_) (fun ρ ⟨z, e⟩ => ⟨rfl, _, _, e⟩)
  subst e
  obtain ⟨hj, rfl⟩ := row_rin hw
  have h4 := g.w _ (row_mem hk) _ (el_mem hj)
  exact w_if0 (c_or (x := decide (el (row rows k) j < 0)) (y := decide (1000000000000000000000000000000 < el (row rows k) j)) rfl rfl) (by rw [decide_eq_false (by omega), decide_eq_false (by omega)]; rfl) ⟨rfl, _, rfl⟩
theorem e_symm (g : Tied rows) (hr : Rep S r rows qs) (h : WF S) : callN st.T (n + 1) 17 [r] S = .ok (.dat .non) S := by
  refine run_q (F := f17) (fun x => x = .ok (.dat .non) S) rfl rfl ?_
  let P : SRes → Prop := fun x => sealS S.length x = .ok (.dat .non) S
  show P _
  refine w_en (fun _ ρ => ∃ y z u v, ρ = [some r, y, z, u, v]) (hr.var _ _ rfl) hr.toLst ⟨none, none, none, none, rfl⟩ (fun k q ρ hq ⟨y, z, u, v, e⟩ => ?_) (fun ρ ⟨y, z, u, v, e⟩ => seal_next h)
  subst e
  have hk := hr.lt hq
  have h1 := hr.at_ k q hq
  refine w_en (fun _ ρ => ∃ y z, ρ = [some r, some (RI (k : Int)), some q, y, z]) (h1.var _ _ rfl) h1 ⟨u, v, rfl⟩ (fun j w ρ hw ⟨y, z, e⟩ => ?_) (fun ρ ⟨y, z, e⟩ => ⟨rfl, _, _, _, _, e⟩)
  subst e
  obtain ⟨hj, rfl⟩ := row_rin hw
  have h5 : j < rows.length := by rw [← g.sq _ (row_mem hk)]; exact hj
  have h4 := g.sym k j hk h5
  obtain ⟨q2, i1, h2⟩ := hr.ix h5
  exact w_if0 (t := !decide (el (row rows k) j = el (row rows j) k)) (c_cmp (x := RI (el (row rows k) j)) (y := RI (el (row rows j) k)) rfl (c_ix (c_ix (hr.var _ _ rfl) rfl i1) rfl (h2.ix (by rw [g.sq _ (row_mem h5)]; exact hk))) rfl) (by rw [decide_eq_true h4]; rfl) ⟨rfl, _, _, rfl⟩
theorem e_tied (g : Tied rows) (hr : Rep S r rows qs) (h : WF S) : callN st.T (n + 1) 16 [r] S = .ok (.dat .non) S := by
  refine run_q (F := f16) (fun x => x = .ok (.dat .non) S) rfl rfl ?_
  let P : SRes → Prop := fun x => sealS S.length x = .ok (.dat .non) S
  show P _
  refine w_en (fun _ ρ => ∃ y z, ρ = [some r, y, z]) (hr.var _ _ rfl) hr.toLst ⟨none, none, rfl⟩ (fun k q ρ hq ⟨y, z, e⟩ => ?_) (fun ρ ⟨y, z, e⟩ => seal_next h)
  subst e
  have hk := hr.lt hq
  have h1 := hr.at_ k q hq
  have h4 := g.pos _ (row_mem hk)
  exact w_if0 (t := decide ((row rows k).sum = 0)) (c_cmp (x := RI (row rows k).sum) (y := RI 0) (c_bi1 (h1.var _ _ rfl) h1.sum) rfl rfl) (decide_eq_false (by omega)) ⟨rfl, _, _, rfl⟩
theorem e_ties (g : Tied rows) (hr : Rep S r rows qs) {C : Calls} {s : Option R} : evE C e5_0 [s, some r, none, none, none, none] S = .ok (.dat (.lst (tiesOf rows))) S := by
  have hz := g.le
  unfold e5_0 tiesOf
  refine Eq.trans (lc2_fl (B := 40) (N := fun _ => rows.length) (G := fun i j => if i ≤ j ∧ 0 < el (row rows i) j then [D.tup [.int i, .int j, .int (el (row rows i) j)]] else []) (ii_en (hr.var _ 1 rfl) hr.toLst) hr.gd (fun i x hx => ?_) (by rw [DL.enum_len, hr.len']; omega)) (by rw [DL.enum_len, hr.len'])
  obtain ⟨q, h1, rfl⟩ := enum_at hx
  have hi := hr.lt h1
  have h2 := hr.at_ i q h1
  rw [Nat.zero_add]
  refine ⟨[s, some r, some (RI (i : Int)), some q, none, none], rfl, _, _, ii_en (h2.var _ 3 rfl) h2, h2.gd, by rw [DL.enum_len, List.length_map, List.length_map, g.sq _ (row_mem hi)], hz, fun j y hy => ?_⟩
  obtain ⟨w, k1, rfl⟩ := enum_at hy
  obtain ⟨hj, rfl⟩ := row_rin k1
  rw [Nat.zero_add]
  refine ⟨[s, some r, some (RI (i : Int)), some q, some (RI (j : Int)), some (RI (el (row rows i) j))], rfl, decide ((i : Int) ≤ j) && decide (0 < el (row rows i) j), ?_, fun t => ⟨.tup [.int i, .int j, .int (el (row rows i) j)], rfl, ?_⟩, fun t => ?_⟩
  · show MP.M.bind (evE C _ _) truB S = _
    rw [bind_at (c_and (x := decide ((i : Int) ≤ j)) (y := decide (0 < el (row rows i) j)) rfl rfl)]
    rfl
  · rw [Bool.and_eq_true, decide_eq_true_iff, decide_eq_true_iff] at t
    rw [if_pos ⟨by omega, t.2⟩]
  · rw [if_neg]
    intro z
    rw [decide_eq_true (by omega), decide_eq_true z.2] at t
    cases t
theorem e_tups (hr : Rep S r rows qs) {C : Calls} {s : Option R} (hz : rows.length ≤ 1000000) : evE C e5_2 [s, some r, none, none, none, none] S = .ok (.dat (.lst (rows.map TL))) S := by
  rw [map_row]
  exact lc_wk (hr.var _ 1 rfl) hr.toWk hr.len' (fun k z hz => c_bi1 ((hr.at_ k z hz).var _ 3 rfl) (hr.at_ k z hz).tuple) hz
theorem e_degs (hr : Rep S r rows qs) {C : Calls} {s : Option R} (hz : rows.length ≤ 1000000) : evE C e5_1 [s, some r, none, none, none, none] S = .ok (.dat (.lst ((degs rows).map D.int))) S := by
  unfold degs
  rw [List.map_map, map_row]
  exact lc_wk (hr.var _ 1 rfl) hr.toWk hr.len' (fun k z hz => c_bi1 ((hr.at_ k z hz).var _ 3 rfl) (hr.at_ k z hz).sum) hz
theorem e_init (g : Tied rows) (hr : Rep S r rows qs) (h : WF S) : callN st.T (n + 2) 5 [.own S.length, r] (S ++ [.obj "Web" [] []]) = .ok (.dat .non) (S ++ [Cell.obj "Web" ["rows", "size", "degrees", "volume", "_ties"] ([.tup (rows.map TL), .int rows.length, TL (degs rows), .int (degs rows).sum, .tup (tiesOf rows)].map R.dat)]) := by
  have hz := g.le
  have w0 : WF (S ++ [.obj "Web" [] []]) := wf_push h (below_dats [])
  have up : ∀ c, Rep (S ++ [c]) r rows qs := fun c => hr.mono Kp.app
  refine run_q (F := f5) (fun x => x = .ok (.dat .non) (S ++ [Cell.obj "Web" ["rows", "size", "degrees", "volume", "_ties"] ([.tup (rows.map TL), .int rows.length, TL (degs rows), .int (degs rows).sum, .tup (tiesOf rows)].map R.dat)])) rfl rfl ?_
  let P : SRes → Prop := fun x => sealS (S ++ [Cell.obj "Web" [] []]).length x = .ok (.dat .non) (S ++ [Cell.obj "Web" ["rows", "size", "degrees", "volume", "_ties"] ([.tup (rows.map TL), .int rows.length, TL (degs rows), .int (degs rows).sum, .tup (tiesOf rows)].map R.dat)])
  show P _
  refine w_expr (c_call1 ((up _).var _ 1 rfl) (e_square (n := n) g (up _) w0)) ?_
  refine w_expr (c_call1 ((up _).var _ 1 rfl) (e_weights (n := n) g (up _) w0)) ?_
  refine w_expr (c_call1 ((up _).var _ 1 rfl) (e_symm (n := n) g (up _) w0)) ?_
  refine w_expr (c_call1 ((up _).var _ 1 rfl) (e_tied (n := n) g (up _) w0)) ?_
  refine w_fld rfl (c_bi1 (e_tups (up _) (by omega)) tup_dat) (by decide) ?_
  refine w_fld rfl (c_bi1 ((up _).var _ 1 rfl) (up _).len) (by show 1 < 900; decide) ?_
  refine w_fld rfl (c_bi1 (e_degs (up _) (by omega)) tup_dat) (by show 2 < 900; decide) ?_
  refine w_fld rfl (v := RI (degs rows).sum) (c_bi1 (v := .dat (TL (degs rows))) (S1 := S ++ [_]) ?_ sum_tup) (by show 3 < 900; decide) ?_
  · refine c_attr (x := .own S.length) rfl ?_
    unfold attrR
    simp only [get_last]
    rfl
  refine w_fld rfl (c_bi1 (e_ties g (up _)) tup_dat) (by show 4 < 900; decide) ?_
  exact seal_obj (c := "Web") (ns := ["rows", "size", "degrees", "volume", "_ties"]) (ds := [.tup (rows.map TL), .int rows.length, TL (degs rows), .int (degs rows).sum, .tup (tiesOf rows)]) h
theorem e_make (g : Tied rows) (hr : Rep S r rows qs) (h : WF S) : makeR (st.T.C (n + 2)).toCalls false 5 "Web" [r] S = .ok (.dat (webOf rows)) S := make_dat h (e_init (n := n) g hr h)

end K25
set_option Elab.async false
set_option linter.all false
set_option maxRecDepth 100000
set_option maxHeartbeats 2000000
/-! K25Frac -/
namespace K25
open PySem PySem.Spec PyProof.Rows L2 MP DL
variable {n : Nat} {S : Store} {x y t b u v : Int}
theorem e_fracI (hy : 0 < y) {k : Nat} (hk : Sm k y) (hk2 : k < 9000) (h : WF S) : callN st.T (n + 1) 21 [.own S.length, RI x, RI y] (S ++ [.obj "Frac" [] []]) = .ok (.dat .non) (S ++ [Cell.obj "Frac" ["top", "bottom"] ([D.int (x / gc x y), .int (y / gc x y)].map R.dat)]) := by
  refine run_q (F := f21) (fun z => z = .ok (.dat .non) (S ++ [Cell.obj "Frac" ["top", "bottom"] ([D.int (x / gc x y), .int (y / gc x y)].map R.dat)])) rfl rfl ?_
  let P : SRes → Prop := fun z => sealS (S ++ [Cell.obj "Frac" [] []]).length z = .ok (.dat .non) (S ++ [Cell.obj "Frac" ["top", "bottom"] ([D.int (x / gc x y), .int (y / gc x y)].map R.dat)])
  show P _
  refine w_if0 (t := decide (y = 0)) rfl (decide_eq_false (by omega)) ?_
  refine p_asg (RI (gc x y)) (c_gcd (x := RI x) (y := RI y) rfl rfl rfl) ?_
  refine w_if0 (t := decide (y < 0)) rfl (decide_eq_false (by omega)) ?_
  have d := gc_div (x := x) hy hk hk2
  refine w_fld rfl (c_div (i := x) (j := gc x y) rfl rfl d) (by decide) ?_
  refine w_fld rfl (c_div (i := y) (j := gc x y) rfl rfl d) (by show 1 < 900; decide) ?_
  exact seal_obj (c := "Frac") (ns := ["top", "bottom"]) (ds := [D.int (x / gc x y), .int (y / gc x y)]) h
theorem e_frac (hy : 0 < y) {k : Nat} (hk : Sm k y) (hk2 : k < 9000) (h : WF S) : makeR (st.T.C (n + 1)).toCalls false 21 "Frac" [RI x, RI y] S = .ok (.dat (F x y)) S := make_dat h (e_fracI (n := n) hy hk hk2 h)
theorem e_asf (h : WF S) : callN st.T (n + 1) 33 [.dat (frD t b)] S = .ok (.dat (frD t b)) S :=
  run_ret (F := f33) rfl rfl h (w_if1 (t := true) rfl rfl (p_ret rfl))
theorem e_fadd (hb : 0 < b) (hv : 0 < v) {kt kb ku kv : Nat} (h1 : Sm kt t) (h2 : Sm kb b) (h3 : Sm ku u) (h4 : Sm kv v) (hk1 : kt + kv ≤ 999999) (hk2 : ku + kb ≤ 999999) (hk : kb + kv < 9000) (h : WF S) :
    callN st.T (n + 2) 26 [.dat (frD t b), .dat (frD u v)] S = .ok (.dat (F (t * v + u * b) (b * v))) S := by
  refine run_ret (F := f26) rfl rfl h ?_
  refine p_asg (.dat (frD u v)) (c_call1 rfl (e_asf (n := n) h)) ?_
  refine p_ret (c_make2 (v := RI (t * v + u * b)) (w := RI (b * v)) (c_add (c_mul rfl rfl (mulOk_of h1 h4 hk1)) (c_mul rfl rfl (mulOk_of h3 h2 hk2))) (c_mul rfl rfl (mulOk_of h2 h4 (by omega))) ?_)
  exact e_frac (n := n) (Int.mul_pos hb hv) (h2.mul h4) hk h
theorem e_whole (i : Int) (h : WF S) : callN st.T (n + 1) 9 [RI i] S = .ok (.dat (.bl true)) S :=
  run_ret (F := f9) rfl rfl h (p_ret (c_and (x := true) (y := true) rfl rfl))
theorem e_gcd (hy : 0 < y) (h : WF S) : callN st.T (n + 1) 27 [RI x, RI y] S = .ok (RI (gc x y)) S := by
  refine run_ret (F := f27) rfl rfl h ?_
  refine p_asg (RI (if x < 0 then -x else x)) rfl ?_
  refine p_asg (RI (if y < 0 then -y else y)) rfl ?_
  have ab : ∀ z : Int, (if z < 0 then -z else z) = (z.natAbs : Int) := fun z => by split <;> omega
  rw [ab x, ab y]
  refine w_while (fun ρ S' => S' = S ∧ ∃ (a b : Nat) (c : Option R), ρ = [some (RI (a : Int)), some (RI (b : Int)), c] ∧ Nat.gcd a b = Nat.gcd x.natAbs y.natAbs) (fun ρ _ => match ρ with
    | _ :: some (.dat (.int b)) :: _ => b.natAbs
    | _ => 0) ⟨rfl, _, _, _, rfl, rfl⟩ (fun ρ S' ⟨e1, a, b, c, e2, e3⟩ => ?_)
  subst e1 e2
  refine ⟨decide ((0 : Int) < (b : Int)), S', rfl, fun t => ?_, fun t => ?_⟩
  · have hb : b = 0 := by have := of_decide_eq_false t; omega
    subst hb
    rw [Nat.gcd_zero_right] at e3
    have e4 : gc x y = max 1 (a : Int) := by
      have := gc_pos (x := x) hy
      unfold gc at this ⊢
      rw [← e3] at this ⊢
      omega
    refine p_ret ?_
    rw [e4]
    rfl
  · have hb : 0 < b := by have := of_decide_eq_true t; omega
    refine ⟨[some (RI (b : Int)), some (RI ((a % b : Nat) : Int)), some (RI ((a % b : Nat) : Int))], S', ?_, ⟨rfl, _, _, _, rfl, ?_⟩, ?_⟩
    · have e5 : ((a : Int) % (b : Int)) = ((a % b : Nat) : Int) := (Int.natCast_emod a b).symm
      rw [← e5]
      exact p_asg (P := fun z => z = _) (RI ((a : Int) % (b : Int))) (c_mod (i := (a : Int)) (j := (b : Int)) rfl rfl (by omega)) (p_asg (P := fun z => z = _) (RI (b : Int)) rfl (p_asg (P := fun z => z = _) (RI ((a : Int) % (b : Int))) rfl rfl))
    · rw [← e3, Nat.gcd_comm a b, Nat.gcd_rec b a, Nat.gcd_comm]
    · show ((a % b : Nat) : Int).natAbs < (b : Int).natAbs
      have := Nat.mod_lt a hb
      omega
theorem e_same (hy : 0 < y) {k : Nat} (hk : Sm k y) (hk2 : k < 9000) (h : WF S) : callN st.T (n + 2) 10 [.dat (frD t b), RI x, RI y] S = .ok (.dat (.bl (decide (t = x / gc x y) && decide (b = y / gc x y)))) S := by
  refine run_ret (F := f10) rfl rfl h ?_
  refine w_if0 (t := !true) (c_not (x := true) rfl) rfl ?_
  refine w_if0 (t := false || false) (c_or (x := !true) (y := !true) (c_not (c_call1 (v := RI t) rfl (e_whole (n := n) t h))) (c_not (c_call1 (v := RI b) rfl (e_whole (n := n) b h)))) rfl ?_
  refine p_asg (RI (gc x y)) (c_call2 rfl rfl (e_gcd (n := n) hy h)) ?_
  have d := gc_div (x := x) hy hk hk2
  exact p_ret (c_and (c_cmp (x := RI t) rfl (c_div (i := x) (j := gc x y) rfl rfl d) rfl) (c_cmp (x := RI b) rfl (c_div (i := y) (j := gc x y) rfl rfl d) rfl))
theorem e_sameT (hb : 0 < v) (hy : 0 < y) (e : u * y = x * v) {k : Nat} (hk : Sm k y) (hk2 : k < 9000) (h : WF S) : callN st.T (n + 2) 10 [.dat (F u v), RI x, RI y] S = .ok (.dat (.bl true)) S := by
  have q := e_same (n := n) (t := u / gc u v) (b := v / gc u v) (x := x) hy hk hk2 h
  obtain ⟨h1, h2⟩ := low hb hy e
  rw [decide_eq_true h1, decide_eq_true h2] at q
  exact q

end K25
set_option Elab.async false
set_option linter.all false
set_option maxRecDepth 100000
set_option maxHeartbeats 2000000
/-! K25Walk -/
namespace K25
open PySem PySem.Spec PyProof.Rows L2 MP DL
variable {n : Nat} {S : Store} {rows : List (List Int)} {kd : Nat}
theorem a_rows : attrR (.dat (webOf rows)) "Web" "rows" S = .ok (.dat (.tup (rows.map TL))) S := rfl
theorem a_size : attrR (.dat (webOf rows)) "Web" "size" S = .ok (RI rows.length) S := rfl
theorem a_degs : attrR (.dat (webOf rows)) "Web" "degrees" S = .ok (.dat (TL (degs rows))) S := rfl
theorem a_vol : attrR (.dat (webOf rows)) "Web" "volume" S = .ok (RI (degs rows).sum) S := rfl
theorem e_nsteps {k : Nat} (hk : k ≤ 60) (h : WF S) : callN st.T (n + 1) 24 [RI (k : Int)] S = .ok (.dat .non) S := by
  refine run_q (F := f24) (fun x => x = .ok (.dat .non) S) rfl rfl ?_
  let P : SRes → Prop := fun x => sealS S.length x = .ok (.dat .non) S
  show P _
  exact w_if0 (c_or (x := decide ((k : Int) < 0)) (y := decide ((60 : Int) < k)) rfl rfl) (by rw [decide_eq_false (by omega), decide_eq_false (by omega)]; rfl) (seal_next h)
theorem e_nstepsX {k : Int} (hk : k < 0 ∨ 60 < k) (h : WF S) : callN st.T (n + 1) 24 [RI k] S = .exc "OutOfRange" ["value"] [.int k] S := by
  refine run_q (F := f24) (fun x => x = .exc "OutOfRange" ["value"] [.int k] S) rfl rfl ?_
  let P : SRes → Prop := fun x => sealS S.length x = .exc "OutOfRange" ["value"] [.int k] S
  show P _
  refine w_if1 (c_or (x := decide (k < 0)) (y := decide (60 < k)) rfl rfl) (by rcases hk with h | h <;> simp [h]) ?_
  exact w_raise1 (S1 := S) (X := ⟨[("value", false)]⟩) rfl rfl rfl (seal_exc h)
theorem e_place {b : Nat} (hb : b < rows.length) (h : WF S) : callN st.T (n + 1) 25 [.dat (webOf rows), RI (b : Int)] S = .ok (.dat .non) S := by
  refine run_q (F := f25) (fun x => x = .ok (.dat .non) S) rfl rfl ?_
  let P : SRes → Prop := fun x => sealS S.length x = .ok (.dat .non) S
  show P _
  exact w_if0 (c_or (x := decide ((b : Int) < 0)) (y := decide ((rows.length : Int) ≤ b)) rfl rfl) (by rw [decide_eq_false (by omega), decide_eq_false (by omega)]; rfl) (seal_next h)
theorem e_placeX {b : Int} (hb : b < 0 ∨ (rows.length : Int) ≤ b) (h : WF S) : callN st.T (n + 1) 25 [.dat (webOf rows), RI b] S = .exc "BadPlace" ["place"] [.int b] S := by
  refine run_q (F := f25) (fun x => x = .exc "BadPlace" ["place"] [.int b] S) rfl rfl ?_
  let P : SRes → Prop := fun x => sealS S.length x = .exc "BadPlace" ["place"] [.int b] S
  show P _
  refine w_if1 (c_or (x := decide (b < 0)) (y := decide ((rows.length : Int) ≤ b)) rfl rfl) (by rcases hb with h | h <;> simp [h]) ?_
  exact w_raise1 (S1 := S) (X := ⟨[("place", true)]⟩) rfl rfl rfl (seal_exc h)
theorem e_common (g : Net rows kd) (h : WF S) : callN st.T (n + 1) 29 [.dat (webOf rows)] S = .ok (RI (whole rows)) S := by
  refine run_ret (F := f29) rfl rfl h ?_
  refine p_asg (RI 1) rfl ?_
  have hb := g.b1
  have hk := g.kd_le
  refine w_wk (xs := ((degs rows).map D.int).map R.dat) (fun i ρ => i ≤ rows.length ∧ ∃ y, ρ = [some (.dat (webOf rows)), some (RI (cdeg ((degs rows).take i))), y]) (c_attr (x := .dat (webOf rows)) rfl a_degs) Wk.tup ⟨Nat.zero_le _, none, rfl⟩ (fun i z ρ hz ⟨hi, y, e⟩ => ?_) (fun ρ ⟨hi, y, e⟩ => ?_)
  · subst e
    obtain ⟨hj, rfl⟩ := row_rin hz
    rw [List.length_map] at hj
    have hd : (degs rows)[i]? = some (el (degs rows) i) := by
      unfold el
      rw [List.getElem?_eq_getElem (by rw [List.length_map]; exact hj)]
      rfl
    have s1 := cdeg_sm g.ds i (by rw [List.length_map]; exact hi)
    have s2 := g.ds _ (el_mem (by rw [List.length_map]; exact hj))
    have b3 : kd * i ≤ kd * rows.length := Nat.mul_le_mul_left kd hi
    refine p_asg (RI (cdeg ((degs rows).take (i + 1)))) ?_ ⟨rfl, hj, _, rfl⟩
    rw [cdeg_take hd]
    exact c_gcd (x := RI (cdeg ((degs rows).take i))) (y := RI (el (degs rows) i)) rfl rfl (lcm_run (by have := s1.log; omega) (by have := s2.log; omega))
  · subst e
    have e2 : (degs rows).take (((degs rows).map D.int).map R.dat).length = degs rows := by
      rw [List.length_map, List.length_map, List.take_length]
    rw [e2]
    exact p_ret rfl
theorem e_steps (g : Net rows kd) (h : WF S) : callN st.T (n + 2) 32 [.dat (webOf rows)] S = .ok (RM (stepRows rows)) S := by
  refine run_ret (F := f32) rfl rfl h ?_
  refine p_asg (RI (whole rows)) (c_call1 rfl (e_common (n := n) g h)) ?_
  refine p_ret ?_
  have hz := g.le
  unfold stepRows
  rw [show IL = fun x => IL x from rfl, List.map_map]
  refine lc_zp (xs := (rows.map TL).map R.dat) (ys := ((degs rows).map D.int).map R.dat) (G := fun k => IL ((List.range rows.length).map fun j => el (row rows k) j * (whole rows / (row rows k).sum))) (c_attr (x := .dat (webOf rows)) rfl a_rows) (c_attr (x := .dat (webOf rows)) rfl a_degs) Wk.tup Wk.tup (by rw [List.length_map, List.length_map]) (by rw [List.length_map, List.length_map, List.length_map]) (fun k z z' hz1 hz2 => ?_) (by omega)
  rw [List.getElem?_map] at hz1 hz2
  cases h1 : (rows.map TL)[k]? with
  | none => rw [h1] at hz1; cases hz1
  | some d =>
    rw [h1] at hz1
    cases hz1
    obtain ⟨hk, rfl⟩ := tl_at h1
    cases h2 : ((degs rows).map D.int)[k]? with
    | none => rw [h2] at hz2; cases hz2
    | some d =>
      rw [h2] at hz2
      cases hz2
      obtain ⟨_, rfl⟩ := dg_at h2
      rw [show IL ((List.range rows.length).map fun j => el (row rows k) j * (whole rows / (row rows k).sum)) = .lst ((List.range rows.length).map fun j => D.int (el (row rows k) j * (whole rows / (row rows k).sum))) by show D.lst _ = _; rw [List.map_map]; rfl]
      have hl := g.sq _ (row_mem hk)
      refine lc_wk (xs := ((row rows k).map D.int).map R.dat) (q := .dat (TL (row rows k))) rfl Wk.tup (by rw [List.length_map, List.length_map]; exact hl) (fun j z hz => ?_) (by omega)
      obtain ⟨hj, rfl⟩ := row_rin hz
      have m1 : mulOk (el (row rows k) j) (whole rows / (row rows k).sum) = true := mulOk_of (g.elw (row_mem hk) (el_mem hj)) (div_sm g.ws (g.pos _ (row_mem hk))) (by have := g.b1; have := g.kd_le; have hc : cb rows kd = 1 + kd * rows.length := rfl; omega)
      exact c_mul rfl (c_div rfl rfl (g.div (row_mem hk))) m1
theorem e_begun {b : Nat} (hz : rows.length ≤ 1000000) (h : WF S) : callN st.T (n + 1) 31 [.dat (webOf rows), RI (b : Int)] S = .ok (RL (unit rows.length b)) S := by
  refine run_ret (F := f31) rfl rfl h (p_ret ?_)
  unfold unit
  rw [RL_map]
  refine lc_rng (lo := 0) (ii_rng1 (c_attr (x := .dat (webOf rows)) rfl a_size) hz) (fun k hk => ?_) hz
  refine (c_bi1 (v := .dat (.bl (decide ((0 + (k : Int)) = (b : Int))))) rfl rfl).trans ?_
  by_cases hb : k = b
  · subst hb
    rw [decide_eq_true (by omega), if_pos rfl]
    rfl
  · rw [decide_eq_false (by omega), if_neg hb]
    rfl
theorem e_deal {rs : List (List Int)} {ns : List Int} {k1 k2 : Nat} (hn : ns.length = rs.length) (hq : ∀ r ∈ rs, r.length = rs.length) (hz : rs.length ≤ 1000000) (ha : ∀ x ∈ ns, Sm k1 x) (hb : ∀ r ∈ rs, ∀ x ∈ r, Sm k2 x) (hk : k1 + k2 ≤ 999999) (h : WF S) :
    callN st.T (n + 1) 30 [RM rs, RL ns] S = .ok (RL (deal rs ns)) S := by
  refine run_ret (F := f30) rfl rfl h (p_ret ?_)
  unfold deal
  rw [RL_map]
  refine lc_rng (lo := 0) (ii_rng1 (c_bi1 (v := RM rs) rfl Rep.dat.len) hz) (fun p hp => ?_) hz
  refine c_bi1 (v := .dat (.lst ((List.range rs.length).map fun k => D.int (el ns k * el (row rs k) p)))) ?_ sum_rng
  refine lc_zp (xs := (ns.map D.int).map R.dat) (ys := (rs.map IL).map R.dat) (q := RL ns) (q' := RM rs) rfl rfl Lst.dat.toWk Lst.dat.toWk (by rw [List.length_map, List.length_map]; exact hn) (by rw [List.length_map, List.length_map]) (fun k z z' h1 h2 => ?_) hz
  obtain ⟨hk1, rfl⟩ := row_rin h1
  obtain ⟨hk2, rfl⟩ := il_at h2
  have hp2 : p < (row rs k).length := by rw [hq _ (row_mem hk2)]; exact hp
  refine c_mul rfl (c_ix (x := RL (row rs k)) (y := RI (0 + (p : Int))) rfl rfl ?_) (mulOk_of (ha _ (el_mem hk1)) (hb _ (row_mem hk2) _ (el_mem hp2)) hk)
  rw [Int.zero_add]
  exact RowR.dat.ix hp2
theorem e_walked (g : Net rows kd) {b t : Nat} (ht : t ≤ 60) (hk : 1 + sb rows kd * (t + 1) ≤ 999990) (h : WF S) : callN st.T (n + 3) 23 [.dat (webOf rows), RI (b : Int), RI (t : Int)] S = .ok (.dat (.tup [IL (pw rows b t), .int (sc rows t)])) S := by
  have hz := g.le
  have hs : sb rows kd = kd + cb rows kd + 6 := rfl
  rw [Nat.mul_succ] at hk
  refine run_ret (F := f23) rfl rfl h ?_
  refine p_asg (RI (whole rows)) (c_call1 rfl (e_common (n := n + 1) g h)) ?_
  refine p_asg (RM (stepRows rows)) (c_call1 rfl (e_steps (n := n) g h)) ?_
  refine p_asg (RL (unit rows.length b)) (c_call2 rfl rfl (e_begun (n := n + 1) (by omega) h)) ?_
  refine p_asg (RI 1) rfl ?_
  refine w_rg (n := t) (lo := 0) (fun k ρ => ∃ y, ρ = [some (.dat (webOf rows)), some (RI (b : Int)), some (RI (t : Int)), some (RI (whole rows)), some (RM (stepRows rows)), some (RL (pw rows b k)), some (RI (sc rows k)), y]) (ii_rng1 (n := t) rfl (by omega)) ⟨none, rfl⟩ (fun k ρ hk1 ⟨y, e⟩ => ?_) (fun ρ ⟨y, e⟩ => ?_)
  · subst e
    have z1 : sb rows kd * k ≤ sb rows kd * t := Nat.mul_le_mul_left _ (by omega)
    have z2 : cb rows kd * k ≤ sb rows kd * k := Nat.mul_le_mul_right _ (by omega)
    refine p_asg (RL (pw rows b (k + 1))) (c_call2 rfl rfl (e_deal (n := n + 1) (k1 := 1 + sb rows kd * k) (k2 := kd + cb rows kd) (by rw [pw_len, sr_len]) (fun r hr => sr_sq hr) (by rw [sr_len]; omega) (pw_sm g b k) (fun r hr => sr_sm g hr) (by omega) h)) ?_
    exact p_asg (RI (sc rows (k + 1))) (c_mul rfl rfl (mulOk_of (sc_sm g k) g.ws (by omega))) ⟨rfl, _, rfl⟩
  · subst e
    exact p_ret (c_tup2 rfl rfl)
theorem e_stray (g : Net rows kd) {ns : List Int} {k1 ks : Nat} {s : Int} (hn : ns.length = rows.length) (ha : ∀ x ∈ ns, Sm k1 x) (hs : Sm ks s) (hk : k1 + k1 + cb rows kd + 6 + (kd + 6) ≤ 999999) (hk2 : cb rows kd + ks + ks ≤ 999999) (h : WF S) :
    callN st.T (n + 2) 22 [.dat (webOf rows), RL ns, RI s] S = .ok (.dat (.tup [.int (topP rows ns s), .int (botP rows s)])) S := by
  refine run_ret (F := f22) rfl rfl h ?_
  refine p_asg (RI (whole rows)) (c_call1 rfl (e_common (n := n) g h)) (p_asg (RI 0) rfl ?_)
  refine w_zp (xs := (ns.map D.int).map R.dat) (ys := ((degs rows).map D.int).map R.dat) (by rw [List.length_map, List.length_map, List.length_map, List.length_map, List.length_map]; exact hn) (fun i ρ => ∃ y z, ρ = [some (.dat (webOf rows)), some (RL ns), some (RI s), some (RI (whole rows)), some (RI (sm i (strayT rows ns))), y, z, none]) (q := RL ns) rfl (c_attr (x := .dat (webOf rows)) rfl a_degs) Lst.dat.toWk Wk.tup ⟨none, none, rfl⟩ (fun i z z' ρ h1 h2 ⟨y, y', e⟩ => ?_) (fun ρ ⟨y, z, e⟩ => ?_)
  · subst e
    obtain ⟨hi1, rfl⟩ := row_rin h1
    rw [List.getElem?_map] at h2
    cases h3 : ((degs rows).map D.int)[i]? with
    | none => rw [h3] at h2; cases h2
    | some d =>
      rw [h3] at h2
      cases h2
      obtain ⟨hi2, rfl⟩ := dg_at h3
      have s1 := ha _ (el_mem hi1)
      refine p_asg (RI (sm (i + 1) (strayT rows ns))) ?_ ⟨rfl, _, _, rfl⟩
      rw [sm_succ]
      exact c_add rfl (c_mul (c_mul rfl rfl (mulOk_of s1 s1 (by omega))) (c_div rfl rfl (g.div (row_mem hi2))) (mulOk_of (s1.mul s1) (div_sm g.ws (g.pos _ (row_mem hi2))) (by omega)))
  · subst e
    rw [List.length_map, List.length_map, hn]
    refine p_asg (RI (botP rows s)) (c_mul (c_mul rfl rfl (mulOk_of g.ws hs (by omega))) rfl (mulOk_of (g.ws.mul hs) hs hk2)) ?_
    exact p_ret (c_tup2 (c_sub (c_mul (c_attr (x := .dat (webOf rows)) rfl a_vol) rfl (mulOk_of g.vol (tot_sm g hn ha) (by omega))) rfl) rfl)

end K25
set_option Elab.async false
set_option linter.all false
set_option maxRecDepth 100000
set_option maxHeartbeats 2000000
/-! K25Trace -/
namespace K25
open PySem PySem.Spec PyProof.Rows L2 MP DL
variable {n : Nat} {S : Store} {rows : List (List Int)} {kd : Nat}
/-- what is asked of the bits for t steps -/
structure Fits (rows : List (List Int)) (kd t : Nat) : Prop where
  t60 : t ≤ 60
  mul : 2 * (1 + sb rows kd * (t + 1)) + sb rows kd + 20 ≤ 999990
  bot : cb rows kd + 2 * (1 + cb rows kd * t) < 9000
theorem e_sstray (g : Net rows kd) {b t : Nat} (hb : b < rows.length) (f : Fits rows kd t) (h : WF S) : callN st.T (n + 4) 7 [.dat (webOf rows), RI (b : Int), RI (t : Int)] S = .ok (.dat (F (topP rows (pw rows b t) (sc rows t)) (botP rows (sc rows t)))) S := by
  have hs : sb rows kd = kd + cb rows kd + 6 := rfl
  have f1 := f.mul
  have f2 := f.bot
  have f3 : sb rows kd * (t + 1) = sb rows kd * t + sb rows kd := Nat.mul_succ _ _
  refine run_ret (F := f7) rfl rfl h ?_
  refine w_expr (c_call2 rfl rfl (e_place (n := n + 2) hb h)) ?_
  refine w_expr (c_call1 rfl (e_nsteps (n := n + 2) f.t60 h)) ?_
  refine w_two (c_call3 rfl rfl rfl (e_walked (n := n) (b := b) g f.t60 (by omega) h)) ?_
  refine w_two (c_call3 rfl rfl rfl (e_stray (n := n + 1) g (pw_len rows b t) (pw_sm g b t) (sc_sm g t) (by omega) (by omega) h)) ?_
  exact p_ret (c_make2 rfl rfl (e_frac (n := n + 2) (botP_pos g.pos (sc_pos g.pos t)) (botP_sm g (sc_sm g t)) (by omega) h))
theorem e_sstrayB {b : Int} {t : R} (hb : b < 0 ∨ (rows.length : Int) ≤ b) (ht : ∃ d, t = .dat d) (h : WF S) : callN st.T (n + 2) 7 [.dat (webOf rows), RI b, t] S = .exc "BadPlace" ["place"] [.int b] S := by
  obtain ⟨d, rfl⟩ := ht
  refine run_q (F := f7) (fun x => x = .exc "BadPlace" ["place"] [.int b] S) rfl rfl ?_
  let P : SRes → Prop := fun x => sealS S.length x = .exc "BadPlace" ["place"] [.int b] S
  show P _
  exact w_exprX (c_call2 rfl rfl (e_placeX (n := n) hb h)) (seal_exc h)
theorem e_sstrayS {b : Nat} {t : Int} (hb : b < rows.length) (ht : t < 0 ∨ 60 < t) (h : WF S) : callN st.T (n + 2) 7 [.dat (webOf rows), RI (b : Int), RI t] S = .exc "OutOfRange" ["value"] [.int t] S := by
  refine run_q (F := f7) (fun x => x = .exc "OutOfRange" ["value"] [.int t] S) rfl rfl ?_
  let P : SRes → Prop := fun x => sealS S.length x = .exc "OutOfRange" ["value"] [.int t] S
  show P _
  refine w_expr (c_call2 rfl rfl (e_place (n := n) hb h)) ?_
  exact w_exprX (c_call1 rfl (e_nstepsX (n := n) ht h)) (seal_exc h)
theorem e_trace (g : Net rows kd) {t : Nat} (f : Fits rows kd t) (h : WF S) : callN st.T (n + 4) 8 [.dat (webOf rows), RI (t : Int)] S = .ok (.dat (F (trc rows t) (sc rows t))) S := by
  have hs : sb rows kd = kd + cb rows kd + 6 := rfl
  have f1 := f.mul
  have f2 := f.bot
  have hz := g.le
  have f3 : sb rows kd * (t + 1) = sb rows kd * t + sb rows kd := Nat.mul_succ _ _
  have f4 : cb rows kd * t ≤ sb rows kd * t := Nat.mul_le_mul_right _ (by omega)
  have sp := sc_pos g.pos t
  have ss := sc_sm g t
  refine run_ret (F := f8) rfl rfl h ?_
  refine w_expr (c_call1 rfl (e_nsteps (n := n + 2) f.t60 h)) ?_
  refine p_asg (.dat (F 0 1)) (c_makeD1 (v := RI 0) rfl (e_frac (n := n + 2) (x := 0) (y := 1) (k := 1) (by decide) (by show (1 : Int).natAbs < 2 ^ 1; decide) (by decide) h)) ?_
  rw [F_eq (v := sc rows t) (u := 0) (by decide : (0 : Int) < 1) sp (by rw [Int.zero_mul, Int.zero_mul])]
  refine w_rg (n := rows.length) (lo := 0) (fun k ρ => ∃ y z w, ρ = [some (.dat (webOf rows)), some (RI (t : Int)), some (.dat (F (sm k fun s => el (pw rows s t) s) (sc rows t))), y, z, w]) (ii_rng1 (n := rows.length) (c_attr (x := .dat (webOf rows)) rfl a_size) (by omega)) ⟨none, none, none, rfl⟩ (fun k ρ hk ⟨y, z, w, e⟩ => ?_) (fun ρ ⟨y, z, w, e⟩ => ?_)
  · subst e
    rw [Int.zero_add]
    refine w_two (c_call3 rfl rfl rfl (e_walked (n := n) (b := k) g f.t60 (by omega) h)) ?_
    have xs : Sm (1 + sb rows kd * t + 6) (sm k fun s => el (pw rows s t) s) := sm_sm (fun i hi => pw_sm g i t _ (el_mem (by rw [pw_len]; omega))) (by omega)
    have us : Sm (1 + sb rows kd * t) (el (pw rows k t) k) := pw_sm g k t _ (el_mem (by rw [pw_len]; exact hk))
    refine p_asg (.dat (F (sm (k + 1) fun s => el (pw rows s t) s) (sc rows t))) ?_ ⟨rfl, _, _, _, rfl⟩
    have q := e_fadd (n := n + 1) (S := S) (t := (sm k fun s => el (pw rows s t) s) / gc (sm k fun s => el (pw rows s t) s) (sc rows t)) (b := sc rows t / gc (sm k fun s => el (pw rows s t) s) (sc rows t)) (u := el (pw rows k t) k / gc (el (pw rows k t) k) (sc rows t)) (v := sc rows t / gc (el (pw rows k t) k) (sc rows t)) (bt_pos sp) (bt_pos sp) (div_sm xs (gc_pos sp)) (div_sm ss (gc_pos sp)) (div_sm us (gc_pos sp)) (div_sm ss (gc_pos sp)) (by omega) (by omega) (by omega) h
    rw [F_add sp sp (w := sm (k + 1) fun s => el (pw rows s t) s) sp (by rw [sm_succ]; grind)] at q
    exact c_opm rfl (c_make2 (c_ix (x := RL (pw rows k t)) (y := RI (k : Int)) rfl rfl (RowR.dat.ix (by rw [pw_len]; exact hk))) rfl (e_frac (n := n + 2) sp ss (by omega) h)) q
  · subst e
    exact p_ret rfl
theorem e_traceX {t : Int} (ht : t < 0 ∨ 60 < t) (h : WF S) : callN st.T (n + 2) 8 [.dat (webOf rows), RI t] S = .exc "OutOfRange" ["value"] [.int t] S := by
  refine run_q (F := f8) (fun x => x = .exc "OutOfRange" ["value"] [.int t] S) rfl rfl ?_
  let P : SRes → Prop := fun x => sealS S.length x = .exc "OutOfRange" ["value"] [.int t] S
  show P _
  exact w_exprX (c_call1 rfl (e_nstepsX (n := n) ht h)) (seal_exc h)

end K25
set_option Elab.async false
set_option linter.all false
set_option maxRecDepth 100000
set_option maxHeartbeats 2000000
/-! K25LawWalk -/
namespace K25
open PySem PySem.Spec PyProof.Rows L2 MP DL
variable {n : Nat} {S : Store} {rows : List (List Int)} {kd : Nat} {r : R} {qs : List R}
theorem e_dot {q q' : R} {a b : List Int} {k1 k2 : Nat} (h1 : RowR S q a) (h2 : RowR S q' b) (hl : a.length = b.length) (hz : a.length ≤ 1000000) (ha : ∀ x ∈ a, Sm k1 x) (hb : ∀ x ∈ b, Sm k2 x) (hk : k1 + k2 ≤ 999999) (h : WF S) : callN st.T (n + 1) 28 [q, q'] S = .ok (RI (sm a.length fun k => el a k * el b k)) S := by
  refine run_ret (F := f28) rfl rfl h (p_ret ?_)
  refine c_bi1 (v := .dat (.lst ((List.range a.length).map fun k => D.int (el a k * el b k)))) ?_ sum_rng
  refine lc_rng (lo := 0) (ii_rng1 (c_bi1 (h1.var _ 0 rfl) h1.len) hz) (fun k hk' => ?_) hz
  have g1 := h1.ix hk'
  have g2 := h2.ix (k := k) (by omega)
  rw [Int.zero_add]
  exact c_mul (c_ix (h1.var _ 0 rfl) (y := RI (k : Int)) rfl g1) (c_ix (h2.var _ 1 rfl) (y := RI (k : Int)) rfl g2) (mulOk_of (ha _ (el_mem hk')) (hb _ (el_mem (by omega))) hk)
theorem e_base (g : Net rows kd) (hr : Rep S r rows qs) (h : WF S) : callN st.T (n + 1) 15 [r] S = .ok (RI (ps rows)) S := by
  have hz := g.le
  have hb := g.b1
  refine run_ret (F := f15) rfl rfl h ?_
  refine p_asg (RI 1) rfl ?_
  refine w_wk (fun i ρ => i ≤ rows.length ∧ ∃ y, ρ = [some r, some (RI (ps (rows.take i))), y]) (hr.var _ 0 rfl) hr.toWk ⟨Nat.zero_le _, none, rfl⟩ (fun i z ρ hz ⟨hi, y, e⟩ => ?_) (fun ρ ⟨hi, y, e⟩ => ?_)
  · subst e
    have hj := hr.lt hz
    have h1 := hr.at_ i z hz
    have hd : rows[i]? = some (row rows i) := by
      unfold row
      rw [List.getElem?_eq_getElem hj]
      rfl
    have b3 : kd * i + kd ≤ kd * rows.length := by rw [← Nat.mul_succ]; exact Nat.mul_le_mul_left kd hj
    refine p_asg (RI (ps (rows.take (i + 1)))) ?_ ⟨rfl, hj, _, rfl⟩
    rw [ps_take hd]
    exact c_mul rfl (c_bi1 (h1.var _ 2 rfl) h1.sum) (mulOk_of (ps_sm g.v i hi) (g.v _ (row_mem hj)) (by omega))
  · subst e
    rw [hr.len', List.take_length]
    exact p_ret rfl
def wkD (rows : List (List Int)) (b t : Nat) : List D := (List.range t).map fun k => IL (W rows b k)
theorem wkD_at {b t k : Nat} (h : k < t) : ((wkD rows b t).map R.dat)[k]? = some (RL (W rows b k)) := by
  unfold wkD
  rw [List.getElem?_map, List.getElem?_map, List.getElem?_range h]
  rfl
theorem wkD_succ {b t : Nat} : wkD rows b (t + 1) = wkD rows b t ++ [IL (W rows b t)] := by
  unfold wkD
  rw [List.range_succ, List.map_append]
  rfl
theorem e_ldealt (g : Net rows kd) (hr : Rep S r rows qs) (h : WF S) {b many : Nat} (hm : many ≤ 130) (hk : 1 + sb rows kd * (many + 1) ≤ 999000) : callN st.T (n + 2) 14 [r, RI (b : Int), RI (many : Int)] S = .ok (.dat (.lst (wkD rows b (many + 1)))) S := by
  have hz := g.le
  have hs : sb rows kd = kd + cb rows kd + 6 := rfl
  rw [Nat.mul_succ] at hk
  have hcell : ∀ t, (S ++ [Cell.lst ((wkD rows b t).map R.dat)])[S.length]? = some (.lst ((wkD rows b t).map R.dat)) := fun t => by simp
  have hwf : ∀ t, WF (S ++ [Cell.lst ((wkD rows b t).map R.dat)]) := fun t => wf_push h (below_dats _)
  have up : ∀ t, Rep (S ++ [Cell.lst ((wkD rows b t).map R.dat)]) r rows qs := fun t => hr.mono Kp.app
  refine run_q (F := f14) (fun x => x = .ok (.dat (.lst (wkD rows b (many + 1)))) S) rfl rfl ?_
  let P : SRes → Prop := fun x => sealS S.length x = .ok (.dat (.lst (wkD rows b (many + 1)))) S
  show P _
  refine p_asg (RI rows.length) (c_bi1 (hr.var _ 0 rfl) hr.len) ?_
  refine p_asg (RI (ps rows)) (c_call1 (hr.var _ 0 rfl) (e_base (n := n) g hr h)) ?_
  refine p_asg (S1 := S) (RL (prt rows)) ?_ ?_
  · unfold prt
    show _ = Res.ok (R.dat (.lst ((rows.map fun r => ps rows / r.sum).map D.int))) S
    rw [List.map_map, map_row]
    exact lc_wk (hr.var _ 0 rfl) hr.toWk hr.len' (fun k z hz => c_div rfl (c_bi1 ((hr.at_ k z hz).var _ 11 rfl) (hr.at_ k z hz).sum) (g.div (row_mem (hr.lt hz)))) (by omega)
  refine p_asg (.own S.length) (S1 := S ++ [Cell.lst ((wkD rows b 1).map R.dat)]) ?_ ?_
  · have e3 : evE (st.T.C (n + 1)).toCalls e14_3 [some r, some (RI (b : Int)), some (RI (many : Int)), some (RI rows.length), some (RI (ps rows)), some (RL (prt rows)), none, none, none, none, none, none] S = .ok (RL (unit rows.length b)) S := by
      unfold unit
      rw [RLr]
      refine lc_rng (lo := 0) (ii_rng1 (n := rows.length) rfl (by omega)) (fun k hk => ?_) (by omega)
      refine (c_bi1 (v := .dat (.bl (decide ((0 + (k : Int)) = (b : Int))))) rfl rfl).trans ?_
      by_cases hb : k = b
      · subst hb
        rw [decide_eq_true (by omega), if_pos rfl]
        rfl
      · rw [decide_eq_false (by omega), if_neg hb]
        rfl
    show MP.M.bind (MP.M.bind (evE (st.T.C (n + 1)).toCalls e14_3 [some r, some (RI (b : Int)), some (RI (many : Int)), some (RI rows.length), some (RI (ps rows)), some (RL (prt rows)), none, none, none, none, none, none]) fun x => MP.M.bind (MP.M.pure []) fun xs => MP.M.pure (x :: xs)) (mkL true) S = _
    rw [MP.bind_assoc, bind_at e3]
    rfl
  refine w_rng (n := many) (lo := 0) (fun t ρ S' => ∃ y z, S' = S ++ [Cell.lst ((wkD rows b (t + 1)).map R.dat)] ∧ ρ = [some r, some (RI (b : Int)), some (RI (many : Int)), some (RI rows.length), some (RI (ps rows)), some (RL (prt rows)), some (.own S.length), y, z, none, none, none]) (ii_rng1 (n := many) rfl (by omega)) ⟨none, none, rfl, rfl⟩ (fun t ρ S' ht ⟨y, z, e1, e2⟩ => ?_) (fun ρ S' ⟨y, z, e1, e2⟩ => ?_)
  · subst e1 e2
    rw [Int.zero_add]
    have z1 : sb rows kd * t + sb rows kd ≤ sb rows kd * many := by rw [← Nat.mul_succ]; exact Nat.mul_le_mul_left _ ht
    refine p_asg (S1 := S ++ [Cell.lst ((wkD rows b (t + 1)).map R.dat)]) (RL (lwd rows (W rows b t))) ?_ ?_
    · unfold lwd
      rw [RLr]
      refine lc_rng (lo := 0) (ii_rng1 (n := rows.length) rfl (by omega)) (fun k hk' => ?_) (by omega)
      rw [Int.zero_add]
      have q0 := ix_own (hcell (t + 1)) (wkD_at (rows := rows) (b := b) (t := t + 1) (k := t) (by omega))
      have q1 := RowR.ix (S := S ++ [Cell.lst ((wkD rows b (t + 1)).map R.dat)]) RowR.dat (a := W rows b t) (k := k) (by rw [W_len]; exact hk')
      have q2 := RowR.ix (S := S ++ [Cell.lst ((wkD rows b (t + 1)).map R.dat)]) RowR.dat (a := prt rows) (k := k) (by rw [prt_len]; exact hk')
      exact c_mul (c_ix (c_ix (x := .own S.length) (y := RI (t : Int)) rfl rfl q0) (y := RI (k : Int)) rfl q1) (c_ix (x := RL (prt rows)) (y := RI (k : Int)) rfl rfl q2) (mulOk_of (W_sm g b t _ (el_mem (by rw [W_len]; exact hk'))) (prt_sm g _ (el_mem (by rw [prt_len]; exact hk'))) (by omega))
    have d2 : evE (st.T.C (n + 1)).toCalls e14_0 [some r, some (RI (b : Int)), some (RI (many : Int)), some (RI rows.length), some (RI (ps rows)), some (RL (prt rows)), some (.own S.length), some (RI (t : Int)), some (RL (lwd rows (W rows b t))), none, none, none] (S ++ [Cell.lst ((wkD rows b (t + 1)).map R.dat)]) = .ok (RL (W rows b (t + 1))) (S ++ [Cell.lst ((wkD rows b (t + 1)).map R.dat)]) := by
      show _ = Res.ok (RL (lws rows (W rows b t))) _
      unfold lws
      rw [RLr]
      refine lc_rng (lo := 0) (ii_rng1 (n := rows.length) rfl (by omega)) (fun k hk' => ?_) (by omega)
      rw [Int.zero_add]
      obtain ⟨x, i1, h1⟩ := (up (t + 1)).ix hk'
      have hl := g.sq _ (row_mem hk')
      have q := e_dot (n := n) h1 (RowR.dat (a := lwd rows (W rows b t))) (by rw [lwd_len]; exact hl) (by omega) (fun x hx => g.elw (row_mem hk') hx) (lwd_sm g b t) (by omega) (hwf (t + 1))
      rw [hl] at q
      exact c_call2 (c_ix ((up (t + 1)).var _ 0 rfl) (y := RI (k : Int)) rfl i1) rfl q
    refine p_next (r_expr (app_own (rs := (wkD rows b (t + 1)).map R.dat) rfl (hcell (t + 1)) d2 (hcell (t + 1)) ?_)) ?_
    · unfold wkD
      simp
      omega
    · refine ⟨_, _, ?_, rfl⟩
      rw [set_last, wkD_succ (t := t + 1), List.map_append]
      rfl
  · subst e1 e2
    refine w_ret (v := .own S.length) rfl ?_
    refine seal_own rfl h (Nat.le_refl _) ?_
    rw [toD_lst (hcell (many + 1)) (Nat.le_refl _), allD_dat]
    rfl
theorem degs_sm : (degs rows).sum = sm rows.length fun i => (row rows i).sum := by
  unfold sm degs
  rw [← map_row List.sum]
theorem e_spread (g : Net rows kd) (hr : Rep S r rows qs) {b t : Nat} (hk : 2 * (1 + sb rows kd * t) + cb rows kd + 6 + (kd + 6) ≤ 999999) (h : WF S) : callN st.T (n + 1) 11 [r, RL (W rows b t), RI (ps rows)] S = .ok (RI ((degs rows).sum * strW rows b t)) S := by
  have hz := g.le
  have tr : ∀ j, j < rows.length → Sm (1 + sb rows kd * t + (1 + sb rows kd * t) + cb rows kd) (el (W rows b t) j * el (W rows b t) j * el (prt rows) j) := fun j hj =>
    ((W_sm g b t _ (el_mem (by rw [W_len]; exact hj))).mul (W_sm g b t _ (el_mem (by rw [W_len]; exact hj)))).mul (prt_sm g _ (el_mem (by rw [prt_len]; exact hj)))
  refine run_ret (F := f11) rfl rfl h ?_
  refine p_asg (RI 0) rfl (p_asg (RI 0) rfl ?_)
  refine w_rg (n := rows.length) (lo := 0) (fun k ρ => ∃ y z, ρ = [some r, some (RL (W rows b t)), some (RI (ps rows)), some (RI (sm k fun i => (row rows i).sum)), some (RI (sm k fun j => el (W rows b t) j * el (W rows b t) j * el (prt rows) j)), y, z]) (ii_rng1 (n := rows.length) (c_bi1 (hr.var _ 0 rfl) hr.len) (by omega)) ⟨none, none, rfl⟩ (fun k ρ hk1 ⟨y, z, e⟩ => ?_) (fun ρ ⟨y, z, e⟩ => ?_)
  · subst e
    rw [Int.zero_add]
    obtain ⟨x, i1, h1⟩ := hr.ix hk1
    have q := RowR.ix (S := S) RowR.dat (a := W rows b t) (k := k) (by rw [W_len]; exact hk1)
    have s1 := W_sm g b t _ (el_mem (a := W rows b t) (k := k) (by rw [W_len]; exact hk1))
    have s2 := prt_sm g _ (el_mem (a := prt rows) (k := k) (by rw [prt_len]; exact hk1))
    refine p_asg (RI (row rows k).sum) (c_bi1 (c_ix (hr.var _ 0 rfl) (y := RI (k : Int)) rfl i1) h1.sum) ?_
    refine p_asg (RI (sm (k + 1) fun i => (row rows i).sum)) (by rw [sm_succ]; rfl) ?_
    refine p_asg (RI (sm (k + 1) fun j => el (W rows b t) j * el (W rows b t) j * el (prt rows) j)) ?_ ⟨rfl, _, _, rfl⟩
    rw [sm_succ (f := fun j => el (W rows b t) j * el (W rows b t) j * el (prt rows) j)]
    rw [prt_at hk1] at s2 ⊢
    exact c_add rfl (c_mul (c_mul (c_ix (x := RL (W rows b t)) (y := RI (k : Int)) rfl rfl q) (c_ix (x := RL (W rows b t)) (y := RI (k : Int)) rfl rfl q) (mulOk_of s1 s1 (by omega))) (c_div rfl rfl (g.div (row_mem hk1))) (mulOk_of (s1.mul s1) s2 (by omega)))
  · subst e
    rw [degs_sm]
    refine p_ret (c_mul rfl rfl ?_)
    rw [← degs_sm]
    exact mulOk_of g.vol (sm_sm tr (by omega)) (by omega)
theorem e_power {x : Int} {c k : Nat} (hx : Sm c x) (hk : k ≤ 1000) (hc : 1 + c * k + c ≤ 999999) (h : WF S) : callN st.T (n + 1) 12 [RI x, RI (k : Int)] S = .ok (RI (gp x k)) S := by
  refine run_ret (F := f12) rfl rfl h ?_
  refine p_asg (RI 1) rfl ?_
  refine w_rg (n := k) (lo := 0) (fun t ρ => ∃ y, ρ = [some (RI x), some (RI (k : Int)), some (RI (gp x t)), y]) (ii_rng1 (n := k) rfl (by omega)) ⟨none, rfl⟩ (fun t ρ ht ⟨y, e⟩ => ?_) (fun ρ ⟨y, e⟩ => ?_)
  · subst e
    have z : c * t ≤ c * k := Nat.mul_le_mul_left _ (by omega)
    exact p_asg (RI (gp x (t + 1))) (c_mul rfl rfl (mulOk_of (gp_sm hx t) hx (by omega))) ⟨rfl, _, rfl⟩
  · subst e
    exact p_ret rfl
def wksD (rows : List (List Int)) (t : Nat) : List D := (List.range rows.length).map fun i => D.lst (wkD rows i t)
theorem wksD_at {t k : Nat} (h : k < rows.length) : ((wksD rows t).map R.dat)[k]? = some (.dat (.lst (wkD rows k t))) := by
  unfold wksD
  rw [List.getElem?_map, List.getElem?_map, List.getElem?_range h]
  rfl
theorem wksD_len {t : Nat} : (wksD rows t).length = rows.length := by unfold wksD; rw [List.length_map, List.length_range]
theorem e_closed (g : Tied rows) {t k : Nat} (hk : k < t) (h : WF S) : callN st.T (n + 1) 13 [.dat (.lst (wksD rows t)), RI (k : Int)] S = .ok (RI (sm rows.length fun i => w rows k i i)) S := by
  have hz := g.le
  refine run_ret (F := f13) rfl rfl h (p_ret ?_)
  refine c_bi1 (v := .dat (.lst ((List.range rows.length).map fun i => D.int (w rows k i i)))) ?_ sum_rng
  have hl : biR false .len [.dat (.lst (wksD rows t))] S = .ok (RI rows.length) S := by
    have := Wk.len (b := false) (S := S) (Lst.dat (l := wksD rows t)).toWk
    rw [List.length_map, wksD_len] at this
    exact this
  refine lc_rng (lo := 0) (ii_rng1 (n := rows.length) (c_bi1 (v := .dat (.lst (wksD rows t))) rfl hl) (by omega)) (fun i hi => ?_) (by omega)
  rw [Int.zero_add]
  exact c_ix (c_ix (c_ix (x := .dat (.lst (wksD rows t))) (y := RI (i : Int)) rfl rfl (Wk.ix Lst.dat.toWk (wksD_at hi))) (y := RI (k : Int)) rfl (Wk.ix Lst.dat.toWk (wkD_at hk))) (y := RI (i : Int)) rfl (RowR.dat.ix (by rw [W_len]; exact hi))

end K25
set_option Elab.async false
set_option linter.all false
set_option maxRecDepth 100000
set_option maxHeartbeats 2000000
/-! K25Sums -/
namespace K25
open PySem PySem.Spec PyProof.Rows L2 MP DL
variable {n : Nat} {S : Store} {rows : List (List Int)} {kd : Nat} {r : R} {qs : List R}
theorem Fits.mono {t t' : Nat} (f : Fits rows kd t) (h : t' ≤ t) : Fits rows kd t' := by
  have z1 : sb rows kd * (t' + 1) ≤ sb rows kd * (t + 1) := Nat.mul_le_mul_left _ (by omega)
  have z2 : cb rows kd * t' ≤ cb rows kd * t := Nat.mul_le_mul_left _ h
  have f1 := f.mul
  have f2 := f.bot
  exact ⟨by have := f.t60; omega, by omega, by omega⟩
/-- the law's sums: True -/
theorem e_lsums (g : Net rows kd) (hr : Rep S r rows qs) {b m : Nat} (hb : b < rows.length) (f : Fits rows kd (2 * m)) (hm : 2 * (1 + sb rows kd * (2 * m + 1)) + sb rows kd + 20 ≤ 12000) (hl : rows.length ≤ 20) (h : WF S) :
    callN st.T (n + 5) 4 [r, .dat (webOf rows), RI (b : Int), RI (m : Int)] S = .ok (.dat (.bl true)) S := by
  have hz := g.le
  have hs : sb rows kd = kd + cb rows kd + 6 := rfl
  have f1 := f.mul
  have f2 := f.bot
  have f3 : sb rows kd * (2 * m + 1) = sb rows kd * (2 * m) + sb rows kd := Nat.mul_succ _ _
  have f5 : sb rows kd * m ≤ sb rows kd * (2 * m) := Nat.mul_le_mul_left _ (by omega)
  have f6 : cb rows kd * m ≤ cb rows kd * (2 * m) := Nat.mul_le_mul_left _ (by omega)
  have fm := f.mono (t' := m) (by omega)
  have f0 := f.mono (t' := 0) (by omega)
  have m30 := f.t60
  have hp := ps_pos g.pos
  have hU := gp_pos hp (2 * m)
  have two : (2 * (m : Int)) = ((2 * m : Nat) : Int) := by omega
  have tw : ∀ {ρ : MP.Env} {k : Nat} {x : Str} {p1 p2 p3 : Pos}, ρ[3]? = some (some (RI (m : Int))) → evE (st.T.C (n + 4)).toCalls (.bin false .mul (.int 2 k p1) (.var 3 x p2) p3) ρ S = .ok (RI ((2 * m : Nat) : Int)) S := fun {ρ k x p1 p2 p3} hρ => by
    rw [← two]
    refine c_mul (i := 2) (j := (m : Int)) rfl ?_ (mulOk_of (a := 2) (b := 6) (by show (2 : Int).natAbs < 2 ^ 2; decide) (by show (m : Int).natAbs < 2 ^ 6; omega) (by decide))
    show getV ρ 3 S = _
    unfold getV
    rw [hρ]
    rfl
  refine run_ret (F := f4) rfl rfl h ?_
  refine p_asg (S1 := S) (RI rows.length) (c_bi1 (hr.var _ 0 rfl) hr.len) ?_
  refine p_asg (S1 := S) (RI (ps rows)) (c_call1 (hr.var _ 0 rfl) (e_base (n := n + 3) g hr h)) ?_
  refine p_asg (S1 := S) (RI (gp (ps rows) (2 * m))) (c_call2 rfl (tw rfl) (e_power (n := n + 3) g.psm (by omega) (by omega) h)) ?_
  refine p_asg (S1 := S) (.dat (.lst (wksD rows (2 * m + 1)))) ?_ ?_
  · exact lc_rng (lo := 0) (n := rows.length) (ii_rng1 (n := rows.length) rfl (by omega)) (fun k hk => by
      rw [Int.zero_add]
      exact c_call3 (hr.var _ 0 rfl) rfl (tw rfl) (e_ldealt (n := n + 2) (b := k) g hr h (by omega) (by omega))) (by omega)
  refine p_asg (S1 := S) (.dat (F (clo rows (2 * m)) (gp (ps rows) (2 * m)))) (by rw [← F_clo g.toTied]; exact c_call2 rfl (tw rfl) (e_trace (n := n) g f h)) ?_
  refine w_if0 (t := !true) (c_not (c_call3 (w := RI (clo rows (2 * m))) rfl (c_call2 rfl (tw rfl) (e_closed (n := n + 3) g.toTied (by omega) h)) rfl (e_sameT (n := n + 2) hU hU rfl (gp_sm g.psm (2 * m)) (by omega) h))) rfl ?_
  refine p_asg (S1 := S) (.dat (F (clo rows m) (gp (ps rows) m))) (by rw [← F_clo g.toTied m]; exact c_callK1 rfl rfl (e_trace (n := n) g fm h)) ?_
  refine w_if0 (t := !true) (c_not (c_call3 (w := RI (clo rows m)) (u := RI (gp (ps rows) m)) rfl (c_call2 rfl rfl (e_closed (n := n + 3) g.toTied (by omega) h)) (c_call2 rfl rfl (e_power (n := n + 3) g.psm (by omega) (by omega) h)) (e_sameT (n := n + 2) (gp_pos hp m) (gp_pos hp m) rfl (gp_sm g.psm m) (by omega) h))) rfl ?_
  refine p_asg (S1 := S) (RI 0) rfl (p_asg (RI 1) rfl ?_)
  let E (left bottom : Int) (iv tv dv : Option R) : MP.Env := [some r, some (.dat (webOf rows)), some (RI (b : Int)), some (RI (m : Int)), some (RI rows.length), some (RI (ps rows)), some (RI (gp (ps rows) (2 * m))), iv, some (.dat (.lst (wksD rows (2 * m + 1)))), some (.dat (F (clo rows (2 * m)) (gp (ps rows) (2 * m)))), some (.dat (F (clo rows m) (gp (ps rows) m))), some (RI left), some (RI bottom), tv, dv, none, none, none, none, none, none]
  have us := und_sm g m
  have up := und_pos g.toTied m
  have eu : gp (ps rows) (2 * m) * ps rows = und rows m := rfl
  have mu : mulOk (gp (ps rows) (2 * m)) (ps rows) = true := mulOk_of (gp_sm g.psm (2 * m)) g.psm (by omega)
  have ds : ∀ i, Sm 20000 (due rows i m) := fun i => (sub_sm (g.vol.mul (strW_sm g i m)) us).mono (by omega)
  refine w_rg (n := rows.length) (lo := 0) (fun k ρ => ∃ left bottom iv tv dv, ρ = E left bottom iv tv dv ∧ 0 < bottom ∧ Sm (1 + 30000 * k) left ∧ Sm (1 + 9000 * k) bottom ∧ left * und rows m = bottom * sm k fun i => (row rows i).sum * due rows i m) (ii_rng1 (n := rows.length) rfl (by omega)) ⟨0, 1, none, none, none, rfl, by decide, by show (0 : Int).natAbs < 2 ^ (1 + 30000 * 0); rw [Nat.mul_zero]; decide, by show (1 : Int).natAbs < 2 ^ (1 + 9000 * 0); rw [Nat.mul_zero]; decide, by rw [Int.zero_mul]; rfl⟩ (fun k ρ hk ⟨left, bottom, iv, tv, dv, e, b0, sl, sbm, eq⟩ => ?_) (fun ρ ⟨left, bottom, iv, tv, dv, e, b0, sl, sbm, eq⟩ => ?_)
  · subst e
    rw [Int.zero_add]
    refine p_asg (S1 := S) (.dat (F (due rows k m) (und rows m))) (by rw [← F_due g.toTied k m]; exact c_call3 rfl rfl rfl (e_sstray (n := n) g hk fm h)) ?_
    obtain ⟨x, i1, h1⟩ := hr.ix hk
    have i2 : ixR (.dat (.lst (wksD rows (2 * m + 1)))) (RI (k : Int)) S = .ok (.dat (.lst (wkD rows k (2 * m + 1)))) S := Wk.ix Lst.dat.toWk (wksD_at hk)
    have i3 : ixR (.dat (.lst (wkD rows k (2 * m + 1)))) (RI (m : Int)) S = .ok (RL (W rows k m)) S := Wk.ix Lst.dat.toWk (wkD_at (by omega))
    refine p_asg (S1 := S) (RI (due rows k m)) (c_sub (c_call3 (hr.var _ 0 rfl) (c_ix (c_ix (x := .dat (.lst (wksD rows (2 * m + 1)))) (y := RI (k : Int)) rfl rfl i2) (y := RI (m : Int)) rfl i3) rfl (e_spread (n := n + 3) g hr (b := k) (t := m) (by omega) h)) (c_mul rfl rfl mu)) ?_
    refine w_if0 (t := !true) (c_not (c_call3 (w := RI (due rows k m)) (u := RI (und rows m)) rfl rfl (c_mul rfl rfl mu) (e_sameT (n := n + 2) up up rfl us (by omega) h))) rfl ?_
    have st_ := div_sm (ds k) (gc_pos (x := due rows k m) up)
    have sbt := (div_sm us (gc_pos (x := due rows k m) up)).mono (show 1 + cb rows kd * (2 * m) + cb rows kd ≤ 9000 by omega)
    have dk := g.v _ (row_mem hk)
    have bp := bt_pos (x := due rows k m) up
    have cr := cross (x := due rows k m) (y := und rows m)
    have kk : 30000 * k ≤ 600000 := by omega
    have sd : Sm (kd + 20000) ((row rows k).sum * (due rows k m / gc (due rows k m) (und rows m))) := dk.mul st_
    refine p_asg (S1 := S) (RI (left * (und rows m / gc (due rows k m) (und rows m)) + (row rows k).sum * (due rows k m / gc (due rows k m) (und rows m)) * bottom)) (c_add (c_mul rfl rfl (mulOk_of sl sbt (by omega))) (c_mul (c_mul (c_bi1 (c_ix (hr.var _ 0 rfl) (y := RI (k : Int)) rfl i1) h1.sum) rfl (mulOk_of dk st_ (by omega))) rfl (mulOk_of sd sbm (by omega)))) ?_
    refine p_asg (S1 := S) (RI (bottom * (und rows m / gc (due rows k m) (und rows m)))) (c_mul rfl rfl (mulOk_of sbm sbt (by omega))) ⟨rfl, _, _, _, _, _, rfl, Int.mul_pos b0 bp, ?_, (sbm.mul sbt).mono (by omega), ?_⟩
    · exact (add_sm ((sl.mul sbt).mono (show 1 + 30000 * k + 9000 ≤ 30000 * k + 30000 by omega)) ((sd.mul sbm).mono (show kd + 20000 + (1 + 9000 * k) ≤ 30000 * k + 30000 by omega))).mono (by omega)
    · rw [sm_succ]
      generalize und rows m / gc (due rows k m) (und rows m) = bt at *
      generalize due rows k m / gc (due rows k m) (und rows m) = tp at *
      generalize und rows m = U at *
      generalize (sm k fun i => (row rows i).sum * due rows i m) = X at *
      generalize due rows k m = dd at *
      have a1 : (left * bt + (row rows k).sum * tp * bottom) * U = (left * U) * bt + (row rows k).sum * (tp * U) * bottom := by grind
      rw [a1, eq, cr]
      grind
  subst e
  rw [due_sum g.toTied m] at eq
  have i2 : ∀ k, k ≤ 2 * m → ixR (.dat (.lst (wksD rows (2 * m + 1)))) (RI (b : Int)) S = .ok (.dat (.lst (wkD rows b (2 * m + 1)))) S := fun k _ => Wk.ix Lst.dat.toWk (wksD_at hb)
  have i3 : ixR (.dat (.lst (wkD rows b (2 * m + 1)))) (RI ((2 * m : Nat) : Int)) S = .ok (RL (W rows b (2 * m))) S := Wk.ix Lst.dat.toWk (wkD_at (by omega))
  have cs := (clo_sm g (2 * m)).mono (show 1 + sb rows kd * (2 * m) + 6 ≤ 20000 by omega)
  have gs := (gp_sm g.psm (2 * m)).mono (show 1 + cb rows kd * (2 * m) ≤ 9000 by omega)
  have tl := div_sm cs (gc_pos (x := clo rows (2 * m)) hU)
  have bl := div_sm gs (gc_pos (x := clo rows (2 * m)) hU)
  have nl : 9000 * rows.length ≤ 180000 := by omega
  have vs := g.vol
  have tb : Sm 30000 (clo rows (2 * m) / gc (clo rows (2 * m)) (gp (ps rows) (2 * m)) - gp (ps rows) (2 * m) / gc (clo rows (2 * m)) (gp (ps rows) (2 * m))) := (sub_sm tl bl).mono (by omega)
  have es : evE (st.T.C (n + 4)).toCalls e4_0 (E left bottom iv tv dv) S = .ok (.dat (.lst ((degs rows).map D.int))) S := by
    unfold degs
    rw [List.map_map, map_row]
    exact lc_wk (hr.var _ 0 rfl) hr.toWk hr.len' (fun k z hz => c_bi1 ((hr.at_ k z hz).var _ 20 rfl) (hr.at_ k z hz).sum) (by omega)
  refine p_asg (S1 := S) (RI (degs rows).sum) (c_bi1 (v := RL (degs rows)) es RowR.dat.sum) ?_
  refine p_asg (S1 := S) (RI ((clo rows (2 * m) / gc (clo rows (2 * m)) (gp (ps rows) (2 * m)) - gp (ps rows) (2 * m) / gc (clo rows (2 * m)) (gp (ps rows) (2 * m))) * bottom * (degs rows).sum)) (c_mul (c_mul (c_sub rfl rfl) rfl (mulOk_of tb sbm (by omega))) rfl (mulOk_of (tb.mul sbm) vs (by omega))) ?_
  have fe := fin_eq (left := left) (bottom := bottom) (C := clo rows (2 * m)) (U := gp (ps rows) (2 * m)) (th := clo rows (2 * m) / gc (clo rows (2 * m)) (gp (ps rows) (2 * m))) (bh := gp (ps rows) (2 * m) / gc (clo rows (2 * m)) (gp (ps rows) (2 * m))) (V := (degs rows).sum) (G := ps rows) hU hp eq cross
  refine w_if0 (t := !decide (left * (gp (ps rows) (2 * m) / gc (clo rows (2 * m)) (gp (ps rows) (2 * m))) = (clo rows (2 * m) / gc (clo rows (2 * m)) (gp (ps rows) (2 * m)) - gp (ps rows) (2 * m) / gc (clo rows (2 * m)) (gp (ps rows) (2 * m))) * bottom * (degs rows).sum)) (c_cmp (c_mul rfl rfl (mulOk_of sl bl (by omega))) rfl rfl) (by rw [decide_eq_true fe]; rfl) ?_
  have uF := und_pos g.toTied (2 * m)
  have z4 : cb rows kd * (2 * (2 * m)) = 2 * (cb rows kd * (2 * m)) := by rw [Nat.mul_left_comm]
  have uS := und_sm g (2 * m)
  have eF : gp (ps rows) (2 * m) * gp (ps rows) (2 * m) * ps rows = und rows (2 * m) := by unfold und; rw [gp_two (ps rows) (2 * m)]
  refine p_asg (S1 := S) (.dat (F (due rows b (2 * m)) (und rows (2 * m)))) (by rw [← F_due g.toTied b (2 * m)]; exact c_callK2 rfl (tw rfl) rfl rfl (e_sstray (n := n) g hb f h)) ?_
  refine p_asg (S1 := S) (RI (und rows (2 * m))) (by rw [← eF]; exact c_mul (c_mul rfl rfl (mulOk_of gs gs (by omega))) rfl (mulOk_of (gs.mul gs) g.psm (by omega))) ?_
  refine p_asg (S1 := S) (RI (due rows b (2 * m))) (c_sub (c_call3 (hr.var _ 0 rfl) (c_ix (c_ix (x := .dat (.lst (wksD rows (2 * m + 1)))) (y := RI (b : Int)) rfl rfl (i2 0 (by omega))) (tw rfl) i3) rfl (e_spread (n := n + 3) g hr (b := b) (t := 2 * m) (by omega) h)) rfl) ?_
  refine w_if0 (t := !true) (c_not (c_call3 (w := RI (due rows b (2 * m))) (u := RI (und rows (2 * m))) rfl rfl rfl (e_sameT (n := n + 2) uF uF rfl uS (by omega) h))) rfl ?_
  obtain ⟨x, i1, h1⟩ := hr.ix hb
  have dp := g.pos _ (row_mem hb)
  have kdl := g.kd_le
  have kdb := g.b1
  refine p_asg (S1 := S) (RI (row rows b).sum) (c_bi1 (c_ix (hr.var _ 0 rfl) (y := RI (b : Int)) rfl i1) h1.sum) ?_
  refine w_if0 (t := !true) (c_not (c_call3 (S1 := S) (v := .dat (F (due rows b 0) (und rows 0))) (w := RI ((degs rows).sum - (row rows b).sum)) (u := RI (row rows b).sum) (by rw [← F_due g.toTied b 0]; exact c_call3 rfl rfl rfl (e_sstray (n := n) g hb f0 h)) rfl rfl (e_sameT (n := n + 2) (und_pos g.toTied 0) dp (due_zero hb) (g.v _ (row_mem hb)) (by omega) h))) rfl ?_
  have q := e_trace (n := n) g f0 h
  exact p_ret (c_call3 (v := .dat (F (trc rows 0) (sc rows 0))) (w := RI rows.length) (u := RI 1) (c_call2 rfl rfl q) rfl rfl (e_sameT (n := n + 2) (sc_pos g.pos 0) (by decide) (by rw [trc_zero]; rfl) (k := 1) (by show (1 : Int).natAbs < 2 ^ 1; decide) (by decide) h))

end K25
set_option Elab.async false
set_option linter.all false
set_option maxRecDepth 100000
set_option maxHeartbeats 2000000
/-! K25Law -/
namespace K25
open PySem PySem.Spec PyProof.Rows L2 MP DL
variable {n : Nat} {S : Store} {rows M : List (List Int)} {m t : Nat} {kd : Nat} {B : Int}
theorem e_lplace {b : Int} {k : D} (hb : b < 0 ∨ (rows.length : Int) ≤ b) (h : WF S) : callN st.T (n + 3) 2 [.dat (webOf rows), RI b, .dat k] S = .ok (.dat (.bl true)) S := by
  refine run_ret (F := f2) rfl rfl h ?_
  have hx := e_sstrayB (n := n) (S := S) (rows := rows) (b := b) (t := .dat k) hb ⟨_, rfl⟩ h
  refine w_tryR (c' := "BadPlace") (ns := ["place"]) (l := [.int b]) (ρ1 := [some (.dat (webOf rows)), some (RI b), some (.dat k), none]) (S1 := S) (S2 := S) (v := .dat (.bl true)) (ρ2 := [some (.dat (webOf rows)), some (RI b), some (.dat k), some (.exc "BadPlace" ["place"] [.int b])]) ?_ rfl ?_ ⟨rfl, rfl⟩
  · exact w_exprX (P := fun x => x = _) (c_call3 rfl rfl rfl hx) rfl
  · refine w_if0 (P := fun x => x = _) (t := false || !true) (c_or (x := false) (y := !true) rfl rfl) rfl ?_
    exact w_ret (P := fun x => x = _) (c_and (x := true) (y := decide (b = b)) (c_call1 (v := RI b) rfl (e_whole (n := n + 1) b h)) rfl) (by rw [decide_eq_true rfl]; rfl)
theorem e_lrange {b : Nat} {k : Int} {lone : Bool} (hb : b < rows.length) (hk : k < 0 ∨ 60 < k) (h : WF S) : callN st.T (n + 3) 1 [.dat (webOf rows), RI (b : Int), RI k, .dat (.bl lone)] S = .ok (.dat (.bl true)) S := by
  refine run_ret (F := f1) rfl rfl h ?_
  refine w_tryR (c' := "OutOfRange") (ns := ["value"]) (l := [.int k]) (ρ1 := [some (.dat (webOf rows)), some (RI (b : Int)), some (RI k), some (.dat (.bl lone)), none]) (S1 := S) (S2 := S) (v := .dat (.bl true)) (ρ2 := [some (.dat (webOf rows)), some (RI (b : Int)), some (RI k), some (.dat (.bl lone)), some (.exc "OutOfRange" ["value"] [.int k])]) ?_ rfl ?_ ⟨rfl, rfl⟩
  · refine w_if (P := fun x => x = _) lone rfl (fun _ => ?_) (fun _ => ?_)
    · exact w_exprX (P := fun x => x = _) (c_call3 rfl rfl rfl (e_sstrayS (n := n) hb hk h)) rfl
    · exact w_exprX (P := fun x => x = _) (c_call2 rfl rfl (e_traceX (n := n) hk h)) rfl
  · refine w_if0 (P := fun x => x = _) (t := false || !true) (c_or (x := false) (y := !true) rfl rfl) rfl ?_
    exact w_ret (P := fun x => x = _) (c_and (x := true) (y := decide (k = k)) (c_call1 (v := RI k) rfl (e_whole (n := n + 1) k h)) rfl) (by rw [decide_eq_true rfl]; rfl)
/-- what is asked of the numbers: places, bits, steps -/
abbrev Num (m kd T : Nat) : Prop := T ≤ 60 ∧ (1 + kd * m) + 2 * (1 + (1 + kd * m) * T) < 9000 ∧ 2 * (1 + (kd + (1 + kd * m) + 6) * (T + 1)) + (kd + (1 + kd * m) + 6) + 20 ≤ 12000
theorem Num.fits {T : Nat} (h : Num m kd T) (hm : rows.length = m) {t : Nat} (ht : t ≤ T) : Fits rows kd t ∧ 2 * (1 + sb rows kd * (t + 1)) + sb rows kd + 20 ≤ 12000 := by
  obtain ⟨h1, h2, h3⟩ := h
  have e : sb rows kd = kd + (1 + kd * m) + 6 := by show kd + (1 + kd * rows.length) + 6 = _; rw [hm]
  have e2 : cb rows kd = 1 + kd * m := by show 1 + kd * rows.length = _; rw [hm]
  have z1 : (kd + (1 + kd * m) + 6) * (t + 1) ≤ (kd + (1 + kd * m) + 6) * (T + 1) := Nat.mul_le_mul_left _ (by omega)
  have z2 : (1 + kd * m) * t ≤ (1 + kd * m) * T := Nat.mul_le_mul_left _ ht
  rw [e]
  refine ⟨⟨by omega, ?_, ?_⟩, by omega⟩
  · rw [e]
    omega
  · rw [e2]
    omega
/-- a case of the law: places, steps, the top of the weights -/
structure Pt (m t : Nat) (top : Int) : Prop where
  m1 : 1 ≤ m
  m9 : m ≤ 9
  top2 : 2 ≤ top
  topB : top ≤ 1000000000000000000000000000001
  k : ∃ kd T, Num m kd T ∧ 2 * t ≤ T ∧ 2 ≤ T ∧ (m ≤ 6 → 4 ≤ T) ∧ 1 + kd * m ≤ 8900 ∧ (m : Int) * max (top - 1) 2 < ((2 ^ kd : Nat) : Int)
abbrev LEnd (x : SRes) : Prop := sealS 0 x = .ok (.dat (.bl true)) []
theorem lend {S : Store} {ρ : MP.Env} : LEnd (.go (.ret (.dat (.bl true))) ρ S) := by
  show sealR 0 (.dat (.bl true)) S = _
  unfold sealR
  rw [if_pos ⟨by simp, Nat.zero_le _⟩]
  simp
theorem big50 {C : Calls} {ρ : MP.Env} {k1 k2 k3 k4 : Nat} {p1 p2 p3 p4 p5 p6 p7 : Pos} {b1 b2 b3 : Bool} : evE C (.bin b1 .sub (.bin b2 .pow (.bin b3 .pow (.int 10 k1 p1) (.int 50 k2 p2) p3) (.int 8 k3 p4) p5) (.int 1 k4 p6) p7) ρ S = .ok (RI (10 ^ 400 - 1)) S := by
  refine c_sub (i := 10 ^ 400) (j := 1) ?_ rfl
  have h := e_pow (C := C) (S := S) (ρ := ρ) (m := b2) (a := .bin b3 .pow (.int 10 k1 p1) (.int 50 k2 p2) p3) (b := .int 8 k3 p4) (p := p5) (i := 10 ^ 50) (j := 8) (e_pow (i := 10) (j := 50) rfl rfl (by decide +kernel)) rfl (by decide +kernel)
  rw [h]
  have e : ((10 : Int) ^ 50) ^ (Int.toNat 8) = 10 ^ 400 := by decide +kernel
  show Res.ok (RI (((10 : Int) ^ 50) ^ (Int.toNat 8))) S = _
  rw [e]
theorem p_l4 {C : CallsX} {ρ : MP.Env} {P : SRes → Prop} {rs : ISs} {a b c d e : IE} {iv : Nat} {xv : Str} {px p p2 p3 : Pos} {S' : Store} {i j k l x : Int} (ha : evE C.toCalls a ρ S = .ok (RI i) S) (hb : evE C.toCalls b ρ S = .ok (RI j) S) (hc : evE C.toCalls c ρ S = .ok (RI k) S) (hd : evE C.toCalls d ρ S = .ok (RI l) S) (he : evE C.toCalls e ρ S = .ok (RI x) S') (h0 : 0 ≤ x) (h4 : x < 4)
    (kk : ∀ v, (v = i ∨ v = j ∨ v = k ∨ v = l) → P (evSs C rs (ρ.set iv (some (RI v))) S')) : P (evSs C (.cons (.asg (.one iv xv px) (.ix (.lst false (.cons a (.cons b (.cons c (.cons d .nil)))) p) e p2) p3) rs) ρ S) := by
  have h := e_l4 (p := p) ha hb hc hd
  have q : ∀ v, ixR (.dat (.lst [.int i, .int j, .int k, .int l])) (RI x) S' = .ok (RI v) S' → evE C.toCalls (.ix (.lst false (.cons a (.cons b (.cons c (.cons d .nil)))) p) e p2) ρ S = .ok (RI v) S' := fun v hv => c_ix h he hv
  rcases (by omega : x = 0 ∨ x = 1 ∨ x = 2 ∨ x = 3) with rfl | rfl | rfl | rfl
  · exact p_asg _ (q i rfl) (kk _ (.inl rfl))
  · exact p_asg _ (q j rfl) (kk _ (.inr (.inl rfl)))
  · exact p_asg _ (q k rfl) (kk _ (.inr (.inr (.inl rfl))))
  · exact p_asg _ (q l rfl) (kk _ (.inr (.inr (.inr rfl))))

end K25
set_option Elab.async false
set_option linter.all false
set_option maxRecDepth 100000
set_option maxHeartbeats 2000000
/-! K25Rest -/
namespace K25
open PySem PySem.Spec PyProof.Rows L2 MP DL
variable {n : Nat} {S : Store} {rows M M2 : List (List Int)} {m t : Nat} {kd : Nat} {B : Int}
abbrev LV (scr : R) (mode : Int) (m t : Nat) (top : Int) (rows b i j bent net near few bad odd steps lone : Option R) : MP.Env := [some scr, some (.own 0), some (RI mode), some (RI (m : Int)), some (RI (t : Int)), some (RI top), rows, b, i, j, bent, net, near, few, bad, odd, steps, lone, none, none]
/-- behind the sums: what is refused, the rows -/
theorem says_last {scr : R} {mode top : Int} {b i j : Nat} {few : R} {ns : List Int} (hM : M.length = m) (hm : m ≤ 9) (hb : b < m) (h0 : ∀ x ∈ ns, 0 ≤ x) :
    LEnd (evSs (st.T.C (n + 5)) (ISs.drop 23 ir0) (LV scr mode m t top (some (RM M)) (some (RI (b : Int))) (some (RI (i : Int))) (some (RI (j : Int))) (some (.own (1 + m))) (some (.dat (webOf M))) (some (.dat (webOf M2))) (some few) none none none none) (stM [pool ns] M2)) := by
  have wf : ∀ ns, WF (stM [pool ns] M2) := fun ns => stM_wf (wf_pool ns)
  have hbig : (100 : Int) ≤ 10 ^ 400 - 1 := by decide +kernel
  obtain ⟨x, ns1, a1, b1, n1, d1⟩ := e_drawM (n := n + 4) (M := M2) (ns := ns) (many := 4) h0 (by decide) (by decide)
  refine p_l4 (S' := stM [pool ns1] M2) (i := -1) (j := (m : Int)) (k := (m : Int) + 7) (l := 10 ^ 400 - 1) rfl rfl rfl big50 (c_call2 rfl rfl d1) a1 b1 fun bad hbad => ?_
  obtain ⟨y, ns2, a2, b2, n2, d2⟩ := e_drawM (n := n + 4) (M := M2) (ns := ns1) (many := 4) n1 (by decide) (by decide)
  refine p_l4 (S' := stM [pool ns2] M2) (i := 61) (j := -1) (k := 10 ^ 400 - 1) (l := -60) rfl rfl big50 rfl (c_call2 rfl rfl d2) a2 b2 fun odd hodd => ?_
  generalize (10 : Int) ^ 400 - 1 = G at *
  have w := wf ns2
  have hbad' : bad < 0 ∨ (M.length : Int) ≤ bad := by omega
  have hodd' : odd < 0 ∨ 60 < odd := by omega
  refine w_wk (q := .dat (.tup [.int (t : Int), .int odd])) (xs := [D.int (t : Int), .int odd].map R.dat) (fun _ ρ => ∃ s, ρ = LV scr mode m t top (some (RM M)) (some (RI (b : Int))) (some (RI (i : Int))) (some (RI (j : Int))) (some (.own (1 + m))) (some (.dat (webOf M))) (some (.dat (webOf M2))) (some few) (some (RI bad)) (some (RI odd)) s none) (c_tup2 rfl rfl) Wk.tup ⟨none, rfl⟩ (fun k z ρ hz ⟨s, e⟩ => ?_) (fun ρ ⟨s, e⟩ => ?_)
  · subst e
    have hz2 : ∃ d, z = .dat d := by
      rw [List.getElem?_map] at hz
      cases e : [D.int (t : Int), .int odd][k]? with
      | none => rw [e] at hz; cases hz
      | some d => rw [e] at hz; cases hz; exact ⟨d, rfl⟩
    obtain ⟨d, rfl⟩ := hz2
    exact w_if0 (t := !true) (c_not (c_call3 rfl rfl rfl (e_lplace (n := n + 2) hbad' w))) rfl ⟨rfl, _, rfl⟩
  subst e
  refine w_wk (q := .dat (.tup [.bl true, .bl false])) (xs := [D.bl true, .bl false].map R.dat) (fun _ ρ => ∃ s2, ρ = LV scr mode m t top (some (RM M)) (some (RI (b : Int))) (some (RI (i : Int))) (some (RI (j : Int))) (some (.own (1 + m))) (some (.dat (webOf M))) (some (.dat (webOf M2))) (some few) (some (RI bad)) (some (RI odd)) s s2) (c_tup2 rfl rfl) Wk.tup ⟨none, rfl⟩ (fun k z ρ hz ⟨s2, e⟩ => ?_) (fun ρ ⟨s2, e⟩ => ?_)
  · subst e
    have hz2 : ∃ c, z = .dat (.bl c) := by
      rcases k with _ | _ | k
      · cases hz; exact ⟨_, rfl⟩
      · cases hz; exact ⟨_, rfl⟩
      · cases hz
    obtain ⟨c, rfl⟩ := hz2
    exact w_if0 (t := !true) (c_not (c_call4 rfl rfl rfl rfl (e_lrange (n := n + 2) (by omega) hodd' w))) rfl ⟨rfl, _, rfl⟩
  subst e
  refine w_ret (v := .dat (.bl true)) (S1 := stM [pool ns2] M2) ?_ lend
  refine c_cmp (x := .dat (.tup (M.map TL))) (y := .dat (.tup (M.map TL))) (c_attr (x := .dat (webOf M)) rfl a_rows) (c_bi1 (v := .dat (.lst (M.map TL))) ?_ tup_dat) eq_tl
  have hr : Rep (stM [pool ns2] M2) (RM M) M ((M.map IL).map R.dat) := Rep.dat
  rw [map_row]
  exact lc_wk (q := RM M) rfl hr.toWk hr.len' (fun k z hz => c_bi1 ((hr.at_ k z hz).var _ 18 rfl) (hr.at_ k z hz).tuple) (by omega)
/-- the nets, their sums -/
theorem says_mid {scr : R} {mode top : Int} {b i j : Nat} {ns : List Int} {kd T : Nat} (hM : M.length = m) (hM2 : M2.length = m) (hm : m ≤ 9) (hb : b < m) (hi : i < m) (hj : j < m) (g : Net M kd) (g2 : Net M2 kd) (hN : Num m kd T) (ht : 2 * t ≤ T) (hT : 2 ≤ T) (hT4 : m ≤ 6 → 4 ≤ T) (h0 : ∀ x ∈ ns, 0 ≤ x) :
    LEnd (evSs (st.T.C (n + 5)) (ISs.drop 16 ir0) (LV scr mode m t top (some (RM M)) (some (RI (b : Int))) (some (RI (i : Int))) (some (RI (j : Int))) (some (.own (1 + m))) none none none none none none none) (stM [pool ns] M2)) := by
  have w : WF (stM [pool ns] M2) := stM_wf (wf_pool ns)
  have hr : Rep (stM [pool ns] M2) (RM M) M ((M.map IL).map R.dat) := Rep.dat
  have hr2 : Rep (stM [pool ns] M2) (.own (1 + m)) M2 (ownsR 1 m) := by
    have := rep_stM (S := [pool ns]) (M := M2)
    rw [hM2] at this
    exact this
  refine p_asg (S1 := stM [pool ns] M2) (.dat (webOf M)) (c_make1 (v := RM M) (S1 := stM [pool ns] M2) ?_ (e_make (n := n + 3) g.toTied hr w)) ?_
  · refine Eq.trans (lc_wk (q := RM M) (G := fun k => IL (row M k)) rfl hr.toWk hr.len' (fun k z hz => ?_) (by omega)) (by rw [← map_row IL])
    obtain ⟨hk, rfl⟩ := il_at hz
    refine c_bi1 (v := RL (row M k)) rfl ?_
    show mkL false (((row M k).map D.int).map R.dat) _ = _
    unfold mkL
    rw [datsR_map]
  refine p_asg (S1 := stM [pool ns] M2) (.dat (webOf M2)) (c_make1 (v := .own (1 + m)) (S1 := stM [pool ns] M2) rfl (e_make (n := n + 3) g2.toTied hr2 w)) ?_
  have f1 := hN.fits hM ht
  refine w_if0 (t := !true) (S1 := stM [pool ns] M2) (c_not (c_call4 rfl rfl rfl rfl (e_lsums (n := n) g hr (b := b) (m := t) (by omega) f1.1 f1.2 (by omega) w))) rfl ?_
  have tm : evE (st.T.C (n + 5)).toCalls (.int 1 0 default) [] (stM [pool ns] M2) = .ok (RI 1) (stM [pool ns] M2) := rfl
  have ef : (1 + (t : Int) % 2) = ((1 + t % 2 : Nat) : Int) := by omega
  refine p_asg (S1 := stM [pool ns] M2) (RI (1 + (t : Int) % 2)) (c_add rfl (c_mod (i := (t : Int)) (j := 2) rfl rfl (by decide))) ?_
  rw [ef]
  refine w_ifN (S1 := stM [pool ns] M2) (decide ((6 : Int) < (m : Int))) (fun ρ S => ∃ few : Nat, 2 * few ≤ T ∧ ρ = LV scr mode m t top (some (RM M)) (some (RI (b : Int))) (some (RI (i : Int))) (some (RI (j : Int))) (some (.own (1 + m))) (some (.dat (webOf M))) (some (.dat (webOf M2))) (some (RI (few : Int))) none none none none ∧ S = stM [pool ns] M2) rfl (fun _ => p_asg (RI 1) rfl ⟨1, by omega, rfl, rfl⟩) (fun z => ⟨1 + t % 2, by have := of_decide_eq_false z; have := hT4 (by omega); omega, rfl, rfl⟩) ?_
  intro ρ S ⟨few, hf, e1, e2⟩
  subst e1 e2
  have f2 := hN.fits hM2 hf
  have f3 := hN.fits hM hf
  refine w_if0 (t := !true) (S1 := stM [pool ns] M2) (c_not (c_call4 rfl rfl rfl rfl (e_lsums (n := n) g2 hr2 (b := i) (m := few) (by omega) f2.1 f2.2 (by omega) w))) rfl ?_
  refine w_if0 (t := !true) (S1 := stM [pool ns] M2) (c_not (c_call4 rfl rfl rfl rfl (e_lsums (n := n) g hr (b := j) (m := few) (by omega) f3.1 f3.2 (by omega) w))) rfl ?_
  exact says_last (n := n) hM hm hb h0
/-- the draws behind the case -/
theorem says_rest {scr : R} {mode top : Int} {ns : List Int} (c : Pt m t top) (h0 : ∀ x ∈ ns, 0 ≤ x) :
    LEnd (evSs (st.T.C (n + 5)) (ISs.drop 9 ir0) (LV scr mode m t top none none none none none none none none none none none none) [pool ns]) := by
  obtain ⟨m1, m9, t2, tB, kd, T, hN, hT1, hT2, hT3, hk1, hk2⟩ := c
  have ml : ((m : Int)).natAbs.log2 < 9000 := by
    have : Sm 4 (m : Int) := by show (m : Int).natAbs < 2 ^ 4; omega
    have := this.log
    omega
  have tl : top.natAbs.log2 < 9000 := by
    have : Sm 101 top := by
      have e : (2 : Nat) ^ 101 = 2535301200456458802993406410752 := by decide +kernel
      show top.natAbs < 2 ^ 101
      rw [e]
      omega
    have := this.log
    omega
  obtain ⟨M, ns1, g, hp, n1, d1⟩ := e_drawn (n := n + 3) (m := m) (B := max (top - 1) 2) (top := top) h0 (by omega) (by omega) (by omega) (by omega) tl
  have hM := g.len
  refine p_asg (S1 := [pool ns1]) (RM M) (c_call3 (S1 := [pool ns]) (S2 := [pool ns]) rfl rfl rfl d1) ?_
  have dr : ∀ ns : List Int, (∀ x ∈ ns, 0 ≤ x) → ∃ (x : Nat) (ns' : List Int), x < m ∧ (∀ y ∈ ns', 0 ≤ y) ∧ callN st.T (n + 5) 3 [.own 0, RI (m : Int)] [pool ns] = .ok (RI (x : Int)) [pool ns'] := fun ns h => by
    obtain ⟨x, ns', a, b, c, d⟩ := e_draw (n := n + 4) (S := [pool ns]) (k := 0) (many := (m : Int)) rfl h (by omega) ml (wf_pool ns)
    refine ⟨x.toNat, ns', by omega, c, ?_⟩
    rw [show ((x.toNat : Nat) : Int) = x by omega]
    exact d
  obtain ⟨b, ns2, hb, n2, d2⟩ := dr ns1 n1
  refine p_asg (S1 := [pool ns2]) (RI (b : Int)) (c_call2 (S1 := [pool ns1]) (S2 := [pool ns1]) rfl rfl d2) ?_
  obtain ⟨i, ns3, hi, n3, d3⟩ := dr ns2 n2
  refine p_asg (S1 := [pool ns3]) (RI (i : Int)) (c_call2 (S1 := [pool ns2]) (S2 := [pool ns2]) rfl rfl d3) ?_
  obtain ⟨j, ns4, hj, n4, d4⟩ := dr ns3 n3
  refine p_asg (S1 := [pool ns4]) (RI (j : Int)) (c_call2 (S1 := [pool ns3]) (S2 := [pool ns3]) rfl rfl d4) ?_
  have hi' : i < M.length := by omega
  have hj' : j < M.length := by omega
  refine p_asg (S1 := stM [pool ns4] M) (.own (1 + M.length)) (lc_own (S := [pool ns4]) rfl (by omega) (fun k hk S' => rfl)) ?_
  let w : Int := 1 + (if decide (ent M i j = 1) = true then 1 else 0)
  have hw : 1 ≤ w ∧ w ≤ 2 := by
    show 1 ≤ 1 + (if decide (ent M i j = 1) = true then (1 : Int) else 0) ∧ 1 + (if decide (ent M i j = 1) = true then (1 : Int) else 0) ≤ 2
    split <;> omega
  have x1 := ix_outer (S := [pool ns4]) hi'
  have r0 : RowR (stM [pool ns4] M) (RL (row M i)) (row M i) := RowR.dat
  have y1 : ixR (RM M) (RI (i : Int)) (stM [pool ns4] M) = .ok (RL (row M i)) (stM [pool ns4] M) := ix_nat (row_at hi')
  have hrj : j < (row M i).length := by rw [g.row i hi]; exact hj
  refine p_next (r_put1 (m := M.length) (i := i) (j := j) (w := w) rfl (c_ix (x := .own (1 + M.length)) (y := RI (i : Int)) rfl rfl x1) rfl (c_add rfl (c_bi1 (c_cmp (x := RI (el (row M i) j)) (y := RI 1) (c_ix (c_ix (x := RM M) (y := RI (i : Int)) rfl rfl y1) (y := RI (j : Int)) rfl (r0.ix hrj)) rfl rfl) rfl)) hi' hrj) ?_
  have pl : (put M i j w).length = M.length := put_len
  have x2 := ix_outer (S := [pool ns4]) (M := put M i j w) (i := j) (by rw [pl]; exact hj')
  have x3 := ix_outer (S := [pool ns4]) (M := put M i j w) (i := i) (by rw [pl]; exact hi')
  rw [pl] at x2 x3
  have r2 : RowR (stM [pool ns4] (put M i j w)) (.own (1 + i)) (row (put M i j w) i) := RowR.own (stM_row (S := [pool ns4]) (by rw [pl]; exact hi'))
  have rl : ∀ a, a < m → (row (put M i j w) a).length = m := fun a ha => g.lenput hi ha
  have y2 := r2.ix (k := j) (by rw [rl i hi]; exact hj)
  have ew : el (row (put M i j w) i) j = w := by
    have := ent_put (w := w) (a := i) (b := j) hi' hrj
    rw [if_pos ⟨rfl, rfl⟩] at this
    exact this
  rw [ew] at y2
  refine p_next (r_put1 (m := M.length) (i := j) (j := i) (w := w) pl (c_ix (x := .own (1 + M.length)) (y := RI (j : Int)) rfl rfl x2) rfl (c_ix (c_ix (x := .own (1 + M.length)) (y := RI (i : Int)) rfl rfl x3) (y := RI (j : Int)) rfl y2) (by rw [pl]; exact hj') (by rw [rl j hj]; exact hi)) ?_
  have g2 := g.put2 (w := w) hi hj (by omega) (by omega)
  have N1 := g.net (kd := kd) m1 (by omega) (by omega) hp hk2 hk1
  have N2 := g2.net (kd := kd) m1 (by omega) (by omega) (g.put2_pos hi hj (by omega) (by omega) hp) hk2 hk1
  have q := says_mid (n := n) (scr := scr) (mode := mode) (top := top) (t := t) hM g2.len m9 hb hi hj N1 N2 hN hT1 hT2 hT3 n4
  rw [← hM] at q ⊢
  exact q

end K25
set_option Elab.async false
set_option linter.all false
set_option maxRecDepth 100000
set_option maxHeartbeats 2000000
/-! K25Says -/
namespace K25
open PySem PySem.Spec PyProof.Rows L2 MP DL
variable {n : Nat} {S : Store}
theorem pt_small {m t : Nat} {top : Int} (h1 : 1 ≤ m) (h2 : m ≤ 6) (ht : t ≤ 6) (h3 : 3 < m → t ≤ 3) (h4 : 2 ≤ top) (h5 : top ≤ 10) : Pt m t top := by
  refine ⟨h1, by omega, h4, by omega, 6, (if 3 < m then 6 else 12), ?_, ?_, ?_, ?_, by omega, ?_⟩
  · rcases (by omega : m = 1 ∨ m = 2 ∨ m = 3 ∨ m = 4 ∨ m = 5 ∨ m = 6) with rfl | rfl | rfl | rfl | rfl | rfl <;> decide
  · split <;> omega
  · split <;> omega
  · split <;> omega
  · have : (2 : Nat) ^ 6 = 64 := rfl
    rw [this]
    rcases (by omega : m = 1 ∨ m = 2 ∨ m = 3 ∨ m = 4 ∨ m = 5 ∨ m = 6) with rfl | rfl | rfl | rfl | rfl | rfl <;> omega
theorem pt_long {m : Nat} {top : Int} (h1 : 1 ≤ m) (h2 : m ≤ 2) (h4 : 2 ≤ top) (h5 : top ≤ 10) : Pt m 30 top := by
  refine ⟨h1, by omega, h4, by omega, 6, 60, ?_, by omega, by omega, by omega, by omega, ?_⟩
  · rcases (by omega : m = 1 ∨ m = 2) with rfl | rfl <;> decide
  · have : (2 : Nat) ^ 6 = 64 := rfl
    rw [this]
    rcases (by omega : m = 1 ∨ m = 2) with rfl | rfl <;> omega
theorem pt_wide {m t : Nat} (h1 : 1 ≤ m) (h2 : m ≤ 3) (ht : t ≤ 2) : Pt m t 1000000000000000000000000000001 := by
  refine ⟨h1, by omega, by omega, by omega, 102, 4, ?_, by omega, by omega, by omega, by omega, ?_⟩
  · rcases (by omega : m = 1 ∨ m = 2 ∨ m = 3) with rfl | rfl | rfl <;> decide
  · have : (2 : Nat) ^ 102 = 5070602400912917605986812821504 := by decide +kernel
    rw [this]
    rcases (by omega : m = 1 ∨ m = 2 ∨ m = 3) with rfl | rfl | rfl <;> omega
theorem pt_nine {top : Int} (h4 : 2 ≤ top) (h5 : top ≤ 10) : Pt 9 1 top := by
  refine ⟨by decide, by decide, h4, by omega, 7, 2, by decide, by decide, by decide, by omega, by decide, ?_⟩
  have : (2 : Nat) ^ 7 = 128 := rfl
  rw [this]
  omega
abbrev L0 (scr : R) (mode size many top : Int) : MP.Env := [some scr, some (.own 0), some (RI mode), some (RI size), some (RI many), some (RI top), none, none, none, none, none, none, none, none, none, none, none, none, none, none]
theorem rest_of {scr : R} {mode size many top : Int} {ns : List Int} (h0 : ∀ x ∈ ns, 0 ≤ x) (m t : Nat) (e1 : size = m) (e2 : many = t) (c : Pt m t top) : LEnd (evSs (st.T.C (n + 5)) (ISs.drop 9 ir0) (L0 scr mode size many top) [pool ns]) := by
  subst e1 e2
  exact says_rest (n := n) c h0
theorem says (ns : List Int) (hn : ns.length ≤ 63) : callN st.T (n + 6) 0 [.dat (.slst (ns.map D.int))] [] = .ok (.dat (.bl true)) [] := by
  refine run_q (F := f0) (fun r => r = .ok (.dat (.bl true)) []) rfl rfl ?_
  show LEnd _
  refine p_asg (S1 := [pool (cells ns)]) (.own 0) (e_cells rfl hn (fun v => rfl)) ?_
  have h0 := cells_nn ns
  generalize cells ns = ms at h0 ⊢
  obtain ⟨mode, ns1, a1, b1, n1, d1⟩ := e_draw (n := n + 4) (S := [pool ms]) (k := 0) (many := 16) rfl h0 (by decide) (by decide) (wf_pool ms)
  refine p_asg (S1 := [pool ns1]) (RI mode) (c_call2 (S1 := [pool ms]) (S2 := [pool ms]) rfl rfl d1) ?_
  obtain ⟨x, ns2, a2, b2, n2, d2⟩ := e_draw (n := n + 4) (S := [pool ns1]) (k := 0) (many := 6) rfl n1 (by decide) (by decide) (wf_pool ns1)
  refine p_asg (S1 := [pool ns2]) (RI (1 + (x + 2) % 6)) (c_add (S1 := [pool ns1]) rfl (c_mod (S1 := [pool ns2]) (i := x + 2) (j := 6) (c_bi1 (v := RI (x + 2)) (S1 := [pool ns2]) (c_add (S1 := [pool ns2]) (c_call2 (S1 := [pool ns1]) (S2 := [pool ns1]) rfl rfl d2) rfl) rfl) rfl (by decide))) ?_
  obtain ⟨y, ns3, a3, b3, n3, d3⟩ := e_draw (n := n + 4) (S := [pool ns2]) (k := 0) (many := 7) rfl n2 (by decide) (by decide) (wf_pool ns2)
  refine p_asg (S1 := [pool ns3]) (RI ((y + 2) % 7)) (c_mod (S1 := [pool ns3]) (i := y + 2) (j := 7) (c_bi1 (v := RI (y + 2)) (S1 := [pool ns3]) (c_add (S1 := [pool ns3]) (c_call2 (S1 := [pool ns2]) (S2 := [pool ns2]) rfl rfl d3) rfl) rfl) rfl (by decide)) ?_
  obtain ⟨z, ns4, a4, b4, n4, d4⟩ := e_draw (n := n + 4) (S := [pool ns3]) (k := 0) (many := 4) rfl n3 (by decide) (by decide) (wf_pool ns3)
  refine p_l4 (S' := [pool ns4]) (i := 4) (j := 10) (k := 2) (l := 6) rfl rfl rfl rfl (c_call2 (S1 := [pool ns3]) (S2 := [pool ns3]) rfl rfl d4) a4 b4 fun top htop => ?_
  have t2 : 2 ≤ top ∧ top ≤ 10 := by omega
  have hs : 1 ≤ 1 + (x + 2) % 6 ∧ 1 + (x + 2) % 6 ≤ 6 := by omega
  have hy : 0 ≤ (y + 2) % 7 ∧ (y + 2) % 7 ≤ 6 := by omega
  generalize 1 + (x + 2) % 6 = size at hs ⊢
  generalize (y + 2) % 7 = many0 at hy ⊢
  refine w_ifN (S1 := [pool ns4]) (decide (3 < size)) (fun ρ S => ∃ many, 0 ≤ many ∧ many ≤ 6 ∧ (3 < size → many ≤ 3) ∧ ρ = L0 (.dat (.slst (ns.map D.int))) mode size many top ∧ S = [pool ns4]) rfl (fun _ => p_asg (RI (many0 % 4)) (c_mod (i := many0) (j := 4) rfl rfl (by decide)) ⟨_, by omega, by omega, fun _ => by omega, rfl, rfl⟩) (fun e => ⟨_, hy.1, hy.2, fun h => by have := of_decide_eq_false e; omega, rfl, rfl⟩) ?_
  intro ρ S ⟨many, c1, c2, c3, e1, e2⟩
  subst e1 e2
  refine w_if (S1 := [pool ns4]) (decide (mode = 1)) rfl (fun t => ?_) (fun t => ?_)
  · have hm := of_decide_eq_true t
    refine p_asg (S1 := [pool ns4]) (RI (1 + size % 2)) (c_add rfl (c_mod (i := size) (j := 2) rfl rfl (by decide))) (p_asg (S1 := [pool ns4]) (RI 30) rfl ?_)
    refine w_if0 (t := decide (mode = 2)) (S1 := [pool ns4]) rfl (decide_eq_false (by omega)) (w_if0 (t := decide (mode = 3)) (S1 := [pool ns4]) rfl (decide_eq_false (by omega)) ?_)
    exact rest_of (n := n) n4 (1 + size % 2).toNat 30 (by omega) rfl (pt_long (by omega) (by omega) t2.1 t2.2)
  have hm1 := of_decide_eq_false t
  refine w_if (S1 := [pool ns4]) (decide (mode = 2)) rfl (fun t => ?_) (fun t => ?_)
  · have hm := of_decide_eq_true t
    refine p_asg (S1 := [pool ns4]) (RI (1 + (size + 2) % 3)) (c_add rfl (c_mod (i := size + 2) (j := 3) rfl rfl (by decide))) ?_
    refine p_asg (S1 := [pool ns4]) (RI (1 + many % 2)) (c_add rfl (c_mod (i := many) (j := 2) rfl rfl (by decide))) ?_
    refine p_asg (S1 := [pool ns4]) (RI 1000000000000000000000000000001) (c_add (i := 1000000000000000000000000000000) (j := 1) ((e_pow (i := 10) (j := 30) rfl rfl (by decide)).trans ?_) rfl) ?_
    · have e : (10 : Int) ^ (Int.toNat 30) = 1000000000000000000000000000000 := by decide +kernel
      rw [e]
    refine w_if0 (t := decide (mode = 3)) (S1 := [pool ns4]) rfl (decide_eq_false (by omega)) ?_
    exact rest_of (n := n) n4 (1 + (size + 2) % 3).toNat (1 + many % 2).toNat (by omega) (by omega) (pt_wide (by omega) (by omega) (by omega))
  refine w_if (S1 := [pool ns4]) (decide (mode = 3)) rfl (fun t => ?_) (fun t => ?_)
  · refine p_asg (S1 := [pool ns4]) (RI 9) rfl (p_asg (S1 := [pool ns4]) (RI 1) rfl ?_)
    exact rest_of (n := n) n4 9 1 rfl rfl (pt_nine t2.1 t2.2)
  · exact rest_of (n := n) n4 size.toNat many.toNat (by omega) (by omega) (pt_small (by omega) (by omega) (by omega) (by omega) t2.1 t2.2)

end K25
set_option Elab.async false
set_option linter.all false
set_option maxRecDepth 1000000
set_option maxHeartbeats 0
/-! K25Head: the top of the text, once. -/
namespace K25
open PySem PySem.W PySem.Calls PyProof.Rows MP
abbrev RW0 : OpenRow := OpenLaw.row PySem.Challenge.rw_spreadgap_k25_strays_and_trace
abbrev qv : Program := view RW0.prog [0, 69]
def names1 : List PySem.Str := ["_wall", "_kept", "GapError", "ZeroBottom", "BadNumber", "OutOfRange", "BadShape", "BadPlace", "TooMuch", "NotSymmetric", "BadWeight", "Bare", "DIGITS", "MOST_SIGNS", "MOST_POWER", "as_frac", "_is_digits", "Frac", "_power", "MOST_ROWS", "Table", "_dot", "need_row", "MOST_PLACES", "MOST_WEIGHT", "MOST_STEPS_web", "_need_square", "_need_weights", "_need_symmetric", "_need_tied", "_need_room"]
def names2 : List PySem.Str := ["need_place", "Web", "made_web", "mixed_web", "raised_web", "MOST_STEPS_shares", "need_steps", "common_degree", "step_numbers", "begun", "dealt", "walked", "stray_numbers", "start_stray", "trace", "_law_draw", "_law_whole", "_law_gcd", "_law_same", "_law_dot", "_law_power", "_law_let", "_law_drawn", "_law_base", "_law_dealt", "_law_spread", "_law_closed", "_law_place", "_law_range", "_law_sums"]
def names : List PySem.Str := names1 ++ names2
abbrev ex0 : PySem.W.Frag → Bool := exM st subs xfs inss
abbrev defs0 : List He.DefD := fn ++ xfn
abbrev hk : PySem.W.Hook := hookM 4 ex0 defs0
def ob (s : PySem.W.SharedT) : He.AlD := obsM 4 ex0 defs0 (HandSHeadRun.getT s)
theorem ob_eq (s : PySem.W.SharedT) : ob s = hk.obs s.abs := obsM_eq (HandSHeadRun.getT_eq s)
theorem run1 (w : World) : MP.LookEq RW0 qv 40000 names w := by
  show _ = _
  kernel_rfl
theorem run2 (w : World) : MP.ObEq RW0 (fun s => ex0 (He.frG (HandSHeadRun.getT s) (He.asD (HandSHeadRun.getT s) 4))) 40000 true w := by
  show _ = _
  kernel_rfl
theorem run3 (w : World) : MP.ObEq RW0 (fun s => He.obsD [] defs0 (He.frG (HandSHeadRun.getT s) (He.asD (HandSHeadRun.getT s) 4))) 40000 (He.valD defs0) w := by
  show _ = _
  kernel_rfl
theorem run (w : World) : HandSHeadRun.RunEqI RW0 qv hk ob 40000 names w := MP.runI_of (run1 w) (run2 w) (run3 w)
end K25
set_option Elab.async false
set_option linter.all false
set_option maxRecDepth 1000000
set_option maxHeartbeats 0
/-! K25Main: the law, from what the evaluation says. -/
namespace K25
open PySem PySem.W PySem.Calls PyProof.Rows
/-- what is left: the evaluation says True -/
def Says (n : Nat) : Prop := ∀ ns : List Int, ns.length ≤ 63 → MP.callN st.T n 0 [.dat (.slst (ns.map MP.D.int))] [] = .ok (.dat (.bl true)) []
theorem holds_of (n : Nat) (hr : L2.Room (3 * n + 1) callerA) (hs : Says n) : PySem.Challenge.rw_spreadgap_k25_strays_and_trace.Holds := by
  w_on; o_law
  refine HandSHeadRun.head_imp (r := OpenLaw.row PySem.Challenge.rw_spreadgap_k25_strays_and_trace) (q := K25.qv) (H := K25.hk) (ob := K25.ob) (M := 40000) (loose := K25.names) (d := HandSHeadRun.topDef (OpenLaw.row PySem.Challenge.rw_spreadgap_k25_strays_and_trace).prog 69) (kwd := []) K25.ob_eq K25.run
    (by kernel_rfl) (by kernel_rfl) (by kernel_rfl) (by rfl) (by first | assumption | decide +kernel) (by decide +kernel) ⟨rfl, rfl, rfl, rfl, rfl, by decide +kernel⟩ ?hw ?hc
  case hw => w_witness2
  case hc =>
    refine MP.walk_ofM (l := PySem.Challenge.rw_spreadgap_k25_strays_and_trace) (n := 63) (k := 3 * n + 1) (x := "script") rfl (by decide) (by kernel_rfl) hr ?F
    intro w mg fa h Y G hmg0
    obtain ⟨K, KX, hx, c⟩ := Y
    have hmg : mg ("law" : PySem.Str) = some (.ref fa) := by
      have e : (HandSHeadRun.topDef (OpenLaw.row PySem.Challenge.rw_spreadgap_k25_strays_and_trace).prog 69).name = ("law" : PySem.Str) := by kernel_rfl
      rw [← e]
      exact hmg0
    obtain ⟨fd, hb, hF⟩ := MP.law_of (P := PySem.Challenge.rw_spreadgap_k25_strays_and_trace.prog) (w := w) stat KX G hx c (F := f0) rfl (x := "script") (by decide) (by decide) hmg (fun d e => by cases e; rfl) n
    exact ⟨K, fd, _, KX, hb, fun H a ns hl _ hS => MP.sp_law (Nat.le_trans hl (by decide)) hS (hs ns hl), fun base _ _ => hF base⟩
end K25
set_option Elab.async false
set_option linter.all false
set_option maxRecDepth 1000000
set_option maxHeartbeats 0
theorem PySem.Challenge.cw_spreadgap_k25_strays_and_trace_holds : PySem.Challenge.rw_spreadgap_k25_strays_and_trace.Holds :=
  K25.holds_of 12 ⟨by decide, by decide, by decide⟩ fun ns hn => K25.says (n := 6) ns hn
