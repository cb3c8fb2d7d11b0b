import PyProof.Rows.All
import Wide.All
import OpenK.AllK
import Wide.FinOn
import HandS.ForMost
import HandS.HeadHook2
import HandS.Wide
import HandS.ExcCtx
import HandS.HotCalls
import HandS.ExcInit
import HandS.ExcField
import HandS.IsInst
import HandS.Gcd
import KE.KTupSum
import KE.KMathG
import HandS.ExcIs
import HandS.MakeKwOnly
import KE.GoesZip
import KE.GoesMore
import HandS.Zip
import HandS.Walk
import HandS.Defaults
import HandS.Head3
import HandS.HeadEnd
import PySem.Challenge.RW_spreadgap_k27_settling_time
import KE.KStateDown
import HandS.Head0
import HandS.Head1
import HandS.Head2
set_option Elab.async false
set_option linter.all false
set_option maxRecDepth 100000
set_option maxHeartbeats 4000000
/-! MPBase: the data, the store, worlds, and how they are laid in the abstract heap. -/
namespace MP
open PySem PySem.Spec PyProof.Rows L2
abbrev St := L2.St

inductive D where
  | non | bl (b : Bool) | int (i : Int) | str (s : Str) | tup (l : List D) | lst (l : List D) | slst (l : List D)
  | obj (c : Str) (ns : List Str) (l : List D)
inductive R where
  | dat (d : D) | own (k : Nat) | exc (c : Str) (ns : List Str) (l : List D)
inductive Cell where
  | lst (rs : List R) | tup (rs : List R) | obj (c : Str) (ns : List Str) (rs : List R)
abbrev Store := List Cell
abbrev Env := List (Option R)

/-- a world: the abstract heap, the live cells -/
structure Wd where
  H : Hp
  n : Nat
  p : Nat → Addr
  /-- addresses that are being made -/
  hid : List Addr
def Wd.Live (w : Wd) (a : Addr) : Prop := (∃ k, k < w.n ∧ w.p k = a) ∨ a ∈ w.hid
/-- from one world to a later one: only live cells may have changed -/
structure Ext (w w' : Wd) : Prop where
  le : w.n ≤ w'.n
  p : ∀ k, k < w.n → w'.p k = w.p k
  fr : ∀ a o, w.H a = some o → ¬ w.Live a → w'.H a = some o
  th : ∀ a, w.H a ≠ none → w'.H a ≠ none
  nw : ∀ k, w.n ≤ k → k < w'.n → w.H (w'.p k) = none
  hk : ∀ a, a ∈ w.hid → a ∈ w'.hid ∧ w'.H a = w.H a
  hn : ∀ a, a ∈ w'.hid → a ∈ w.hid ∨ w.H a = none
theorem Ext.refl (w : Wd) : Ext w w := ⟨Nat.le_refl _, fun _ _ => rfl, fun _ _ h _ => h, fun _ h => h, fun k h1 h2 => absurd h2 (Nat.not_lt.mpr h1), fun _ h => ⟨h, rfl⟩, fun _ h => .inl h⟩
theorem Ext.nlive {w w' : Wd} (x : Ext w w') {a : Addr} (h : w.H a ≠ none) (n : ¬ w.Live a) : ¬ w'.Live a := fun z => by
  rcases z with ⟨k, hk, e⟩ | z
  · by_cases q : k < w.n
    · exact n (.inl ⟨k, q, by rw [← x.p k q]; exact e⟩)
    · have z := x.nw k (Nat.not_lt.mp q) hk
      rw [e] at z
      exact h z
  · rcases x.hn a z with z | z
    · exact n (.inr z)
    · exact h z
theorem Ext.trans {w w' w'' : Wd} (x : Ext w w') (y : Ext w' w'') : Ext w w'' where
  le := Nat.le_trans x.le y.le
  p := fun k h => (y.p k (Nat.lt_of_lt_of_le h x.le)).trans (x.p k h)
  fr := fun a o h n => y.fr a o (x.fr a o h n) (x.nlive (by rw [h]; exact Option.some_ne_none _) n)
  th := fun a h => y.th a (x.th a h)
  nw := fun k h1 h2 => by
    by_cases q : k < w'.n
    · rw [y.p k q]; exact x.nw k h1 q
    · have z := y.nw k (Nat.not_lt.mp q) h2
      cases e : w.H (w''.p k) with
      | none => rfl
      | some o => exact absurd z (x.th _ (by rw [e]; exact Option.some_ne_none _))
  hk := fun a h => ⟨(y.hk a (x.hk a h).1).1, (y.hk a (x.hk a h).1).2.trans (x.hk a h).2⟩
  hn := fun a h => by
    rcases y.hn a h with z | z
    · exact x.hn a z
    · cases e : w.H a with
      | none => exact .inr rfl
      | some o => exact absurd z (x.th _ (by rw [e]; exact Option.some_ne_none _))

/-- a list that the written part holds -/
def KL (K : PySem.W.Frag) (a : Addr) (xs : List V) : Prop :=
  ∃ (o : Obj) (its : Array Value) (n : Nat), K.lookup a = some o ∧ o.cls = .type "list" ∧ o.dict = none ∧ o.data = .seq its n ∧ its.size ≤ sizeLine ∧ Vals xs its.toList
section
variable (K : PySem.W.Frag)
mutual
/-- data at a value: nothing of it is a live cell -/
def Rep (w : Wd) : D → V → Prop
  | .non, v => v = .non
  | .bl b, v => v = .bl b
  | .int i, v => v = .int i
  | .str s, v => v = .str s
  | .tup l, v => ∃ a vs, v = .ref a ∧ ¬ w.Live a ∧ w.H a = some (.tup vs) ∧ vs.length ≤ sizeLine ∧ Reps w l vs
  | .lst l, v => ∃ a vs, v = .ref a ∧ ¬ w.Live a ∧ w.H a = some (.lst vs) ∧ vs.length ≤ sizeLine ∧ Reps w l vs
  | .slst l, v => ∃ a vs, v = .ref a ∧ ((¬ w.Live a ∧ Rd w.H a (.lst vs)) ∨ KL K a vs) ∧ vs.length ≤ sizeLine ∧ Reps w l vs
  | .obj c ns l, v => ∃ a dx fs, v = .ref a ∧ ¬ w.Live a ∧ w.H a = some (.ins (He.ga K c) dx fs) ∧ fs.map (·.1) = ns ∧ Reps w l (fs.map (·.2))
def Reps (w : Wd) : List D → List V → Prop
  | [], vs => vs = []
  | d :: l, vs => ∃ v r, vs = v :: r ∧ Rep w d v ∧ Reps w l r
end
def Rel (w : Wd) : R → V → Prop
  | .dat d, v => Rep K w d v
  | .own k, v => k < w.n ∧ v = .ref (w.p k)
  | .exc _ _ _, _ => False
def Rels (w : Wd) : List R → List V → Prop
  | [], vs => vs = []
  | d :: l, vs => ∃ v r, vs = v :: r ∧ Rel K w d v ∧ Rels w l r
def CellR (w : Wd) (a : Addr) : Cell → Prop
  | .lst rs => ∃ vs, w.H a = some (.lst vs) ∧ vs.length ≤ sizeLine ∧ Rels K w rs vs
  | .tup rs => ∃ vs, w.H a = some (.tup vs) ∧ vs.length ≤ sizeLine ∧ Rels K w rs vs
  | .obj c ns rs => ∃ dx fs, w.H a = some (.ins (He.ga K c) dx fs) ∧ fs.map (·.1) = ns ∧ Rels K w rs (fs.map (·.2))
structure SR (w : Wd) (S : Store) : Prop where
  n : w.n = S.length
  inj : ∀ i j, i < w.n → j < w.n → w.p i = w.p j → i = j
  hid : ∀ a, a ∈ w.hid → w.H a ≠ none ∧ ∀ k, k < w.n → w.p k ≠ a
  cell : ∀ (k : Nat) (c : Cell), S[k]? = some c → CellR K w (w.p k) c
end

section
variable {K : PySem.W.Frag} {w w' : Wd} {S : Store}
theorem KL.sq {H : Hp} {a : Addr} {vs : List V} (h : KL K a vs) : SqL K H a vs := .inr h
mutual
theorem Rep.imp (x : ∀ a o, ¬ w.Live a → w.H a = some o → ¬ w'.Live a ∧ w'.H a = some o) : ∀ (d : D) (v : V), Rep K w d v → Rep K w' d v
  | .non, _, h => h
  | .bl _, _, h => h
  | .int _, _, h => h
  | .str _, _, h => h
  | .tup l, v, h => by
    obtain ⟨a, vs, e, n, h1, hz, h2⟩ := h
    exact ⟨a, vs, e, (x _ _ n h1).1, (x _ _ n h1).2, hz, Reps.imp x l vs h2⟩
  | .lst l, v, h => by
    obtain ⟨a, vs, e, n, h1, hz, h2⟩ := h
    exact ⟨a, vs, e, (x _ _ n h1).1, (x _ _ n h1).2, hz, Reps.imp x l vs h2⟩
  | .slst l, v, h => by
    obtain ⟨a, vs, e, h1, hz, h2⟩ := h
    refine ⟨a, vs, e, ?_, hz, Reps.imp x l vs h2⟩
    rcases h1 with ⟨n, h1 | ⟨o, h1⟩⟩ | h1
    · exact .inl ⟨(x _ _ n h1).1, .inl (x _ _ n h1).2⟩
    · exact .inl ⟨(x _ _ n h1).1, .inr ⟨o, (x _ _ n h1).2⟩⟩
    · exact .inr h1
  | .obj c ns l, v, h => by
    obtain ⟨a, dx, fs, e, n, h1, h2, h3⟩ := h
    exact ⟨a, dx, fs, e, (x _ _ n h1).1, (x _ _ n h1).2, h2, Reps.imp x l _ h3⟩
theorem Reps.imp (x : ∀ a o, ¬ w.Live a → w.H a = some o → ¬ w'.Live a ∧ w'.H a = some o) : ∀ (l : List D) (vs : List V), Reps K w l vs → Reps K w' l vs
  | [], _, h => h
  | d :: l, vs, h => by
    obtain ⟨v, r, e, h1, h2⟩ := h
    exact ⟨v, r, e, Rep.imp x d v h1, Reps.imp x l r h2⟩
end
theorem Ext.keep (x : Ext w w') : ∀ a o, ¬ w.Live a → w.H a = some o → ¬ w'.Live a ∧ w'.H a = some o := fun a o n h =>
  ⟨x.nlive (by rw [h]; exact Option.some_ne_none _) n, x.fr a o h n⟩
theorem Rep.ext (x : Ext w w') {d : D} {v : V} (h : Rep K w d v) : Rep K w' d v := Rep.imp x.keep d v h
theorem Reps.ext (x : Ext w w') {d : List D} {v : List V} (h : Reps K w d v) : Reps K w' d v := Reps.imp x.keep d v h
/-- what data and cells ask of a later world -/
structure Mono (w w' : Wd) : Prop where
  keep : ∀ a o, ¬ w.Live a → w.H a = some o → ¬ w'.Live a ∧ w'.H a = some o
  le : w.n ≤ w'.n
  p : ∀ k, k < w.n → w'.p k = w.p k
theorem Ext.mono (x : Ext w w') : Mono w w' := ⟨x.keep, x.le, x.p⟩
theorem Mono.trans {w w' w'' : Wd} (x : Mono w w') (y : Mono w' w'') : Mono w w'' :=
  ⟨fun a o n h => y.keep a o (x.keep a o n h).1 (x.keep a o n h).2, Nat.le_trans x.le y.le, fun k h => (y.p k (Nat.lt_of_lt_of_le h x.le)).trans (x.p k h)⟩
theorem Rel.mono (x : Mono w w') : ∀ {r : R} {v : V}, Rel K w r v → Rel K w' r v
  | .dat _, _, h => Rep.imp x.keep _ _ h
  | .own k, _, ⟨h1, h2⟩ => ⟨Nat.lt_of_lt_of_le h1 x.le, by rw [x.p k h1]; exact h2⟩
theorem Rels.mono (x : Mono w w') : ∀ {r : List R} {v : List V}, Rels K w r v → Rels K w' r v
  | [], _, h => h
  | _ :: _, _, ⟨v, r, e, h1, h2⟩ => ⟨v, r, e, h1.mono x, Rels.mono x h2⟩
theorem CellR.mono (x : Mono w w') {a : Addr} {c : Cell} (h : CellR K w a c) (e : w'.H a = w.H a) : CellR K w' a c := by
  cases c with
  | lst rs => obtain ⟨vs, h1, hz, h2⟩ := h; exact ⟨vs, e.trans h1, hz, h2.mono x⟩
  | tup rs => obtain ⟨vs, h1, hz, h2⟩ := h; exact ⟨vs, e.trans h1, hz, h2.mono x⟩
  | obj c ns rs => obtain ⟨dx, fs, h1, h2, h3⟩ := h; exact ⟨dx, fs, e.trans h1, h2, h3.mono x⟩
theorem Rel.ext (x : Ext w w') {r : R} {v : V} (h : Rel K w r v) : Rel K w' r v := h.mono x.mono
theorem Rels.ext (x : Ext w w') {r : List R} {v : List V} (h : Rels K w r v) : Rels K w' r v := h.mono x.mono
theorem CellR.ext (x : Ext w w') {a : Addr} {c : Cell} (h : CellR K w a c) (e : w'.H a = w.H a) : CellR K w' a c := h.mono x.mono e
theorem CellR.some {a : Addr} {c : Cell} (h : CellR K w a c) : w.H a ≠ none := by
  cases c with
  | lst rs => obtain ⟨vs, h1, _⟩ := h; rw [h1]; exact Option.some_ne_none _
  | tup rs => obtain ⟨vs, h1, _⟩ := h; rw [h1]; exact Option.some_ne_none _
  | obj c ns rs => obtain ⟨dx, fs, h1, _⟩ := h; rw [h1]; exact Option.some_ne_none _
theorem SR.get (s : SR K w S) {k : Nat} (h : k < w.n) : ∃ c, S[k]? = some c ∧ CellR K w (w.p k) c := by
  have h2 : k < S.length := by rw [← s.n]; exact h
  exact ⟨S[k], List.getElem?_eq_getElem h2, s.cell k _ (List.getElem?_eq_getElem h2)⟩
theorem SR.live_some (s : SR K w S) {a : Addr} (h : w.Live a) : w.H a ≠ none := by
  rcases h with ⟨k, hk, e⟩ | h
  · obtain ⟨c, _, h2⟩ := s.get hk
    rw [← e]
    exact h2.some
  · exact (s.hid a h).1
theorem SR.nlive (s : SR K w S) {a : Addr} (h : w.H a = none) : ¬ w.Live a := fun z => s.live_some z h
theorem SR.lt (s : SR K w S) {k : Nat} {c : Cell} (h : S[k]? = some c) : k < w.n := by
  rw [s.n]
  exact (List.getElem?_eq_some_iff.mp h).1
theorem upd_some {H : Hp} {a b : Addr} {o : HO} (h : H b ≠ none) : upd H a o b ≠ none := by
  by_cases q : b = a
  · rw [q, upd_same]; exact Option.some_ne_none _
  · rw [upd_ne q]; exact h

/-- a new object that is data -/
def Wd.new (w : Wd) (a : Addr) (o : HO) : Wd := { w with H := upd w.H a o }
theorem ext_new {a : Addr} {o : HO} (s : SR K w S) (h : w.H a = none) : Ext w (w.new a o) where
  le := Nat.le_refl _
  p := fun _ _ => rfl
  fr := fun b u e _ => by
    show upd w.H a o b = _
    rw [upd_ne (ne_of_none e h)]
    exact e
  th := fun b e => upd_some e
  nw := fun k h1 h2 => absurd h2 (Nat.not_lt.mpr h1)
  hk := fun b hb => ⟨hb, upd_ne fun q => (s.hid b hb).1 (by rw [q]; exact h)⟩
  hn := fun _ hb => .inl hb
theorem new_same {a : Addr} {o : HO} : (w.new a o).H a = some o := upd_same
theorem nlive_new {a : Addr} {o : HO} (s : SR K w S) (h : w.H a = none) : ¬ (w.new a o).Live a := s.nlive h
theorem SR.new {a : Addr} {o : HO} (s : SR K w S) (h : w.H a = none) : SR K (w.new a o) S :=
  ⟨s.n, s.inj, fun b hb => ⟨upd_some (s.hid b hb).1, (s.hid b hb).2⟩, fun k c e => (s.cell k c e).ext (ext_new s h) (upd_ne fun q => (s.cell k c e).some (by rw [q]; exact h))⟩
/-- a new live cell -/
def Wd.push (w : Wd) (a : Addr) (o : HO) : Wd := ⟨upd w.H a o, w.n + 1, fun k => if k = w.n then a else w.p k, w.hid⟩
theorem push_p {a : Addr} {o : HO} : (w.push a o).p w.n = a := if_pos rfl
theorem push_lt {a : Addr} {o : HO} {k : Nat} (h : k < w.n) : (w.push a o).p k = w.p k := if_neg (Nat.ne_of_lt h)
theorem ext_push {a : Addr} {o : HO} (s : SR K w S) (h : w.H a = none) : Ext w (w.push a o) where
  le := Nat.le_succ _
  p := fun _ q => push_lt q
  fr := fun b u e _ => by
    show upd w.H a o b = _
    rw [upd_ne (ne_of_none e h)]
    exact e
  th := fun b e => upd_some e
  nw := fun k h1 h2 => by
    have e : k = w.n := Nat.le_antisymm (Nat.le_of_lt_succ h2) h1
    rw [e, push_p]
    exact h
  hk := fun b hb => ⟨hb, upd_ne fun q => (s.hid b hb).1 (by rw [q]; exact h)⟩
  hn := fun _ hb => .inl hb
theorem SR.push {a : Addr} {o : HO} {c : Cell} (s : SR K w S) (h : w.H a = none) (hc : CellR K (w.push a o) a c) : SR K (w.push a o) (S ++ [c]) where
  n := by rw [List.length_append, ← s.n]; rfl
  inj := fun i j hi hj e => by
    have hi' : i < w.n + 1 := hi
    have hj' : j < w.n + 1 := hj
    by_cases qi : i = w.n
    · by_cases qj : j = w.n
      · rw [qi, qj]
      · have lj : j < w.n := by omega
        rw [qi, push_p, push_lt lj] at e
        exact absurd (show w.Live a from .inl ⟨j, lj, e.symm⟩) (s.nlive h)
    · have li : i < w.n := by omega
      by_cases qj : j = w.n
      · rw [qj, push_p, push_lt li] at e
        exact absurd (show w.Live a from .inl ⟨i, li, e⟩) (s.nlive h)
      · have lj : j < w.n := by omega
        rw [push_lt li, push_lt lj] at e
        exact s.inj i j li lj e
  hid := fun b hb => by
    refine ⟨upd_some (s.hid b hb).1, fun k hk => ?_⟩
    have hk' : k < w.n + 1 := hk
    by_cases q : k = w.n
    · rw [q, push_p]
      exact fun z => (s.hid b hb).1 (by rw [← z]; exact h)
    · rw [push_lt (by omega)]
      exact (s.hid b hb).2 k (by omega)
  cell := fun k c' e => by
    by_cases q : k < S.length
    · rw [List.getElem?_append_left q] at e
      have lk : k < w.n := by rw [s.n]; exact q
      rw [push_lt lk]
      exact (s.cell k c' e).ext (ext_push s h) (upd_ne fun z => (s.cell k c' e).some (by rw [z]; exact h))
    · rw [List.getElem?_append_right (Nat.not_lt.mp q)] at e
      have k0 : k = S.length := by
        by_cases z : k - S.length = 0
        · omega
        · rw [show k - S.length = (k - S.length - 1) + 1 by omega] at e
          simp at e
      rw [k0, Nat.sub_self] at e
      have e2 : c = c' := by simpa using e
      rw [← e2, k0, ← s.n, push_p]
      exact hc
/-- a live cell is written -/
def Wd.put (w : Wd) (k : Nat) (o : HO) : Wd := { w with H := upd w.H (w.p k) o }
theorem ext_put {k : Nat} {o : HO} (s : SR K w S) (hk : k < w.n) : Ext w (w.put k o) where
  le := Nat.le_refl _
  p := fun _ _ => rfl
  fr := fun b u e nl => by
    show upd w.H (w.p k) o b = _
    rw [upd_ne fun q => nl (.inl ⟨k, hk, q.symm⟩)]
    exact e
  th := fun b e => upd_some e
  nw := fun j h1 h2 => absurd h2 (Nat.not_lt.mpr h1)
  hk := fun b hb => ⟨hb, upd_ne fun q => (s.hid b hb).2 k hk q.symm⟩
  hn := fun _ hb => .inl hb
theorem SR.put {k : Nat} {o : HO} {c : Cell} (s : SR K w S) (hk : k < w.n) (hc : CellR K (w.put k o) (w.p k) c) : SR K (w.put k o) (S.set k c) where
  n := by rw [List.length_set]; exact s.n
  inj := s.inj
  hid := fun b hb => ⟨upd_some (s.hid b hb).1, (s.hid b hb).2⟩
  cell := fun j c' e => by
    by_cases q : j = k
    · subst q
      rw [List.getElem?_set_self (by rw [← s.n]; exact hk)] at e
      cases e
      exact hc
    · rw [List.getElem?_set_ne (Ne.symm q)] at e
      have lj : j < w.n := s.lt e
      exact (s.cell j c' e).ext (ext_put s hk) (upd_ne fun z => q (s.inj j k lj hk z))

/-! ### cells are given up -/
def Wd.cut (w : Wd) (m : Nat) : Wd := { w with n := m }
def R.below (m : Nat) : R → Bool
  | .dat _ => true
  | .own k => decide (k < m)
  | .exc _ _ _ => false
def Cell.below (m : Nat) : Cell → Bool
  | .lst rs => rs.all (R.below m)
  | .tup rs => rs.all (R.below m)
  | .obj _ _ rs => rs.all (R.below m)
theorem cut_live {m : Nat} (h : m ≤ w.n) {a : Addr} (z : (w.cut m).Live a) : w.Live a := by
  rcases z with ⟨k, hk, e⟩ | z
  · exact .inl ⟨k, Nat.lt_of_lt_of_le hk h, e⟩
  · exact .inr z
theorem cut_keep {m : Nat} (h : m ≤ w.n) : ∀ a o, ¬ w.Live a → w.H a = some o → ¬ (w.cut m).Live a ∧ (w.cut m).H a = some o := fun _ _ n e => ⟨fun z => n (cut_live h z), e⟩
theorem Rel.cut {m : Nat} (h : m ≤ w.n) : ∀ {r : R} {v : V}, R.below m r = true → Rel K w r v → Rel K (w.cut m) r v
  | .dat d, v, _, q => Rep.imp (cut_keep h) d v q
  | .own k, _, b, ⟨_, q⟩ => ⟨of_decide_eq_true b, q⟩
theorem Rels.cut {m : Nat} (h : m ≤ w.n) : ∀ {r : List R} {v : List V}, r.all (R.below m) = true → Rels K w r v → Rels K (w.cut m) r v
  | [], _, _, q => q
  | _ :: _, _, b, ⟨v, r, e, h1, h2⟩ => by
    rw [List.all_cons, Bool.and_eq_true] at b
    exact ⟨v, r, e, h1.cut h b.1, Rels.cut h b.2 h2⟩
theorem CellR.cut {m : Nat} (h : m ≤ w.n) {a : Addr} {c : Cell} (b : c.below m = true) (q : CellR K w a c) : CellR K (w.cut m) a c := by
  cases c with
  | lst rs => obtain ⟨vs, h1, hz, h2⟩ := q; exact ⟨vs, h1, hz, h2.cut h b⟩
  | tup rs => obtain ⟨vs, h1, hz, h2⟩ := q; exact ⟨vs, h1, hz, h2.cut h b⟩
  | obj c ns rs => obtain ⟨dx, fs, h1, h2, h3⟩ := q; exact ⟨dx, fs, h1, h2, h3.cut h b⟩
theorem SR.cut {m : Nat} (s : SR K w S) (h : m ≤ w.n) (b : (S.take m).all (Cell.below m) = true) : SR K (w.cut m) (S.take m) where
  n := by rw [List.length_take, ← s.n]; exact (Nat.min_eq_left h).symm
  inj := fun i j hi hj => s.inj i j (Nat.lt_of_lt_of_le hi h) (Nat.lt_of_lt_of_le hj h)
  hid := fun b hb => ⟨(s.hid b hb).1, fun k hk => (s.hid b hb).2 k (Nat.lt_of_lt_of_le hk h)⟩
  cell := fun k c e => by
    have b1 := List.all_eq_true.mp b c (List.mem_of_getElem? e)
    have hk : k < m := by
      have := (List.getElem?_eq_some_iff.mp e).1
      rw [List.length_take] at this
      omega
    rw [List.getElem?_take_of_lt hk] at e
    exact (s.cell k c e).cut h b1
theorem Ext.cut {m : Nat} (x : Ext w w') (h : w.n = m) : Ext w (w'.cut m) where
  le := Nat.le_of_eq h
  p := x.p
  fr := x.fr
  th := x.th
  nw := fun k h1 h2 => absurd (show k < m from h2) (by omega)
  hk := x.hk
  hn := x.hn
/-! ### a list that is being made -/
def Wd.hide (w : Wd) (a : Addr) (o : HO) : Wd := ⟨upd w.H a o, w.n, w.p, a :: w.hid⟩
def Wd.poke (w : Wd) (a : Addr) (o : HO) : Wd := { w with H := upd w.H a o }
def Wd.show (w : Wd) (a : Addr) : Wd := { w with hid := w.hid.filter fun b => decide (b ≠ a) }
def Wd.own (w : Wd) (a : Addr) : Wd := ⟨w.H, w.n + 1, fun k => if k = w.n then a else w.p k, w.hid.filter fun b => decide (b ≠ a)⟩
theorem ext_hide {a : Addr} {o : HO} (s : SR K w S) (h : w.H a = none) : Ext w (w.hide a o) where
  le := Nat.le_refl _
  p := fun _ _ => rfl
  fr := fun b u e _ => by
    show upd w.H a o b = _
    rw [upd_ne (ne_of_none e h)]
    exact e
  th := fun b e => upd_some e
  nw := fun k h1 h2 => absurd h2 (Nat.not_lt.mpr h1)
  hk := fun b hb => ⟨List.mem_cons_of_mem _ hb, upd_ne fun q => (s.hid b hb).1 (by rw [q]; exact h)⟩
  hn := fun b hb => by
    rcases List.mem_cons.mp hb with q | q
    · exact .inr (by rw [q]; exact h)
    · exact .inl q
theorem SR.hide {a : Addr} {o : HO} (s : SR K w S) (h : w.H a = none) : SR K (w.hide a o) S where
  n := s.n
  inj := s.inj
  hid := fun b hb => by
    rcases List.mem_cons.mp hb with q | q
    · rw [q]
      exact ⟨by show upd w.H a o a ≠ none; rw [upd_same]; exact Option.some_ne_none _, fun k hk z => s.live_some (.inl ⟨k, hk, z⟩) h⟩
    · exact ⟨upd_some (s.hid b q).1, (s.hid b q).2⟩
  cell := fun k c e => (s.cell k c e).ext (ext_hide s h) (upd_ne fun q => (s.cell k c e).some (by rw [q]; exact h))
theorem mono_poke {a : Addr} {o : HO} (h : a ∈ w.hid) : Mono w (w.poke a o) :=
  ⟨fun b u nl e => ⟨nl, by show upd w.H a o b = _; rw [upd_ne fun q => nl (by rw [q]; exact .inr h)]; exact e⟩, Nat.le_refl _, fun _ _ => rfl⟩
theorem SR.poke {a : Addr} {o : HO} (s : SR K w S) (h : a ∈ w.hid) : SR K (w.poke a o) S where
  n := s.n
  inj := s.inj
  hid := fun b hb => ⟨upd_some (s.hid b hb).1, (s.hid b hb).2⟩
  cell := fun k c e => (s.cell k c e).mono (mono_poke h) (upd_ne fun q => (s.hid a h).2 k (s.lt e) q)
theorem Ext.poke {w0 : Wd} {a : Addr} {o : HO} (x : Ext w0 w) (s0 : ∀ b, b ∈ w0.hid → w0.H b ≠ none) (h : w0.H a = none) : Ext w0 (w.poke a o) where
  le := x.le
  p := x.p
  fr := fun b u e nl => by
    show upd w.H a o b = _
    rw [upd_ne (ne_of_none e h)]
    exact x.fr b u e nl
  th := fun b e => upd_some (x.th b e)
  nw := x.nw
  hk := fun b hb => ⟨(x.hk b hb).1, by
    show upd w.H a o b = _
    rw [upd_ne fun q => s0 b hb (by rw [q]; exact h)]
    exact (x.hk b hb).2⟩
  hn := x.hn
theorem Ext.show {w0 : Wd} {a : Addr} (x : Ext w0 w) (s0 : ∀ b, b ∈ w0.hid → w0.H b ≠ none) (h : w0.H a = none) : Ext w0 (w.show a) where
  le := x.le
  p := x.p
  fr := x.fr
  th := x.th
  nw := x.nw
  hk := fun b hb => ⟨List.mem_filter.mpr ⟨(x.hk b hb).1, decide_eq_true fun q => s0 b hb (by rw [q]; exact h)⟩, (x.hk b hb).2⟩
  hn := fun b hb => x.hn b (List.mem_filter.mp hb).1
theorem mono_show {a : Addr} : Mono w (w.show a) :=
  ⟨fun b u nl e => ⟨fun z => nl (by
    rcases z with z | z
    · exact .inl z
    · exact .inr (List.mem_filter.mp z).1), e⟩, Nat.le_refl _, fun _ _ => rfl⟩
theorem SR.show {a : Addr} (s : SR K w S) : SR K (w.show a) S where
  n := s.n
  inj := s.inj
  hid := fun b hb => s.hid b (List.mem_filter.mp hb).1
  cell := fun k c e => (s.cell k c e).mono mono_show rfl
theorem nlive_show {a : Addr} (s : SR K w S) (h : a ∈ w.hid) : ¬ (w.show a).Live a := fun z => by
  rcases z with ⟨k, hk, e⟩ | z
  · exact (s.hid a h).2 k hk e
  · exact absurd rfl (of_decide_eq_true (List.mem_filter.mp z).2)
theorem own_lt {a : Addr} {k : Nat} (h : k < w.n) : (w.own a).p k = w.p k := if_neg (Nat.ne_of_lt h)
theorem own_p {a : Addr} : (w.own a).p w.n = a := if_pos rfl
theorem mono_own {a : Addr} (h : a ∈ w.hid) : Mono w (w.own a) :=
  ⟨fun b u nl e => ⟨fun z => nl (by
    rcases z with ⟨k, hk, z⟩ | z
    · have hk' : k < w.n + 1 := hk
      by_cases q : k = w.n
      · rw [q, own_p] at z
        rw [← z]
        exact .inr h
      · rw [own_lt (by omega)] at z
        exact .inl ⟨k, by omega, z⟩
    · exact .inr (List.mem_filter.mp z).1), e⟩, Nat.le_succ _, fun _ q => own_lt q⟩
theorem Ext.own {w0 : Wd} {a : Addr} (x : Ext w0 w) (s0 : ∀ b, b ∈ w0.hid → w0.H b ≠ none) (h : w0.H a = none) : Ext w0 (w.own a) where
  le := Nat.le_succ_of_le x.le
  p := fun k q => (own_lt (Nat.lt_of_lt_of_le q x.le)).trans (x.p k q)
  fr := x.fr
  th := x.th
  nw := fun k h1 h2 => by
    have h2' : k < w.n + 1 := h2
    by_cases q : k = w.n
    · rw [q, own_p]; exact h
    · rw [own_lt (by omega)]
      exact x.nw k h1 (by omega)
  hk := fun b hb => ⟨List.mem_filter.mpr ⟨(x.hk b hb).1, decide_eq_true fun q => s0 b hb (by rw [q]; exact h)⟩, (x.hk b hb).2⟩
  hn := fun b hb => x.hn b (List.mem_filter.mp hb).1
theorem SR.own {a : Addr} {c : Cell} (s : SR K w S) (h : a ∈ w.hid) (hc : CellR K (w.own a) a c) : SR K (w.own a) (S ++ [c]) where
  n := by rw [List.length_append, ← s.n]; rfl
  inj := fun i j hi hj e => by
    have hi' : i < w.n + 1 := hi
    have hj' : j < w.n + 1 := hj
    by_cases qi : i = w.n
    · by_cases qj : j = w.n
      · rw [qi, qj]
      · rw [qi, own_p, own_lt (by omega)] at e
        exact absurd e.symm ((s.hid a h).2 j (by omega))
    · by_cases qj : j = w.n
      · rw [qj, own_p, own_lt (by omega)] at e
        exact absurd e ((s.hid a h).2 i (by omega))
      · rw [own_lt (by omega), own_lt (by omega)] at e
        exact s.inj i j (by omega) (by omega) e
  hid := fun b hb => by
    have h1 := List.mem_filter.mp hb
    refine ⟨(s.hid b h1.1).1, fun k hk => ?_⟩
    have hk' : k < w.n + 1 := hk
    by_cases q : k = w.n
    · rw [q, own_p]
      exact fun z => of_decide_eq_true h1.2 z.symm
    · rw [own_lt (by omega)]
      exact (s.hid b h1.1).2 k (by omega)
  cell := fun k c' e => by
    by_cases q : k < S.length
    · rw [List.getElem?_append_left q] at e
      have lk : k < w.n := by rw [s.n]; exact q
      rw [own_lt lk]
      exact (s.cell k c' e).mono (mono_own h) rfl
    · rw [List.getElem?_append_right (Nat.not_lt.mp q)] at e
      have k0 : k = S.length := by
        by_cases z : k - S.length = 0
        · omega
        · rw [show k - S.length = (k - S.length - 1) + 1 by omega] at e
          simp at e
      rw [k0, Nat.sub_self] at e
      have e2 : c = c' := by simpa using e
      rw [← e2, k0, ← s.n, own_p]
      exact hc
/-- the store's data, read off cells from m on -/
def allD (f : R → Option D) : List R → Option (List D)
  | [] => some []
  | r :: rs => match f r, allD f rs with
    | some d, some ds => some (d :: ds)
    | _, _ => none
def toD (m : Nat) (S : Store) : Nat → R → Option D
  | _, .dat d => some d
  | 0, _ => none
  | f + 1, .own k => if k < m then none else match S[k]? with
    | some (.lst rs) => (allD (toD m S f) rs).map D.lst
    | some (.tup rs) => (allD (toD m S f) rs).map D.tup
    | some (.obj c ns rs) => (allD (toD m S f) rs).map (D.obj c ns)
    | none => none
  | _, .exc _ _ _ => none
theorem allD_ok {f : R → Option D} {m : Nat} (hf : ∀ r d v, f r = some d → Rel K w r v → Rep K (w.cut m) d v) : ∀ {rs : List R} {ds : List D} {vs : List V}, allD f rs = some ds → Rels K w rs vs → Reps K (w.cut m) ds vs
  | [], ds, vs, h, q => by
    cases h
    exact q
  | r :: rs, ds, vs, h, ⟨v, vr, e, h1, h2⟩ => by
    unfold allD at h
    cases e1 : f r with
    | none => rw [e1] at h; cases h
    | some d =>
      cases e2 : allD f rs with
      | none => rw [e1, e2] at h; cases h
      | some ds' =>
        rw [e1, e2] at h
        cases h
        exact ⟨v, vr, e, hf _ _ _ e1 h1, allD_ok hf e2 h2⟩
theorem toD_ok {m : Nat} (s : SR K w S) (h : m ≤ w.n) : ∀ (f : Nat) (r : R) (d : D) (v : V), toD m S f r = some d → Rel K w r v → Rep K (w.cut m) d v := by
  intro f
  induction f with
  | zero =>
    intro r d v e q
    cases r with
    | dat d' => cases e; exact Rep.imp (cut_keep h) _ _ q
    | own k => cases e
    | exc c ns l => cases e
  | succ f ih =>
    intro r d v e q
    cases r with
    | dat d' => cases e; exact Rep.imp (cut_keep h) _ _ q
    | exc c ns l => cases e
    | own k =>
      obtain ⟨hk, rfl⟩ := q
      have e1 : (if k < m then none else match S[k]? with
        | some (.lst rs) => (allD (toD m S f) rs).map D.lst
        | some (.tup rs) => (allD (toD m S f) rs).map D.tup
        | some (.obj c ns rs) => (allD (toD m S f) rs).map (D.obj c ns)
        | none => none) = some d := e
      by_cases lk : k < m
      · rw [if_pos lk] at e1; cases e1
      · rw [if_neg lk] at e1
        have nl : ¬ (w.cut m).Live (w.p k) := fun z => by
          rcases z with ⟨j, hj, z⟩ | z
          · have z' : w.p j = w.p k := z
            have hj' : j < m := hj
            have := s.inj j k (by omega) hk z'
            exact lk (by omega)
          · exact (s.hid _ z).2 k hk rfl
        obtain ⟨c, hc, hr⟩ := s.get hk
        rw [hc] at e1
        cases c with
        | lst rs =>
          obtain ⟨vs, h1, hz, h2⟩ := hr
          obtain ⟨ds, e2, e3⟩ := Option.map_eq_some_iff.mp e1
          rw [← e3]
          exact ⟨w.p k, vs, rfl, nl, h1, hz, allD_ok ih e2 h2⟩
        | tup rs =>
          obtain ⟨vs, h1, hz, h2⟩ := hr
          obtain ⟨ds, e2, e3⟩ := Option.map_eq_some_iff.mp e1
          rw [← e3]
          exact ⟨w.p k, vs, rfl, nl, h1, hz, allD_ok ih e2 h2⟩
        | obj c ns rs =>
          obtain ⟨dx, fs, h1, h2, h3⟩ := hr
          obtain ⟨ds, e2, e3⟩ := Option.map_eq_some_iff.mp e1
          rw [← e3]
          exact ⟨w.p k, dx, fs, rfl, nl, h1, h2, allD_ok ih e2 h3⟩
end
end MP
set_option Elab.async false
set_option linter.all false
set_option maxRecDepth 100000
set_option maxHeartbeats 4000000
/-! MPIR: the code as data (with what the text has besides), what it evaluates to. -/
namespace MP
open PySem PySem.Spec PyProof.Rows L2

inductive Bop where | add | sub | mul | fdiv | mod | pow
inductive Cop where | lt | le | gt | ge | eq | ne
inductive BTy where | int | bool | str | list | tuple
  deriving DecidableEq
inductive Lm where | append | pop
  deriving DecidableEq
inductive Bf where | len | sum | int | abs | max | min | tuple | list | all
  deriving DecidableEq
def BTy.nm : BTy → String | .int => "int" | .bool => "bool" | .str => "str" | .list => "list" | .tuple => "tuple"
def BTy.x : BTy → Str | .int => "int" | .bool => "bool" | .str => "str" | .list => "list" | .tuple => "tuple"
def Lm.x : Lm → Str | .append => "append" | .pop => "pop"
def Bf.x : Bf → Str | .len => "len" | .sum => "sum" | .int => "int" | .abs => "abs" | .max => "max" | .min => "min" | .tuple => "tuple" | .list => "list" | .all => "all"
def Bop.o : Bop → Operator
  | .add => .Add | .sub => .Sub | .mul => .Mult | .fdiv => .FloorDiv | .mod => .Mod | .pow => .Pow
def Cop.o : Cop → CmpOp
  | .lt => .Lt | .le => .LtE | .gt => .Gt | .ge => .GtE | .eq => .Eq | .ne => .NotEq

mutual
/-- expressions; m: a list that is made is to be a cell -/
inductive IE where
  | var (i : Nat) (x : Str) (p : Pos)
  | int (i : Int) (k : Nat) (p : Pos)
  | bl (b : Bool) (k : Nat) (p : Pos)
  | non (k : Nat) (p : Pos)
  | str (s : Str) (k : Nat) (p : Pos)
  | gint (i : Int) (x : Str) (p : Pos)
  | bin (m : Bool) (op : Bop) (a b : IE) (p : Pos)
  | neg (a : IE) (p : Pos)
  | cmp (op : Cop) (a b : IE) (p : Pos)
  | isN (n : Bool) (a : IE) (k : Nat) (p1 p : Pos)
  | not (a : IE) (p : Pos)
  | and (a : IE) (r : IEs) (p : Pos)
  | or (a : IE) (r : IEs) (p : Pos)
  | ifx (c a b : IE) (p : Pos)
  | lst (m : Bool) (es : IEs) (p : Pos)
  | tup (es : IEs) (k : Nat) (p : Pos)
  | ix (a i : IE) (p : Pos)
  | sl (m : Bool) (a : IE) (lo hi : IEs) (p2 p : Pos)
  | attr (a : IE) (c f : Str) (p : Pos)
  | call (f : Nat) (x : Str) (a : IE) (es : IEs) (p0 p : Pos)
  | callK (f : Nat) (x : Str) (a : IE) (es : IEs) (kw : IKs) (pm : List Nat) (p0 p : Pos)
  | callKK (f : Nat) (x : Str) (kw : IKs) (pm : List Nat) (p0 p : Pos)
  | bi (m : Bool) (f : Bf) (a : IE) (es : IEs) (p0 p : Pos)
  | gcd (lcm : Bool) (a b : IE) (p0 p : Pos)
  | make (m : Bool) (f : Nat) (c : Str) (a : IE) (es : IEs) (p0 p : Pos)
  | meth (f : Nat) (c : Str) (o : IE) (n : Str) (es : IEs) (p1 p : Pos)
  | lmeth (o : IE) (n : Lm) (es : IEs) (p1 p : Pos)
  | isT (a : IE) (T : BTy) (p1 p0 p : Pos)
  | isC (a : IE) (c : Str) (p1 p0 p : Pos)
  | xIs (i : Nat) (x : Str) (c : Str) (px p1 p0 p : Pos)
  | xAt (i : Nat) (x : Str) (f : Str) (px p : Pos)
  | lc (m : Bool) (e : IE) (t : IT) (it : II) (cs : IEs) (own : List (Str × Nat)) (sc : Scope) (p : Pos)
  | lc2 (m : Bool) (e : IE) (t : IT) (it : II) (cs : IEs) (t2 : IT) (it2 : II) (cs2 : IEs) (own : List (Str × Nat)) (vs2 : List Nat) (sc : Scope) (p : Pos)
inductive IEs where | nil | cons (e : IE) (r : IEs)
inductive IKs where | nil | cons (n : Str) (e : IE) (p : Pos) (r : IKs)
/-- targets: names -/
inductive IT where | one (i : Nat) (x : Str) (p : Pos) | many (l : List (Nat × Str × Pos)) (k : Nat) (p : Pos)
/-- what is walked -/
inductive II where
  | of (e : IE)
  | rng1 (a : IE) (p0 p : Pos)
  | rng2 (a b : IE) (p0 p : Pos)
  | enum (a : IE) (p0 p : Pos)
  | zip (a b : IE) (p0 p : Pos)
  | zip3 (a b c : IE) (p0 p : Pos)
end
mutual
inductive IS where
  | asg (t : IT) (e : IE) (p : Pos)
  | aug (i : Nat) (x : Str) (op : Bop) (e : IE) (px p : Pos)
  | setIx (a i e : IE) (ps p : Pos)
  | setAt (o : IE) (c f : Str) (e : IE) (ps p : Pos)
  | expr (e : IE) (p : Pos)
  | ret (e : IE) (p : Pos)
  | ite (c : IE) (a b : ISs) (p : Pos)
  | for_ (t : IT) (it : II) (b : ISs) (p : Pos)
  | while_ (c : IE) (b : ISs) (p : Pos)
  | raise (c : Str) (f : Option Nat) (a : IEs) (pn pc p : Pos)
  | pass (p : Pos)
  | try1 (b : ISs) (c : Str) (i : Nat) (n : Str) (s : ISs) (pc ph : Pos) (h : IHs) (p : Pos)
inductive ISs where | nil | cons (s : IS) (r : ISs)
/-- further clauses, without a name -/
inductive IHs where | nil | cons (c : Str) (s : ISs) (pc p : Pos) (r : IHs)
end

mutual
def IE.e : IE → Expr
  | .var _ x p => .Name x p
  | .int i k p => .Constant (.int i) k p
  | .bl b k p => .Constant (.bool b) k p
  | .non k p => .Constant .none k p
  | .str s k p => .Constant (.str s) k p
  | .gint _ x p => .Name x p
  | .bin _ op a b p => .BinOp a.e op.o b.e p
  | .neg a p => .UnaryOp .USub a.e p
  | .cmp op a b p => .Compare a.e [op.o] [b.e] p
  | .isN n a k p1 p => .Compare a.e [if n then .IsNot else .Is] [.Constant .none k p1] p
  | .not a p => .UnaryOp .Not a.e p
  | .and a r p => .BoolOp .And (a.e :: r.es) p
  | .or a r p => .BoolOp .Or (a.e :: r.es) p
  | .ifx c a b p => .IfExp c.e a.e b.e p
  | .lst _ es p => .List es.es p
  | .tup es k p => .Tuple es.es k p
  | .ix a i p => .Subscript a.e i.e p
  | .sl _ a lo hi p2 p => .Subscript a.e (.Slice lo.o hi.o none p2) p
  | .attr a _ f p => .Attribute a.e f p
  | .call _ x a es p0 p => .Call (.Name x p0) (a.e :: es.es) [] p
  | .callK _ x a es kw _ p0 p => .Call (.Name x p0) (a.e :: es.es) kw.ks p
  | .callKK _ x kw _ p0 p => .Call (.Name x p0) [] kw.ks p
  | .bi _ f a es p0 p => .Call (.Name f.x p0) (a.e :: es.es) [] p
  | .gcd l a b p0 p => .Call (.Name (if l then "lcm" else "gcd") p0) [a.e, b.e] [] p
  | .make _ _ c a es p0 p => .Call (.Name c p0) (a.e :: es.es) [] p
  | .meth _ _ o n es p1 p => .Call (.Attribute o.e n p1) es.es [] p
  | .lmeth o n es p1 p => .Call (.Attribute o.e n.x p1) es.es [] p
  | .isT a T p1 p0 p => .Call (.Name "isinstance" p0) [a.e, .Name T.x p1] [] p
  | .isC a c p1 p0 p => .Call (.Name "isinstance" p0) [a.e, .Name c p1] [] p
  | .xIs _ x c px p1 p0 p => .Call (.Name "isinstance" p0) [.Name x px, .Name c p1] [] p
  | .xAt _ x f px p => .Attribute (.Name x px) f p
  | .lc _ e t it cs _ sc p => .ListComp e.e [⟨t.e, it.e, cs.es, 0⟩] sc p
  | .lc2 _ e t it cs t2 it2 cs2 _ _ sc p => .ListComp e.e [⟨t.e, it.e, cs.es, 0⟩, ⟨t2.e, it2.e, cs2.es, 0⟩] sc p
def IEs.es : IEs → List Expr
  | .nil => []
  | .cons e r => e.e :: r.es
def IEs.o : IEs → Option Expr
  | .nil => none
  | .cons e _ => some e.e
def IKs.ks : IKs → List Keyword
  | .nil => []
  | .cons n e p r => ⟨some n, e.e, p⟩ :: r.ks
def IT.e : IT → Expr
  | .one _ x p => .Name x p
  | .many l k p => .Tuple (l.map fun q => .Name q.2.1 q.2.2) k p
def II.e : II → Expr
  | .of e => e.e
  | .rng1 a p0 p => .Call (.Name "range" p0) [a.e] [] p
  | .rng2 a b p0 p => .Call (.Name "range" p0) [a.e, b.e] [] p
  | .enum a p0 p => .Call (.Name "enumerate" p0) [a.e] [] p
  | .zip a b p0 p => .Call (.Name "zip" p0) [a.e, b.e] [] p
  | .zip3 a b c p0 p => .Call (.Name "zip" p0) [a.e, b.e, c.e] [] p
end
mutual
def IS.s : IS → Stmt
  | .asg t e p => .Assign [t.e] e.e p
  | .aug _ x op e px p => .AugAssign (.Name x px) op.o e.e p
  | .setIx a i e ps p => .Assign [.Subscript a.e i.e ps] e.e p
  | .setAt o _ f e ps p => .Assign [.Attribute o.e f ps] e.e p
  | .expr e p => .Expr e.e p
  | .ret e p => .Return (some e.e) p
  | .ite c a b p => .If c.e a.ss b.ss p
  | .for_ t it b p => .For t.e it.e b.ss [] p
  | .while_ c b p => .While c.e b.ss [] p
  | .raise c _ a pn pc p => .Raise (some (.Call (.Name c pn) a.es [] pc)) none p
  | .pass p => .Pass p
  | .try1 b c _ n s pc ph h p => .Try b.ss (.ExceptHandler (some (.Name c pc)) (some n) s.ss ph :: h.hs) [] [] p
def ISs.ss : ISs → List Stmt
  | .nil => []
  | .cons s r => s.s :: r.ss
def IHs.hs : IHs → List ExceptHandler
  | .nil => []
  | .cons c s pc p r => .ExceptHandler (some (.Name c pc)) none s.ss p :: r.hs
end

/-! ### results -/
inductive Res (α : Type) where
  | ok (a : α) (S : Store)
  | exc (c : Str) (ns : List Str) (l : List D) (S : Store)
  | stuck
abbrev M (α : Type) := Store → Res α
def M.pure {α : Type} (a : α) : M α := fun S => .ok a S
def M.bind {α β : Type} (m : M α) (f : α → M β) : M β := fun S => match m S with
  | .ok a S' => f a S'
  | .exc c ns l S' => .exc c ns l S'
  | .stuck => .stuck
def M.stuck {α : Type} : M α := fun _ => .stuck
instance : Monad M where
  pure := M.pure
  bind := M.bind
def M.opt {α : Type} : Option α → M α
  | some a => M.pure a
  | none => M.stuck

def M.noX {α : Type} (m : M α) : M α := fun S => match m S with
  | .ok a S' => .ok a S'
  | _ => .stuck
/-! ### views -/
def itemsR (S : Store) : R → Option (List R)
  | .dat (.lst l) => some (l.map .dat)
  | .dat (.tup l) => some (l.map .dat)
  | .own k => match S[k]? with
    | some (.lst rs) => some rs
    | some (.tup rs) => some rs
    | _ => none
  | _ => none
def intsR : List R → Option (List Int)
  | [] => some []
  | .dat (.int i) :: r => (intsR r).map (i :: ·)
  | _ => none
def blsR : List R → Option (List Bool)
  | [] => some []
  | .dat (.bl i) :: r => (blsR r).map (i :: ·)
  | _ => none
def datsR : List R → Option (List D)
  | [] => some []
  | .dat d :: r => (datsR r).map (d :: ·)
  | _ => none
/-- a list that is made: data, or a cell -/
def mkL (m : Bool) (rs : List R) : M R := fun S => match m, datsR rs with
  | false, some ds => .ok (.dat (.lst ds)) S
  | _, _ => .ok (.own S.length) (S ++ [.lst rs])
def mkT (rs : List R) : M R := fun S => match datsR rs with
  | some ds => .ok (.dat (.tup ds)) S
  | none => .ok (.own S.length) (S ++ [.tup rs])
mutual
def py : D → Option PyData
  | .non => some .none
  | .bl b => some (.bool b)
  | .int i => some (.int i)
  | .str s => some (.str s)
  | .tup l => (pys l).map .tuple
  | .lst l => (pys l).map .list
  | .slst _ => none
  | .obj _ _ _ => none
def pys : List D → Option (List PyData)
  | [] => some []
  | d :: l => match py d, pys l with
    | some x, some xs => some (x :: xs)
    | _, _ => none
end
/-- == -/
def eqD (S : Store) (a b : R) : Option Bool := match a, b with
  | .dat (.int i), .dat (.int j) => some (decide (i = j))
  | .dat (.bl i), .dat (.bl j) => some (decide (i = j))
  | .dat (.str i), .dat (.str j) => some (decide (i = j))
  | .dat .non, .dat (.int _) => some false
  | .dat (.int _), .dat .non => some false
  | a, b => match toD 0 S 8 a, toD 0 S 8 b with
    | some d, some e => (match py d, py e with
      | some x, some y => if SeqAt.shaped x = true ∧ SeqAt.shaped y = true then some (PyData.eqv x y) else none
      | _, _ => none)
    | _, _ => none
def small (n : Nat) : Bool := decide (n ≤ 1000000)
def isTup : Store → R → Bool
  | _, .dat (.tup _) => true
  | S, .own k => match S[k]? with
    | some (.tup _) => true
    | _ => false
  | _, _ => false
/-- the items of a list, not of a tuple -/
def itemsL (S : Store) (r : R) : Option (List R) := if isTup S r = true then none else itemsR S r
def catL (m : Bool) (a b : R) : M R := fun S => match itemsL S a, itemsL S b with
  | some xs, some ys => if small (xs.length + ys.length) = true then mkL m (xs ++ ys) S else .stuck
  | _, _ => .stuck
def repL (m : Bool) (a : R) (k : Int) : M R := fun S => match itemsL S a with
  | some xs => if small (xs.length * k.toNat) = true ∧ k ≤ 1000000 ∧ -1000000 ≤ k then mkL m (List.replicate k.toNat xs).flatten S else .stuck
  | none => .stuck
def mulOk (i j : Int) : Bool := decide (i.natAbs.log2 + j.natAbs.log2 < 1000000)
def divOk (j : Int) : Bool := decide (0 < j ∧ j.natAbs.log2 < 9000)
def powOk (i j : Int) : Bool := decide (0 ≤ j ∧ (Builtin.Int.intBits i : Int) * j ≤ 2 ^ 27)
def binR (m : Bool) (op : Bop) (a b : R) : M R := match op, a, b with
  | .add, .dat (.int i), .dat (.int j) => M.pure (.dat (.int (i + j)))
  | .sub, .dat (.int i), .dat (.int j) => M.pure (.dat (.int (i - j)))
  | .mul, .dat (.int i), .dat (.int j) => if mulOk i j = true then M.pure (.dat (.int (i * j))) else M.stuck
  | .fdiv, .dat (.int i), .dat (.int j) => if divOk j = true then M.pure (.dat (.int (i / j))) else M.stuck
  | .mod, .dat (.int i), .dat (.int j) => if 0 < j then M.pure (.dat (.int (i % j))) else M.stuck
  | .pow, .dat (.int i), .dat (.int j) => if powOk i j = true then M.pure (.dat (.int (i ^ j.toNat))) else M.stuck
  | .add, a, b => catL m a b
  | .mul, a, .dat (.int k) => repL m a k
  | _, _, _ => M.stuck
def cmpR (op : Cop) (a b : R) : M R := fun S => match op, a, b with
  | .lt, .dat (.int i), .dat (.int j) => .ok (.dat (.bl (decide (i < j)))) S
  | .le, .dat (.int i), .dat (.int j) => .ok (.dat (.bl (decide (i ≤ j)))) S
  | .gt, .dat (.int i), .dat (.int j) => .ok (.dat (.bl (decide (j < i)))) S
  | .ge, .dat (.int i), .dat (.int j) => .ok (.dat (.bl (decide (j ≤ i)))) S
  | .eq, a, b => (match eqD S a b with
    | some c => .ok (.dat (.bl c)) S
    | none => .stuck)
  | .ne, a, b => (match eqD S a b with
    | some c => .ok (.dat (.bl (!c))) S
    | none => .stuck)
  | _, _, _ => .stuck
def atR (rs : List R) (i : Int) : Option R := atI rs i
def ixR (a i : R) : M R := fun S => match i, itemsR S a with
  | .dat (.int i), some rs => (match atR rs i with
    | some r => .ok r S
    | none => .stuck)
  | _, _ => .stuck
def cutR {α : Type} (xs : List α) (lo hi : Option Int) : List α := (xs.drop (HT.sIx xs.length 0 lo)).take (HT.sIx xs.length xs.length hi - HT.sIx xs.length 0 lo)
def slR (m : Bool) (a : R) (lo hi : Option Int) : M R := fun S => match a with
  | .dat (.slst l) => .ok (.dat (.lst (cutR l lo hi))) S
  | a => match itemsL S a with
    | some rs => mkL m (cutR rs lo hi) S
    | none => .stuck
def lookA {α : Type} (f : Str) : List Str → List α → Option α
  | n :: ns, d :: ds => if n = f then some d else lookA f ns ds
  | _, _ => none
def attrR (r : R) (c f : Str) : M R := fun S => match r with
  | .dat (.obj c' ns l) => if c' = c then (match lookA f ns l with
    | some d => .ok (.dat d) S
    | none => .stuck) else .stuck
  | .own k => (match S[k]? with
    | some (.obj c' ns rs) => if c' = c then (match lookA f ns rs with
      | some r => .ok r S
      | none => .stuck) else .stuck
    | _ => .stuck)
  | _ => .stuck
def maxI : List Int → Int
  | [] => 0
  | x :: xs => xs.foldl max x
def minI : List Int → Int
  | [] => 0
  | x :: xs => xs.foldl min x
def biR (m : Bool) (f : Bf) (rs : List R) : M R := fun S => match f, rs with
  | .int, [.dat (.int i)] => .ok (.dat (.int i)) S
  | .int, [.dat (.bl b)] => .ok (.dat (.int (if b then 1 else 0))) S
  | .abs, [.dat (.int i)] => .ok (.dat (.int (if i < 0 then -i else i))) S
  | .max, [.dat (.int i), .dat (.int j)] => .ok (.dat (.int (max i j))) S
  | .min, [.dat (.int i), .dat (.int j)] => .ok (.dat (.int (min i j))) S
  | .len, [a] => (match itemsR S a with
    | some xs => .ok (.dat (.int xs.length)) S
    | none => .stuck)
  | .sum, [a] => (match (itemsR S a).bind intsR with
    | some xs => .ok (.dat (.int xs.sum)) S
    | none => .stuck)
  | .max, [a] => (match (itemsL S a).bind intsR with
    | some (x :: xs) => .ok (.dat (.int (maxI (x :: xs)))) S
    | _ => .stuck)
  | .min, [a] => (match (itemsL S a).bind intsR with
    | some (x :: xs) => .ok (.dat (.int (minI (x :: xs)))) S
    | _ => .stuck)
  | .all, [a] => (match (itemsL S a).bind blsR with
    | some xs => .ok (.dat (.bl (xs.all id))) S
    | none => .stuck)
  | .tuple, [a] => if isTup S a = true then .ok a S else (match itemsR S a with
      | some xs => mkT xs S
      | none => .stuck)
  | .list, [a] => (match itemsR S a with
    | some xs => mkL m xs S
    | none => .stuck)
  | _, _ => .stuck
def gcdR (lcm : Bool) (a b : R) : M R := fun S => match a, b with
  | .dat (.int i), .dat (.int j) => if lcm then (if decide (i.natAbs.log2 < 9000 ∧ j.natAbs.log2 < 9000) then .ok (.dat (.int (Nat.lcm i.natAbs j.natAbs))) S else .stuck)
    else .ok (.dat (.int (Nat.gcd i.natAbs j.natAbs))) S
  | _, _ => .stuck
/-- the methods of lists that stand in a cell -/
def lmR (o : R) (n : Lm) (rs : List R) : M R := fun S => match o with
  | .own k => (match S[k]? with
    | some (.lst xs) => (match n, rs with
      | .pop, [] => (match xs[xs.length - 1]? with
          | some y => .ok y (S.set k (.lst xs.dropLast))
          | none => .stuck)
      | .append, [r] => if small xs.length = true then .ok (.dat .non) (S.set k (.lst (xs ++ [r]))) else .stuck
      | .pop, [.dat (.int i)] => if i = 0 then (match xs with
              | y :: ys => .ok y (S.set k (.lst ys))
              | [] => .stuck) else .stuck
      | _, _ => .stuck)
    | _ => .stuck)
  | _ => .stuck
def lmRecv (o : R) : M Unit := fun S => match o with
  | .own k => (match S[k]? with
    | some (.lst _) => .ok () S
    | _ => .stuck)
  | _ => .stuck
def tyR (S : Store) : R → Option BTy
  | .dat (.int _) => some .int
  | .dat (.bl _) => some .bool
  | .dat (.str _) => some .str
  | .dat (.lst _) => some .list
  | .dat (.tup _) => some .tuple
  | .own k => match S[k]? with
    | some (.lst _) => some .list
    | some (.tup _) => some .tuple
    | _ => none
  | _ => none
def isTy (t T : BTy) : Bool := decide (t = T) || (decide (t = .bool) && decide (T = .int))
/-! ### items, targets -/
inductive Itm where
  | one (r : R)
  | tup (rs : List R)
abbrev Gd := List (Nat × Cell)
open Classical in
/-- the lists that are walked stand as they stood -/
noncomputable def gdOk (S : Store) (g : Gd) : Bool := decide (∀ q ∈ g, S[q.1]? = some q.2)
def setM : List (Nat × Str × Pos) → List R → Env → Option Env
  | [], [], ρ => some ρ
  | q :: l, r :: rs, ρ => setM l rs (ρ.set q.1 (some r))
  | _, _, _ => none
def bindT (t : IT) (x : Itm) (ρ : Env) (S : Store) : Option Env := match t, x with
  | .one i _ _, .one r => some (ρ.set i (some r))
  | .many l _ _, .tup rs => setM l rs ρ
  | .many l _ _, .one (.dat (.tup ds)) => setM l (ds.map .dat) ρ
  | .many l _ _, .one (.own k) => (match S[k]? with
    | some (.tup rs) => setM l rs ρ
    | _ => none)
  | _, _ => none
def guardR (S : Store) : R → Gd
  | .own k => match S[k]? with
    | some c => [(k, c)]
    | none => []
  | _ => []
def wipeE (ρ : Env) : List Nat → Env
  | [] => ρ
  | v :: vs => (wipeE ρ vs).set v none
/-! ### calls -/
structure Calls where
  fn : Nat → List R → M R
  sub : Str → Str → Option Bool
  xf : Str → Str → Bool
def pick (pm : List Nat) (rs : List R) : Option (List R) := pm.mapM fun i => rs[i]?
noncomputable def lcLoop (g : Gd) (f : Itm → M (List R)) : List Itm → M (List R)
  | [] => fun S => if gdOk S g = true then .ok [] S else .stuck
  | x :: xs => M.bind (f x) fun a => M.bind (lcLoop g f xs) fun b => M.pure (a ++ b)
end MP
set_option Elab.async false
set_option linter.all false
set_option maxRecDepth 100000
set_option maxHeartbeats 4000000
/-! MPEval: what the code evaluates to. -/
namespace MP
open PySem PySem.Spec PyProof.Rows L2
noncomputable section
def truB : R → M Bool
  | .dat (.bl b) => M.pure b
  | _ => M.stuck
def optI : List R → M (Option Int)
  | [] => M.pure none
  | [.dat (.int i)] => M.pure (some i)
  | _ => M.stuck
def getV (ρ : Env) (i : Nat) : M R := match ρ[i]? with
  | some (some (.dat d)) => M.pure (.dat d)
  | some (some (.own k)) => M.pure (.own k)
  | _ => M.stuck
def isCR (C : Calls) (r : R) (c : Str) : M R := fun S => match r with
  | .dat (.obj c' _ _) => (match C.sub c' c with
    | some b => .ok (.dat (.bl b)) S
    | none => .stuck)
  | .own k => (match S[k]? with
    | some (.obj c' _ _) => (match C.sub c' c with
      | some b => .ok (.dat (.bl b)) S
      | none => .stuck)
    | _ => .stuck)
  | _ => .stuck
def isTR (r : R) (T : BTy) : M R := fun S => match tyR S r with
  | some t => .ok (.dat (.bl (isTy t T))) S
  | none => .stuck
def xIsR (C : Calls) (ρ : Env) (i : Nat) (c : Str) : M R := match ρ[i]? with
  | some (some (.exc c' _ _)) => (match C.sub c' c with
    | some b => M.pure (.dat (.bl b))
    | none => M.stuck)
  | _ => M.stuck
def xAtR (C : Calls) (ρ : Env) (i : Nat) (f : Str) : M R := match ρ[i]? with
  | some (some (.exc c ns l)) => if C.xf c f = true then (match lookA f ns l with
    | some d => M.pure (.dat d)
    | none => M.stuck) else M.stuck
  | _ => M.stuck
/-- a new instance, its __init__ -/
def makeR (C : Calls) (m : Bool) (f : Nat) (c : Str) (rs : List R) : M R := fun S => match C.fn f (.own S.length :: rs) (S ++ [.obj c [] []]) with
  | .ok (.dat .non) S' => if m = true then .ok (.own S.length) S' else
      (if (S'.take S.length).all (Cell.below S.length) = true ∧ S.length ≤ S'.length then (match toD S.length S' 8 (.own S.length) with
        | some d => .ok (.dat d) (S'.take S.length)
        | none => .stuck) else .stuck)
  | .exc c' ns l S' => .exc c' ns l S'
  | _ => .stuck
/-- an instance's method -/
def methR (C : Calls) (f : Nat) (c : Str) (rs : List R) : M R := fun S => match rs with
  | .dat (.obj c' _ _) :: _ => if c' = c then C.fn f rs S else .stuck
  | .own k :: _ => (match S[k]? with
    | some (.obj c' _ _) => if c' = c then C.fn f rs S else .stuck
    | _ => .stuck)
  | _ => .stuck
def zipI : List R → List R → List Itm
  | a :: as, b :: bs => .tup [a, b] :: zipI as bs
  | _, _ => []
def zipI3 : List R → List R → List R → List Itm
  | a :: as, b :: bs, c :: cs => .tup [a, b, c] :: zipI3 as bs cs
  | _, _, _ => []
def enumI : Nat → List R → List Itm
  | _, [] => []
  | n, a :: as => .tup [.dat (.int n), a] :: enumI (n + 1) as
def rngI (lo : Int) : Nat → List Itm
  | 0 => []
  | n + 1 => .one (.dat (.int lo)) :: rngI (lo + 1) n
def rngOk (i : Int) : Bool := decide (-1000000 ≤ i ∧ i ≤ 1000000)
def walkR (r : R) : M (List R) := fun S => match r, itemsR S r with
  | .dat (.lst _), some rs => .ok rs S
  | .dat (.tup _), some rs => .ok rs S
  | .own k, some rs => .ok rs S
  | _, _ => .stuck
def lcTurn (t : IT) (g : Gd) (cond : Env → M Bool) (el : Env → M (List R)) (ρ : Env) (x : Itm) : M (List R) := fun S =>
  if gdOk S g = true then (match bindT t x ρ S with
    | some ρ' => M.noX (M.bind (cond ρ') fun b => if b = true then el ρ' else M.pure []) S
    | none => .stuck) else .stuck
/-- what a comprehension has made -/
def lcOut (m : Bool) (l : List R) : M R := if small l.length = true then mkL m l else M.stuck
mutual
def evE (C : Calls) : IE → Env → M R
  | .var i _ _, ρ => getV ρ i
  | .int i _ _, _ => M.pure (.dat (.int i))
  | .bl b _ _, _ => M.pure (.dat (.bl b))
  | .non _ _, _ => M.pure (.dat .non)
  | .str s _ _, _ => M.pure (.dat (.str s))
  | .gint i _ _, _ => M.pure (.dat (.int i))
  | .bin m op a b _, ρ => M.bind (evE C a ρ) fun x => M.bind (evE C b ρ) fun y => binR m op x y
  | .neg a _, ρ => M.bind (evE C a ρ) fun x => match x with
    | .dat (.int i) => M.pure (.dat (.int (-i)))
    | _ => M.stuck
  | .cmp op a b _, ρ => M.bind (evE C a ρ) fun x => M.bind (evE C b ρ) fun y => cmpR op x y
  | .isN n a _ _ _, ρ => M.bind (evE C a ρ) fun x => match x with
    | .dat .non => M.pure (.dat (.bl (!n)))
    | .dat _ => M.pure (.dat (.bl n))
    | _ => M.stuck
  | .not a _, ρ => M.bind (M.bind (evE C a ρ) truB) fun b => M.pure (.dat (.bl (!b)))
  | .and a r _, ρ => match r with
    | .nil => evE C a ρ
    | .cons _ _ => M.bind (M.bind (evE C a ρ) truB) fun b => if b = true then evAnd C r ρ else M.pure (.dat (.bl false))
  | .or a r _, ρ => match r with
    | .nil => evE C a ρ
    | .cons _ _ => M.bind (M.bind (evE C a ρ) truB) fun b => if b = true then M.pure (.dat (.bl true)) else evOr C r ρ
  | .ifx c a b _, ρ => M.bind (M.bind (evE C c ρ) truB) fun t => if t = true then evE C a ρ else evE C b ρ
  | .lst m es _, ρ => M.bind (evEs C es ρ) (mkL m)
  | .tup es _ _, ρ => M.bind (evEs C es ρ) mkT
  | .ix a i _, ρ => M.bind (evE C a ρ) fun x => M.bind (evE C i ρ) fun y => ixR x y
  | .sl m a lo hi _ _, ρ => M.bind (evE C a ρ) fun x => M.bind (M.bind (evEs C lo ρ) optI) fun l => M.bind (M.bind (evEs C hi ρ) optI) fun h => slR m x l h
  | .attr a c f _, ρ => M.bind (evE C a ρ) fun x => attrR x c f
  | .call f _ a es _ _, ρ => M.bind (evE C a ρ) fun x => M.bind (evEs C es ρ) fun xs => C.fn f (x :: xs)
  | .callK f _ a es kw pm _ _, ρ => M.bind (evE C a ρ) fun x => M.bind (evEs C es ρ) fun xs => M.bind (evKs C kw ρ) fun ys => match pick pm (x :: xs ++ ys) with
    | some zs => C.fn f zs
    | none => M.stuck
  | .callKK f _ kw pm _ _, ρ => M.bind (evKs C kw ρ) fun ys => match pick pm ys with
    | some zs => C.fn f zs
    | none => M.stuck
  | .bi m f a es _ _, ρ => M.bind (evE C a ρ) fun x => M.bind (evEs C es ρ) fun xs => biR m f (x :: xs)
  | .gcd l a b _ _, ρ => M.bind (evE C a ρ) fun x => M.bind (evE C b ρ) fun y => gcdR l x y
  | .make m f c a es _ _, ρ => M.bind (evE C a ρ) fun x => M.bind (evEs C es ρ) fun xs => makeR C m f c (x :: xs)
  | .meth f c o _ es _ _, ρ => M.bind (evE C o ρ) fun x => M.bind (evEs C es ρ) fun xs => methR C f c (x :: xs)
  | .lmeth o n es _ _, ρ => M.bind (evE C o ρ) fun x => M.bind (lmRecv x) fun _ => M.bind (evEs C es ρ) fun xs => lmR x n xs
  | .isT a T _ _ _, ρ => M.bind (evE C a ρ) fun x => isTR x T
  | .isC a c _ _ _, ρ => M.bind (evE C a ρ) fun x => isCR C x c
  | .xIs i _ c _ _ _ _, ρ => xIsR C ρ i c
  | .xAt i _ f _ _, ρ => xAtR C ρ i f
  | .lc m e t it cs own _ _, ρ => M.bind (evII C it ρ) fun q => M.bind (lcLoop q.2 (lcTurn t q.2 (fun ρ' => evTs C cs ρ') (fun ρ' => M.bind (evE C e ρ') fun r => M.pure [r]) (wipeE ρ (own.map (·.2)))) q.1) (lcOut m)
  | .lc2 m e t it cs t2 it2 cs2 own vs2 _ _, ρ => M.bind (evII C it ρ) fun q =>
      M.bind (lcLoop q.2 (lcTurn t q.2 (fun ρ' => evTs C cs ρ') (fun ρ' => M.bind (evII C it2 ρ') fun q2 =>
        lcLoop q2.2 (lcTurn t2 q2.2 (fun ρ2 => evTs C cs2 ρ2) (fun ρ2 => M.bind (evE C e ρ2) fun r => M.pure [r]) (wipeE ρ' vs2)) q2.1) (wipeE ρ (own.map (·.2)))) q.1) (lcOut m)
def evEs (C : Calls) : IEs → Env → M (List R)
  | .nil, _ => M.pure []
  | .cons e r, ρ => M.bind (evE C e ρ) fun x => M.bind (evEs C r ρ) fun xs => M.pure (x :: xs)
def evKs (C : Calls) : IKs → Env → M (List R)
  | .nil, _ => M.pure []
  | .cons _ e _ r, ρ => M.bind (evE C e ρ) fun x => M.bind (evKs C r ρ) fun xs => M.pure (x :: xs)
/-- the rest of and, or: values -/
def evAnd (C : Calls) : IEs → Env → M R
  | .nil, _ => M.stuck
  | .cons e r, ρ => match r with
    | .nil => evE C e ρ
    | .cons _ _ => M.bind (M.bind (evE C e ρ) truB) fun b => if b = true then evAnd C r ρ else M.pure (.dat (.bl false))
def evOr (C : Calls) : IEs → Env → M R
  | .nil, _ => M.stuck
  | .cons e r, ρ => match r with
    | .nil => evE C e ρ
    | .cons _ _ => M.bind (M.bind (evE C e ρ) truB) fun b => if b = true then M.pure (.dat (.bl true)) else evOr C r ρ
/-- a comprehension's ifs: none or one -/
def evTs (C : Calls) : IEs → Env → M Bool
  | .nil, _ => M.pure true
  | .cons e r, ρ => match r with
    | .nil => M.bind (evE C e ρ) truB
    | .cons _ _ => M.stuck
def evII (C : Calls) : II → Env → M (List Itm × Gd)
  | .of e, ρ => M.bind (evE C e ρ) fun x => M.bind (walkR x) fun rs => fun S => .ok (rs.map .one, guardR S x) S
  | .rng1 a _ _, ρ => M.bind (evE C a ρ) fun x => match x with
    | .dat (.int i) => if rngOk i = true then M.pure (rngI 0 i.toNat, []) else M.stuck
    | _ => M.stuck
  | .rng2 a b _ _, ρ => M.bind (evE C a ρ) fun x => M.bind (evE C b ρ) fun y => match x, y with
    | .dat (.int i), .dat (.int j) => if rngOk i = true ∧ rngOk j = true then M.pure (rngI i (j - i).toNat, []) else M.stuck
    | _, _ => M.stuck
  | .enum a _ _, ρ => M.bind (evE C a ρ) fun x => M.bind (walkR x) fun rs => fun S => if isTup S x = true then .stuck else .ok (enumI 0 rs, guardR S x) S
  | .zip a b _ _, ρ => M.bind (evE C a ρ) fun x => M.bind (evE C b ρ) fun y => M.bind (walkR x) fun rs => M.bind (walkR y) fun qs => fun S => .ok (zipI rs qs, guardR S x ++ guardR S y) S
  | .zip3 a b c _ _, ρ => M.bind (evE C a ρ) fun x => M.bind (evE C b ρ) fun y => M.bind (evE C c ρ) fun z => M.bind (walkR x) fun rs => M.bind (walkR y) fun qs => M.bind (walkR z) fun ts => fun S =>
      .ok (zipI3 rs qs ts, guardR S x ++ guardR S y ++ guardR S z) S
end

/-! ### statements -/
inductive Fl where
  | next | brk | cont
  | ret (r : R)
inductive SRes where
  | go (f : Fl) (ρ : Env) (S : Store)
  | exc (c : Str) (ns : List Str) (l : List D) (ρ : Env) (S : Store)
  | stuck
def SRes.of {α : Type} (ρ : Env) (r : Res α) (k : α → Store → SRes) : SRes := match r with
  | .ok a S => k a S
  | .exc c ns l S => .exc c ns l ρ S
  | .stuck => .stuck
def forL (t : IT) (g : Gd) (body : Env → Store → SRes) : List Itm → Env → Store → SRes
  | [], ρ, S => if gdOk S g = true then .go .next ρ S else .stuck
  | x :: xs, ρ, S => if gdOk S g = true then (match bindT t x ρ S with
    | some ρ1 => (match body ρ1 S with
      | .go .next ρ2 S2 => forL t g body xs ρ2 S2
      | .go .cont ρ2 S2 => forL t g body xs ρ2 S2
      | .go .brk ρ2 S2 => .go .next ρ2 S2
      | .go (.ret r) ρ2 S2 => .go (.ret r) ρ2 S2
      | .exc c ns l ρ2 S2 => .exc c ns l ρ2 S2
      | .stuck => .stuck)
    | none => .stuck) else .stuck
def whileN (c : Env → M Bool) (body : Env → Store → SRes) : Nat → Env → Store → Option SRes
  | 0, _, _ => none
  | n + 1, ρ, S => match c ρ S with
    | .ok true S1 => (match body ρ S1 with
      | .go .next ρ2 S2 => whileN c body n ρ2 S2
      | .go .cont ρ2 S2 => whileN c body n ρ2 S2
      | .go .brk ρ2 S2 => some (.go .next ρ2 S2)
      | .go (.ret r) ρ2 S2 => some (.go (.ret r) ρ2 S2)
      | .exc c ns l ρ2 S2 => some (.exc c ns l ρ2 S2)
      | .stuck => some .stuck)
    | .ok false S1 => some (.go .next ρ S1)
    | .exc c ns l S1 => some (.exc c ns l ρ S1)
    | .stuck => some .stuck
open Classical in
def whileX (c : Env → M Bool) (body : Env → Store → SRes) (ρ : Env) (S : Store) : SRes :=
  if h : ∃ n r, whileN c body n ρ S = some r then h.choose_spec.choose else .stuck
/-- a store by index, a field -/
def setIxR (a i v : R) : M Unit := fun S => match a, i with
  | .own k, .dat (.int i) => (match S[k]? with
    | some (.lst rs) => (match ixN rs.length i with
      | some j => .ok () (S.set k (.lst (rs.set j v)))
      | none => .stuck)
    | _ => .stuck)
  | _, _ => .stuck
def putN (f : Str) (v : R) : List Str → List R → List Str × List R
  | n :: ns, r :: rs => if n = f then (n :: ns, v :: rs) else (n :: (putN f v ns rs).1, r :: (putN f v ns rs).2)
  | ns, rs => (ns ++ [f], rs ++ [v])
def setAtR (o : R) (c f : Str) (v : R) : M Unit := fun S => match o with
  | .own k => (match S[k]? with
    | some (.obj c' ns rs) => if c' = c ∧ ns.length < 900 then .ok () (S.set k (.obj c (putN f v ns rs).1 (putN f v ns rs).2)) else .stuck
    | _ => .stuck)
  | _ => .stuck
/-- an exception's fields: each kept as it is, or by the module's own def (a list as a tuple) -/
structure XC where
  fs : List (Str × Option Nat)
def kept1 (C : Calls) (k : Option Nat) (r : R) : M R := match k with
  | none => M.pure r
  | some f => C.fn f [r]
def keptAll (C : Calls) : List (Str × Option Nat) → List R → M (List D)
  | [], [] => M.pure []
  | k :: ks, r :: rs => M.bind (kept1 C k.2 r) fun x => match x with
    | .dat d => M.bind (keptAll C ks rs) fun ds => M.pure (d :: ds)
    | _ => M.stuck
  | _, _ => M.stuck
structure CallsX extends Calls where
  xc : Str → Option XC
def raiseR (C : CallsX) (c : Str) (rs : List R) : M Unit := match C.xc c with
  | some X => M.bind (keptAll C.toCalls X.fs rs) fun ds => fun S => .exc c (X.fs.map (·.1)) ds S
  | none => M.stuck
def dropX (ρ : Env) : Env := ρ.map fun r => match r with
  | some (.exc _ _ _) => none
  | r => r
mutual
def evS (C : CallsX) : IS → Env → Store → SRes
  | .asg t e _, ρ, S => SRes.of ρ (evE C.toCalls e ρ S) fun r S1 => (match bindT t (.one r) ρ S1 with
    | some ρ1 => .go .next ρ1 S1
    | none => .stuck)
  | .aug i _ op e _ _, ρ, S => SRes.of ρ ((M.bind (getV ρ i) fun x => M.bind (evE C.toCalls e ρ) fun y => match x, y with
      | .dat (.int _), .dat (.int _) => binR false op x y
      | _, _ => M.stuck) S) fun r S1 => .go .next (ρ.set i (some r)) S1
  | .setIx a i e _ _, ρ, S => SRes.of ρ ((M.bind (evE C.toCalls e ρ) fun v => M.bind (evE C.toCalls a ρ) fun x => M.bind (evE C.toCalls i ρ) fun y => setIxR x y v) S) fun _ S1 => .go .next ρ S1
  | .setAt o c f e _ _, ρ, S => SRes.of ρ ((M.bind (evE C.toCalls e ρ) fun v => M.bind (evE C.toCalls o ρ) fun x => setAtR x c f v) S) fun _ S1 => .go .next ρ S1
  | .expr e _, ρ, S => SRes.of ρ (evE C.toCalls e ρ S) fun _ S1 => .go .next ρ S1
  | .ret e _, ρ, S => SRes.of ρ (evE C.toCalls e ρ S) fun r S1 => .go (.ret r) ρ S1
  | .ite c a b _, ρ, S => SRes.of ρ ((M.bind (evE C.toCalls c ρ) truB) S) fun t S1 => if t = true then evSs C a ρ S1 else evSs C b ρ S1
  | .for_ t it b _, ρ, S => SRes.of ρ (evII C.toCalls it ρ S) fun q S1 => forL t q.2 (fun ρ' S' => evSs C b ρ' S') q.1 ρ S1
  | .while_ c b _, ρ, S => whileX (fun ρ' => M.bind (evE C.toCalls c ρ') truB) (fun ρ' S' => evSs C b ρ' S') ρ S
  | .raise c _ a _ _ _, ρ, S => match C.xc c with
    | none => .stuck
    | some _ => SRes.of ρ ((M.bind (evEs C.toCalls a ρ) fun rs => raiseR C c rs) S) fun _ _ => .stuck
  | .pass _, ρ, S => .go .next ρ S
  | .try1 b c i _ s _ _ h _, ρ, S => match evSs C b ρ S with
    | .exc c' ns l ρ1 S1 => (match C.sub c' c with
      | some true => (match evSs C s (ρ1.set i (some (.exc c' ns l))) S1 with
        | .go f ρ2 S2 => .go f ((dropX ρ2).set i none) S2
        | _ => .stuck)
      | _ => .stuck)
    | r => r
def evSs (C : CallsX) : ISs → Env → Store → SRes
  | .nil, ρ, S => .go .next ρ S
  | .cons s r, ρ, S => match evS C s ρ S with
    | .go .next ρ1 S1 => evSs C r ρ1 S1
    | x => x
end
/-! ### functions -/
structure Fn where
  name : Str
  np : Nat
  N : List Str
  sc : Scope
  body : ISs
structure Tab where
  fns : List Fn
  sub : Str → Str → Option Bool
  xf : Str → Str → Bool
  xc : Str → Option XC
/-- a call's end: the cells that were made are given up -/
def sealR (m : Nat) (r : R) (S : Store) : Res R := if (S.take m).all (Cell.below m) = true ∧ m ≤ S.length then (match r with
    | .own k => if k < m then .ok (.own k) (S.take m) else (match toD m S 8 (.own k) with
      | some d => .ok (.dat d) (S.take m)
      | none => .stuck)
    | .dat d => .ok (.dat d) (S.take m)
    | _ => .stuck) else .stuck
def sealS (m : Nat) : SRes → Res R
  | .go (.ret r) _ S => sealR m r S
  | .go .next _ S => sealR m (.dat .non) S
  | .exc c ns l _ S => if (S.take m).all (Cell.below m) = true ∧ m ≤ S.length then .exc c ns l (S.take m) else .stuck
  | _ => .stuck
def start (F : Fn) (rs : List R) : Env := rs.map some ++ List.replicate (F.N.length - rs.length) none
def runF (C : CallsX) (F : Fn) (rs : List R) : M R := fun S => if rs.length = F.np then sealS S.length (evSs C F.body (start F rs) S) else .stuck
def callN (T : Tab) : Nat → Nat → List R → M R
  | 0, _, _ => M.stuck
  | n + 1, f, rs => match T.fns[f]? with
    | some F => runF ⟨⟨callN T n, T.sub, T.xf⟩, T.xc⟩ F rs
    | none => M.stuck
def Tab.C (T : Tab) (n : Nat) : CallsX := ⟨⟨callN T n, T.sub, T.xf⟩, T.xc⟩
end
end MP
set_option Elab.async false
set_option linter.all false
set_option maxRecDepth 100000
set_option maxHeartbeats 4000000
/-! MPRules: the hand layer's rules, told of the evaluation. -/
namespace MP
open PySem PySem.Spec PyProof.Rows L2

/-- an exception's own dict holds its fields -/
def ExcD (K : PySem.W.Frag) (w : Wd) (ns : List Str) (l : List D) (d : Option Addr) : Prop :=
  (ns = [] ∧ d = none) ∨ ∃ dd fs, d = some dd ∧ ¬ w.Live dd ∧ w.H dd = some (.xd fs) ∧ ∀ f x, lookA f ns l = some x → ∃ v, fs.lookup f = some v ∧ Rep K w x v
theorem ExcD.mono {K : PySem.W.Frag} {w w' : Wd} {ns : List Str} {l : List D} {d : Option Addr} (x : Mono w w') (h : ExcD K w ns l d) : ExcD K w' ns l d := by
  rcases h with h | ⟨dd, fs, e, nl, hd, hf⟩
  · exact .inl h
  · refine .inr ⟨dd, fs, e, (x.keep _ _ nl hd).1, (x.keep _ _ nl hd).2, fun f y hy => ?_⟩
    obtain ⟨v, h1, h2⟩ := hf f y hy
    exact ⟨v, h1, Rep.imp x.keep _ _ h2⟩
theorem ExcD.dict {K : PySem.W.Frag} {w : Wd} {ns : List Str} {l : List D} {d : Option Addr} (h : ExcD K w ns l d) : d = none ∨ ∃ dd fs, d = some dd ∧ w.H dd = some (.xd fs) := by
  rcases h with h | ⟨dd, fs, e, nl, hd, hf⟩
  · exact .inl h.2
  · exact .inr ⟨dd, fs, e, hd⟩
def Hop {α β : Type} (K : PySem.W.Frag) (rel : Wd → α → β → Prop) (E : XK) (w : Wd) (Q : β → Hp → Prop) : Res α → Prop
  | .ok a S' => ∀ w' v, Ext w w' → SR K w' S' → rel w' a v → Q v w'.H
  | .exc c ns l S' => ∀ w' d, Ext w w' → SR K w' S' → ExcD K w' ns l d → E (.ref (He.ga K c)) d w'.H
  | .stuck => False
section
variable {K : PySem.W.Frag} {α β γ δ : Type} {r1 : Wd → α → β → Prop} {r2 : Wd → γ → δ → Prop} {E : XK} {w w1 : Wd} {Q : δ → Hp → Prop} {Q1 : β → Hp → Prop} {m : M α} {f : α → M γ} {S : Store}
theorem Hop.ext {x : Res γ} (e : Ext w w1) (h : Hop K r2 E w Q x) : Hop K r2 E w1 Q x := by
  cases x with
  | ok a S' => exact fun w' v x s r => h w' v (e.trans x) s r
  | exc c ns l S' => exact fun w' d x s r => h w' d (e.trans x) s r
  | stuck => exact h
theorem Hop.bind (h : Hop K r2 E w Q (M.bind m f S)) (k : ∀ w1 a v S1, Ext w w1 → SR K w1 S1 → r1 w1 a v → Hop K r2 E w1 Q (f a S1) → Q1 v w1.H) : Hop K r1 E w Q1 (m S) := by
  unfold M.bind at h
  cases e : m S with
  | ok a S1 =>
    rw [e] at h
    exact fun w1 v x s r => k w1 a v S1 x s r (Hop.ext x h)
  | exc c ns l S1 =>
    rw [e] at h
    exact h
  | stuck =>
    rw [e] at h
    exact h
end
theorem bind_assoc {α β γ : Type} (m : M α) (f : α → M β) (g : β → M γ) : M.bind (M.bind m f) g = M.bind m fun a => M.bind (f a) g := by
  funext S
  unfold M.bind
  cases m S <;> rfl
theorem pure_bind {α β : Type} (a : α) (f : α → M β) : M.bind (M.pure a) f = f a := rfl

abbrev XR := Wd → Str → List Str → List D → V → Prop
def RelX (K : PySem.W.Frag) (xr : XR) (w : Wd) : R → V → Prop
  | .exc c ns l, v => xr w c ns l v
  | .dat d, v => Rel K w (.dat d) v
  | .own k, v => Rel K w (.own k) v
structure EnvR (K : PySem.W.Frag) (xr : XR) (w : Wd) (σ : St) (ρ : MP.Env) : Prop where
  len : ρ.length = σ.length
  get : ∀ (i : Nat) (r : R), ρ[i]? = some (some r) → ∃ v, σ[i]? = some (some v) ∧ RelX K xr w r v
def XR.Ok (xr : XR) : Prop := ∀ w w' c ns l v, Mono w w' → xr w c ns l v → xr w' c ns l v
theorem RelX.mono {K : PySem.W.Frag} {xr : XR} {w w' : Wd} (hx : xr.Ok) (x : Mono w w') : ∀ {r : R} {v : V}, RelX K xr w r v → RelX K xr w' r v
  | .exc _ _ _, _, h => hx _ _ _ _ _ _ x h
  | .dat _, _, h => Rel.mono (K := K) (r := .dat _) x h
  | .own _, _, h => Rel.mono (K := K) (r := .own _) x h
theorem Rel.toX {K : PySem.W.Frag} {xr : XR} {w : Wd} : ∀ {r : R} {v : V}, Rel K w r v → RelX K xr w r v
  | .exc _ _ _, _, h => h.elim
  | .dat _, _, h => h
  | .own _, _, h => h
section
variable {K : PySem.W.Frag} {xr : XR} {w w' : Wd} {σ : St} {ρ : MP.Env}
theorem EnvR.mono (e : EnvR K xr w σ ρ) (hx : xr.Ok) (x : Mono w w') : EnvR K xr w' σ ρ :=
  ⟨e.len, fun i r h => let ⟨v, h1, h2⟩ := e.get i r h; ⟨v, h1, h2.mono hx x⟩⟩
theorem EnvR.ext (e : EnvR K xr w σ ρ) (hx : xr.Ok) (x : Ext w w') : EnvR K xr w' σ ρ := e.mono hx x.mono
theorem EnvR.set {i : Nat} {r : R} {v : V} (e : EnvR K xr w σ ρ) (h : RelX K xr w r v) : EnvR K xr w (σ.set i (some v)) (ρ.set i (some r)) := by
  refine ⟨by rw [List.length_set, List.length_set]; exact e.len, fun j q hq => ?_⟩
  by_cases hj : i = j
  · subst hj
    by_cases hl : i < ρ.length
    · rw [List.getElem?_set_self hl] at hq
      cases hq
      exact ⟨v, by rw [List.getElem?_set_self (by rw [← e.len]; exact hl)], h⟩
    · rw [List.getElem?_eq_none (by rw [List.length_set]; omega)] at hq
      cases hq
  · rw [List.getElem?_set_ne hj] at hq
    obtain ⟨u, h1, h2⟩ := e.get j q hq
    exact ⟨u, by rw [List.getElem?_set_ne hj]; exact h1, h2⟩
theorem EnvR.unset {i : Nat} (e : EnvR K xr w σ ρ) : EnvR K xr w (σ.set i none) (ρ.set i none) := by
  refine ⟨by rw [List.length_set, List.length_set]; exact e.len, fun j q hq => ?_⟩
  by_cases hj : i = j
  · subst hj
    by_cases hl : i < ρ.length
    · rw [List.getElem?_set_self hl] at hq
      cases hq
    · rw [List.getElem?_eq_none (by rw [List.length_set]; omega)] at hq
      cases hq
  · rw [List.getElem?_set_ne hj] at hq
    obtain ⟨u, h1, h2⟩ := e.get j q hq
    exact ⟨u, by rw [List.getElem?_set_ne hj]; exact h1, h2⟩
theorem EnvR.wipe (e : EnvR K xr w σ ρ) : ∀ vs : List Nat, EnvR K xr w (L2.wipe σ vs) (wipeE ρ vs)
  | [] => e
  | v :: vs => (EnvR.wipe e vs).unset
end

def EOk (X : Cx) (xr : XR) (W : WX) (e : Expr) (m : MP.Env → M R) : Prop :=
  ∃ t, PE X e t ∧ ∀ σ w S ρ Q, EnvR X.K xr w σ ρ → SR X.K w S → Hop X.K (Rel X.K) (WE W σ) w Q (m ρ S) → t σ w.H Q
def TOk (X : Cx) (xr : XR) (W : WX) (e : Expr) (m : MP.Env → M Bool) : Prop :=
  ∃ t, PT X e t ∧ ∀ σ w S ρ Q, EnvR X.K xr w σ ρ → SR X.K w S → Hop X.K (fun _ b v => b = v) (WE W σ) w Q (m ρ S) → t σ w.H Q
def AOk (X : Cx) (xr : XR) (W : WX) (es : List Expr) (m : MP.Env → M (List R)) : Prop :=
  ∃ t, PA X es t ∧ ∀ σ w S ρ Q, EnvR X.K xr w σ ρ → SR X.K w S → Hop X.K (Rels X.K) (WE W σ) w Q (m ρ S) → t σ w.H Q

section
variable {X : Cx} {xr : XR} {W : WX} {a b : Expr} {ma mb : MP.Env → M R} {pos : Pos}
theorem hop_pure {α β : Type} {rel : Wd → α → β → Prop} {K : PySem.W.Frag} {E : XK} {w : Wd} {Q : β → Hp → Prop} {a : α} {v : β} {S : Store} (h : Hop K rel E w Q (M.pure a S)) (s : SR K w S) (r : rel w a v) : Q v w.H := h w v (Ext.refl w) s r
/-! ### names, constants -/
theorem e_var {i : Nat} {x : Str} (hN : X.N[i]? = some x) (hv : Vis X.env.scope x) (hd : (x == ("__debug__" : Str)) = false) (hcd : (x == ("__classdict__" : Str)) = false) : EOk X xr W (.Name x pos) (fun ρ => getV ρ i) := by
  refine ⟨_, pe_var hN hv hd hcd, fun σ w S ρ Q er sr h => ?_⟩
  unfold getV at h
  dsimp only at h
  cases e : ρ[i]? with
  | none => rw [e] at h; exact h.elim
  | some o =>
    cases o with
    | none => rw [e] at h; exact h.elim
    | some r =>
      obtain ⟨v, h1, h2⟩ := er.get i r e
      rw [e] at h
      cases r with
      | dat d => exact ⟨v, h1, hop_pure h sr h2⟩
      | own k => exact ⟨v, h1, hop_pure h sr h2⟩
      | exc c ns l => exact h.elim
theorem e_int {i : Int} {j : Nat} : EOk X xr W (.Constant (.int i) j pos) (fun _ => M.pure (.dat (.int i))) := ⟨_, pe_int, fun σ w S ρ Q er sr h => hop_pure h sr rfl⟩
theorem e_bl {i : Bool} {j : Nat} : EOk X xr W (.Constant (.bool i) j pos) (fun _ => M.pure (.dat (.bl i))) := ⟨_, pe_bl, fun σ w S ρ Q er sr h => hop_pure h sr rfl⟩
theorem e_non {j : Nat} : EOk X xr W (.Constant .none j pos) (fun _ => M.pure (.dat .non)) := ⟨_, pe_non, fun σ w S ρ Q er sr h => hop_pure h sr rfl⟩
theorem e_str {s : Str} {j : Nat} : EOk X xr W (.Constant (.str s) j pos) (fun _ => M.pure (.dat (.str s))) := ⟨_, pe_str, fun σ w S ρ Q er sr h => hop_pure h sr rfl⟩
theorem e_gint {x : Str} {i : Int} (hg : Gl X x) (hm : ∃ t, X.mg x = some (.int i t)) (hd : (x == ("__debug__" : Str)) = false) : EOk X xr W (.Name x pos) (fun _ => M.pure (.dat (.int i))) := by
  obtain ⟨t, hm⟩ := hm
  exact ⟨_, pe_glob (v := .int i) hg hm ⟨t, rfl⟩ hd, fun σ w S ρ Q er sr h => hop_pure h sr rfl⟩

/-! ### two operands -/
theorem e_bin2 {op : Operator} {r : R2} {f : R → R → M R} (hx : xr.Ok) (ho : OpR X (binaryOp op) r)
    (hr : ∀ w S x y u v E Q, SR X.K w S → Rel X.K w x u → Rel X.K w y v → Hop X.K (Rel X.K) E w Q (f x y S) → r u v w.H Q) (ha : EOk X xr W a ma) (hb : EOk X xr W b mb) :
    EOk X xr W (.BinOp a op b pos) (fun ρ => M.bind (ma ρ) fun x => M.bind (mb ρ) fun y => f x y) := by
  obtain ⟨ta, pa, qa⟩ := ha
  obtain ⟨tb, pb, qb⟩ := hb
  refine ⟨_, pe_op ho pa pb, fun σ w S ρ Q er sr h => qa σ w S ρ _ er sr (h.bind fun w1 x u S1 e1 s1 rx h1 => qb σ w1 S1 ρ _ (er.ext hx e1) s1 (h1.bind fun w2 y v S2 e2 s2 ry h2 => ?_))⟩
  exact hr w2 S2 x y u v _ Q s2 (rx.ext e2) ry h2
theorem e_cmp2 {op : CmpOp} {r : R2} {f : R → R → M R} (hx : xr.Ok) (ho : OpR X (compareOp op) r) (hm : behindInMarks op b = false)
    (hr : ∀ w S x y u v E Q, SR X.K w S → Rel X.K w x u → Rel X.K w y v → Hop X.K (Rel X.K) E w Q (f x y S) → r u v w.H Q) (ha : EOk X xr W a ma) (hb : EOk X xr W b mb) :
    EOk X xr W (.Compare a [op] [b] pos) (fun ρ => M.bind (ma ρ) fun x => M.bind (mb ρ) fun y => f x y) := by
  obtain ⟨ta, pa, qa⟩ := ha
  obtain ⟨tb, pb, qb⟩ := hb
  refine ⟨_, pe_cmpR ho pa pb hm, fun σ w S ρ Q er sr h => qa σ w S ρ _ er sr (h.bind fun w1 x u S1 e1 s1 rx h1 => qb σ w1 S1 ρ _ (er.ext hx e1) s1 (h1.bind fun w2 y v S2 e2 s2 ry h2 => ?_))⟩
  exact hr w2 S2 x y u v _ Q s2 (rx.ext e2) ry h2
theorem t_cmp2 {op : CmpOp} {r : R2} {f : R → R → M R} (hx : xr.Ok) (ho : OpR X (compareOp op) r) (hm : behindInMarks op b = false)
    (hr : ∀ w S x y u v E Q, SR X.K w S → Rel X.K w x u → Rel X.K w y v → Hop X.K (Rel X.K) E w Q (f x y S) → r u v w.H Q) (ha : EOk X xr W a ma) (hb : EOk X xr W b mb) :
    TOk X xr W (.Compare a [op] [b] pos) (fun ρ => M.bind (M.bind (ma ρ) fun x => M.bind (mb ρ) fun y => f x y) truB) := by
  obtain ⟨ta, pa, qa⟩ := ha
  obtain ⟨tb, pb, qb⟩ := hb
  refine ⟨_, pt_cmpR ho pa pb hm, fun σ w S ρ Q er sr h => ?_⟩
  dsimp only at h
  rw [bind_assoc] at h
  refine qa σ w S ρ _ er sr (h.bind fun w1 x u S1 e1 s1 rx h1 => ?_)
  rw [bind_assoc] at h1
  refine qb σ w1 S1 ρ _ (er.ext hx e1) s1 (h1.bind fun w2 y v S2 e2 s2 ry h2 => ?_)
  refine hr w2 S2 x y u v (WE W σ) _ s2 (rx.ext e2) ry (h2.bind (r1 := Rel X.K) fun w3 z zv S3 e3 s3 rz h3 => ?_)
  cases z with
  | dat d =>
    cases d with
    | bl c => exact ⟨c, rz, hop_pure h3 s3 rfl⟩
    | _ => exact h3.elim
  | _ => exact h3.elim
theorem OpR.or {f : Value → Value → Sem Value} {r r' : R2} (h : OpR X f r) (h' : OpR X f r') : OpR X f (fun x y H Q => r x y H Q ∨ r' x y H Q) := by
  intro pins s σ H x y v u Q I rx ry q
  rcases q with q | q
  · exact h pins s σ H x y v u Q I rx ry q
  · exact h' pins s σ H x y v u Q I rx ry q
/-- a value as a test -/
theorem t_val (ha : EOk X xr W a ma) (he : ∀ whole, isTrue a X.env whole = (do let v ← whole; standAt a.pos; holding [v] (truthy v))) : TOk X xr W a (fun ρ => M.bind (ma ρ) truB) := by
  obtain ⟨ta, pa, qa⟩ := ha
  refine ⟨_, pt_val pa he, fun σ w S ρ Q er sr h => qa σ w S ρ _ er sr (h.bind fun w1 z zv S1 e1 s1 rz h1 => ?_)⟩
  cases z with
  | dat d =>
    cases d with
    | bl c => exact ⟨c, rz, hop_pure h1 s1 rfl⟩
    | _ => exact h1.elim
  | _ => exact h1.elim
theorem e_isN {n : Bool} {k : Nat} {p1 : Pos} (ha : EOk X xr W a ma) : EOk X xr W (.Compare a [if n then .IsNot else .Is] [.Constant .none k p1] pos) (fun ρ => M.bind (ma ρ) fun x => match x with
    | .dat .non => M.pure (.dat (.bl (!n)))
    | .dat _ => M.pure (.dat (.bl n))
    | _ => M.stuck) := by
  obtain ⟨ta, pa, qa⟩ := ha
  have key : ∀ (x : R) (v : V) (w : Wd) (S : Store) (E : XK) (Q : VK), SR X.K w S → Rel X.K w x v → Hop X.K (Rel X.K) E w Q ((match x with
    | .dat .non => M.pure (.dat (.bl (!n)))
    | .dat _ => M.pure (.dat (.bl n))
    | _ => M.stuck : M R) S) → Q (.bl (if n then !decide (v = .non) else decide (v = .non))) w.H := by
    intro x v w S E Q s r h
    cases x with
    | dat d =>
      cases d with
      | non =>
        have e : v = .non := r
        subst e
        have q := hop_pure (v := V.bl (!n)) h s rfl
        cases n <;> exact q
      | bl b =>
        have e : v = .bl b := r
        subst e
        have q := hop_pure (v := V.bl n) h s rfl
        cases n <;> exact q
      | int b =>
        have e : v = .int b := r
        subst e
        have q := hop_pure (v := V.bl n) h s rfl
        cases n <;> exact q
      | str b =>
        have e : v = .str b := r
        subst e
        have q := hop_pure (v := V.bl n) h s rfl
        cases n <;> exact q
      | tup l =>
        obtain ⟨p, vs, e, _⟩ := r
        subst e
        have q := hop_pure (v := V.bl n) h s rfl
        cases n <;> exact q
      | lst l =>
        obtain ⟨p, vs, e, _⟩ := r
        subst e
        have q := hop_pure (v := V.bl n) h s rfl
        cases n <;> exact q
      | slst l =>
        obtain ⟨p, vs, e, _⟩ := r
        subst e
        have q := hop_pure (v := V.bl n) h s rfl
        cases n <;> exact q
      | obj c ns l =>
        obtain ⟨p, dx, fs, e, _⟩ := r
        subst e
        have q := hop_pure (v := V.bl n) h s rfl
        cases n <;> exact q
    | own k => exact h.elim
    | exc c ns l => exact h.elim
  cases n with
  | false => exact ⟨_, pe_cmp (pc_isN pa), fun σ w S ρ Q er sr h => qa σ w S ρ _ er sr (h.bind fun w1 x v S1 e1 s1 rx h1 => key x v w1 S1 _ Q s1 rx h1)⟩
  | true => exact ⟨_, pe_cmp (pc_notN pa), fun σ w S ρ Q er sr h => qa σ w S ρ _ er sr (h.bind fun w1 x v S1 e1 s1 rx h1 => key x v w1 S1 _ Q s1 rx h1)⟩
theorem e_neg (ha : EOk X xr W a ma) : EOk X xr W (.UnaryOp .USub a pos) (fun ρ => M.bind (ma ρ) fun x => match x with
    | .dat (.int i) => M.pure (.dat (.int (-i)))
    | _ => M.stuck) := by
  obtain ⟨ta, pa, qa⟩ := ha
  refine ⟨_, pe_un un_neg pa, fun σ w S ρ Q er sr h => qa σ w S ρ _ er sr (h.bind fun w1 x v S1 e1 s1 rx h1 => ?_)⟩
  cases x with
  | dat d =>
    cases d with
    | int i => exact ⟨i, rx, hop_pure h1 s1 rfl⟩
    | _ => exact h1.elim
  | _ => exact h1.elim
/-! ### not, and, or, if -/
theorem t_not {m : MP.Env → M Bool} (ha : TOk X xr W a m) : TOk X xr W (.UnaryOp .Not a pos) (fun ρ => M.bind (M.bind (m ρ) fun b => M.pure (.dat (.bl (!b)))) truB) := by
  obtain ⟨ta, pa, qa⟩ := ha
  refine ⟨_, pt_not pa, fun σ w S ρ Q er sr h => ?_⟩
  dsimp only at h
  rw [bind_assoc] at h
  refine qa σ w S ρ _ er sr (h.bind fun w1 b v S1 e1 s1 rb h1 => ?_)
  have e : b = v := rb
  subst e
  exact hop_pure (rel := fun _ b v => b = v) h1 s1 rfl
end
end MP
set_option Elab.async false
set_option linter.all false
set_option maxRecDepth 100000
set_option maxHeartbeats 4000000
/-! MPLists: lists, tuples, what is read off them. -/
namespace MP
open PySem PySem.Spec PyProof.Rows L2
section
variable {K : PySem.W.Frag} {w w' : Wd} {S : Store}
theorem Rels.length : ∀ {rs : List R} {vs : List V}, Rels K w rs vs → rs.length = vs.length
  | [], _, h => by
    have e : _ = [] := h
    rw [e]
    rfl
  | _ :: _, _, ⟨v, r, e, _, h2⟩ => by
    rw [e, List.length_cons, List.length_cons, Rels.length h2]
theorem Rels.get : ∀ {rs : List R} {vs : List V} {i : Nat} {r : R}, Rels K w rs vs → rs[i]? = some r → ∃ v, vs[i]? = some v ∧ Rel K w r v
  | [], _, i, _, _, e => by simp at e
  | _ :: _, _, 0, _, ⟨v, r, e, h1, h2⟩, q => by
    simp at q
    subst q e
    exact ⟨v, rfl, h1⟩
  | _ :: _, _, i + 1, _, ⟨v, r, e, h1, h2⟩, q => by
    subst e
    obtain ⟨u, e1, e2⟩ := Rels.get (i := i) h2 (by simpa using q)
    exact ⟨u, by simpa using e1, e2⟩
theorem Rels.append : ∀ {rs qs : List R} {vs us : List V}, Rels K w rs vs → Rels K w qs us → Rels K w (rs ++ qs) (vs ++ us)
  | [], _, _, _, h, q => by
    have e : _ = [] := h
    rw [e]
    exact q
  | _ :: _, _, _, _, ⟨v, r, e, h1, h2⟩, q => by
    subst e
    exact ⟨v, _, rfl, h1, Rels.append h2 q⟩
theorem Rels.take : ∀ {rs : List R} {vs : List V} (n : Nat), Rels K w rs vs → Rels K w (rs.take n) (vs.take n)
  | _, _, 0, _ => by simp [Rels]
  | [], _, n + 1, h => by
    have e : _ = [] := h
    rw [e]
    exact rfl
  | _ :: _, _, n + 1, ⟨v, r, e, h1, h2⟩ => by
    subst e
    exact ⟨v, _, rfl, h1, Rels.take n h2⟩
theorem Rels.drop : ∀ {rs : List R} {vs : List V} (n : Nat), Rels K w rs vs → Rels K w (rs.drop n) (vs.drop n)
  | _, _, 0, h => h
  | [], _, n + 1, h => by
    have e : _ = [] := h
    rw [e]
    exact rfl
  | _ :: _, _, n + 1, ⟨v, r, e, h1, h2⟩ => by
    subst e
    exact Rels.drop n h2
theorem Rels.set {r : R} {v : V} (q : Rel K w r v) : ∀ {rs : List R} {vs : List V} (i : Nat), Rels K w rs vs → Rels K w (rs.set i r) (vs.set i v)
  | [], _, i, h => by
    have e : _ = [] := h
    rw [e]
    exact rfl
  | _ :: _, _, 0, ⟨_, u, e, h1, h2⟩ => by
    subst e
    exact ⟨v, u, rfl, q, h2⟩
  | _ :: _, _, i + 1, ⟨_, u, e, h1, h2⟩ => by
    subst e
    exact ⟨_, _, rfl, h1, Rels.set q i h2⟩
theorem Rels.dropLast {rs : List R} {vs : List V} (h : Rels K w rs vs) : Rels K w rs.dropLast vs.dropLast := by
  rw [List.dropLast_eq_take, List.dropLast_eq_take, ← h.length]
  exact h.take _
theorem Rels.rep {rs : List R} {vs : List V} (h : Rels K w rs vs) : ∀ n : Nat, Rels K w (List.replicate n rs).flatten (List.replicate n vs).flatten
  | 0 => rfl
  | n + 1 => by
    rw [List.replicate_succ, List.replicate_succ, List.flatten_cons, List.flatten_cons]
    exact h.append (Rels.rep h n)
theorem Rels.one {r : R} {v : V} (h : Rel K w r v) : Rels K w [r] [v] := ⟨v, [], rfl, h, rfl⟩
theorem Rels.dats : ∀ {rs : List R} {ds : List D} {vs : List V}, datsR rs = some ds → Rels K w rs vs → Reps K w ds vs
  | [], ds, vs, e, h => by
    cases e
    exact h
  | .dat d :: r, ds, vs, e, ⟨v, u, e1, h1, h2⟩ => by
    obtain ⟨ds', e2, e3⟩ := Option.map_eq_some_iff.mp (show (datsR r).map (d :: ·) = some ds from e)
    subst e3
    exact ⟨v, u, e1, h1, Rels.dats e2 h2⟩
  | .own _ :: _, _, _, e, _ => by cases e
  | .exc _ _ _ :: _, _, _, e, _ => by cases e
theorem Reps.dat : ∀ {ds : List D} {vs : List V}, Reps K w ds vs → Rels K w (ds.map R.dat) vs
  | [], _, h => h
  | _ :: _, _, ⟨v, u, e, h1, h2⟩ => ⟨v, u, e, h1, Reps.dat h2⟩
theorem Rels.ints : ∀ {rs : List R} {ns : List Int} {vs : List V}, intsR rs = some ns → Rels K w rs vs → vs = ns.map V.int
  | [], ns, vs, e, h => by
    cases e
    exact h
  | .dat (.int i) :: r, ns, vs, e, ⟨v, u, e1, h1, h2⟩ => by
    obtain ⟨ns', e2, e3⟩ := Option.map_eq_some_iff.mp (show (intsR r).map (i :: ·) = some ns from e)
    subst e3 e1
    have e4 : v = .int i := h1
    rw [e4, Rels.ints e2 h2]
    rfl
  | .dat .non :: _, _, _, e, _ => by cases e
  | .dat (.bl _) :: _, _, _, e, _ => by cases e
  | .dat (.str _) :: _, _, _, e, _ => by cases e
  | .dat (.tup _) :: _, _, _, e, _ => by cases e
  | .dat (.lst _) :: _, _, _, e, _ => by cases e
  | .dat (.slst _) :: _, _, _, e, _ => by cases e
  | .dat (.obj _ _ _) :: _, _, _, e, _ => by cases e
  | .own _ :: _, _, _, e, _ => by cases e
  | .exc _ _ _ :: _, _, _, e, _ => by cases e
theorem Rels.bls : ∀ {rs : List R} {ns : List Bool} {vs : List V}, blsR rs = some ns → Rels K w rs vs → vs = ns.map V.bl
  | [], ns, vs, e, h => by
    cases e
    exact h
  | .dat (.bl i) :: r, ns, vs, e, ⟨v, u, e1, h1, h2⟩ => by
    obtain ⟨ns', e2, e3⟩ := Option.map_eq_some_iff.mp (show (blsR r).map (i :: ·) = some ns from e)
    subst e3 e1
    have e4 : v = .bl i := h1
    rw [e4, Rels.bls e2 h2]
    rfl
  | .dat .non :: _, _, _, e, _ => by cases e
  | .dat (.int _) :: _, _, _, e, _ => by cases e
  | .dat (.str _) :: _, _, _, e, _ => by cases e
  | .dat (.tup _) :: _, _, _, e, _ => by cases e
  | .dat (.lst _) :: _, _, _, e, _ => by cases e
  | .dat (.slst _) :: _, _, _, e, _ => by cases e
  | .dat (.obj _ _ _) :: _, _, _, e, _ => by cases e
  | .own _ :: _, _, _, e, _ => by cases e
  | .exc _ _ _ :: _, _, _, e, _ => by cases e
/-- what has items -/
theorem items_ok (s : SR K w S) {x : R} {v : V} {rs : List R} (r : Rel K w x v) (h : itemsR S x = some rs) :
    ∃ a vs, v = .ref a ∧ (w.H a = some (.lst vs) ∨ w.H a = some (.tup vs)) ∧ vs.length ≤ sizeLine ∧ Rels K w rs vs := by
  cases x with
  | dat d =>
    cases d with
    | lst l =>
      obtain ⟨a, vs, e, n, h1, hz, h2⟩ := r
      cases h
      exact ⟨a, vs, e, .inl h1, hz, h2.dat⟩
    | tup l =>
      obtain ⟨a, vs, e, n, h1, hz, h2⟩ := r
      cases h
      exact ⟨a, vs, e, .inr h1, hz, h2.dat⟩
    | _ => cases h
  | own k =>
    obtain ⟨hk, e⟩ := r
    obtain ⟨c, hc, hr⟩ := s.get hk
    have h : (match S[k]? with
      | some (.lst rs) => some rs
      | some (.tup rs) => some rs
      | _ => none) = some rs := h
    rw [hc] at h
    cases c with
    | lst qs =>
      cases h
      obtain ⟨vs, h1, hz, h2⟩ := hr
      exact ⟨_, vs, e, .inl h1, hz, h2⟩
    | tup qs =>
      cases h
      obtain ⟨vs, h1, hz, h2⟩ := hr
      exact ⟨_, vs, e, .inr h1, hz, h2⟩
    | obj c ns qs => cases h
  | exc c ns l => cases h
/-- .. and is no tuple -/
theorem items_lst (s : SR K w S) {x : R} {v : V} {rs : List R} (r : Rel K w x v) (h0 : itemsL S x = some rs) :
    ∃ a vs, v = .ref a ∧ w.H a = some (.lst vs) ∧ vs.length ≤ sizeLine ∧ Rels K w rs vs := by
  unfold itemsL at h0
  by_cases ht : isTup S x = true
  · rw [if_pos ht] at h0
    cases h0
  · rw [if_neg ht] at h0
    obtain ⟨a, vs, e, q, hz, h2⟩ := items_ok s r h0
    refine ⟨a, vs, e, ?_, hz, h2⟩
    rcases q with q | q
    · exact q
    · exfalso
      apply ht
      cases x with
      | dat d =>
        cases d with
        | lst l =>
          obtain ⟨b, us, e2, _, h3, _⟩ := r
          rw [e] at e2
          cases e2
          rw [q] at h3
          cases h3
        | tup l => rfl
        | _ => cases h0
      | own k =>
        obtain ⟨hk, e2⟩ := r
        obtain ⟨c, hc, hr⟩ := s.get hk
        rw [e] at e2
        cases e2
        show (match S[k]? with
          | some (.tup _) => true
          | _ => false) = true
        rw [hc]
        cases c with
        | lst qs =>
          obtain ⟨us, h3, _⟩ := hr
          rw [q] at h3
          cases h3
        | tup qs => rfl
        | obj c ns qs =>
          obtain ⟨dx, fs, h3, _⟩ := hr
          rw [q] at h3
          cases h3
      | exc c ns l => cases h0
theorem items_sq (s : SR K w S) {x : R} {v : V} {rs : List R} (r : Rel K w x v) (h : itemsR S x = some rs) :
    ∃ a vs, v = .ref a ∧ (SqL K w.H a vs ∨ SqT K w.H a vs) ∧ vs.length ≤ sizeLine ∧ Rels K w rs vs := by
  obtain ⟨a, vs, e, q, hz, h2⟩ := items_ok s r h
  refine ⟨a, vs, e, ?_, hz, h2⟩
  rcases q with q | q
  · exact .inl (.of q)
  · exact .inr (.of q)
/-- a new list -/
theorem mkL_ok {m : Bool} {rs : List R} {vs : List V} {E : XK} {Q : VK} (s : SR K w S) (hz : vs.length ≤ sizeLine) (h2 : Rels K w rs vs) (h : Hop K (Rel K) E w Q (mkL m rs S)) (p : Addr) (hp : w.H p = none) : Q (.ref p) (upd w.H p (.lst vs)) := by
  have dat : ∀ ds, datsR rs = some ds → Hop K (Rel K) E w Q (.ok (.dat (.lst ds)) S) → Q (.ref p) (upd w.H p (.lst vs)) := fun ds hd h => by
    have x := ext_new (o := .lst vs) s hp
    exact h (w.new p (.lst vs)) (.ref p) x (s.new hp) ⟨p, vs, rfl, nlive_new s hp, new_same, hz, (Rels.dats hd h2).ext x⟩
  have cel : Hop K (Rel K) E w Q (.ok (.own S.length) (S ++ [.lst rs])) → Q (.ref p) (upd w.H p (.lst vs)) := fun h => by
    have x := ext_push (o := .lst vs) s hp
    have s' := s.push (o := .lst vs) (c := .lst rs) hp ⟨vs, upd_same, hz, h2.ext x⟩
    exact h (w.push p (.lst vs)) (.ref p) x s' ⟨by show S.length < w.n + 1; rw [s.n]; exact Nat.lt_succ_self _, by rw [← s.n]; exact congrArg V.ref push_p.symm⟩
  unfold mkL at h
  cases m with
  | true => exact cel h
  | false =>
    cases e : datsR rs with
    | none =>
      rw [e] at h
      exact cel h
    | some ds =>
      rw [e] at h
      exact dat ds e h
theorem mkT_ok {rs : List R} {vs : List V} {E : XK} {Q : VK} (s : SR K w S) (hz : vs.length ≤ sizeLine) (h2 : Rels K w rs vs) (h : Hop K (Rel K) E w Q (mkT rs S)) (p : Addr) (hp : w.H p = none) : Q (.ref p) (upd w.H p (.tup vs)) := by
  unfold mkT at h
  cases e : datsR rs with
  | none =>
    rw [e] at h
    have x := ext_push (o := .tup vs) s hp
    have s' := s.push (o := .tup vs) (c := .tup rs) hp ⟨vs, upd_same, hz, h2.ext x⟩
    exact h (w.push p (.tup vs)) (.ref p) x s' ⟨by show S.length < w.n + 1; rw [s.n]; exact Nat.lt_succ_self _, by rw [← s.n]; exact congrArg V.ref push_p.symm⟩
  | some ds =>
    rw [e] at h
    have x := ext_new (o := .tup vs) s hp
    exact h (w.new p (.tup vs)) (.ref p) x (s.new hp) ⟨p, vs, rfl, nlive_new s hp, new_same, hz, (Rels.dats e h2).ext x⟩
theorem line_small {n : Nat} (h : small n = true) : n ≤ 1000000 := of_decide_eq_true h
theorem line_eq : sizeLine = 16777216 := sizeLine_eq

/-! ### operators -/
variable {X : Cx}
theorem dat_int {i : Int} {v : V} (r : Rel K w (.dat (.int i)) v) : v = .int i := r
/-- + -/
theorem binadd_ok (m : Bool) : ∀ (w : Wd) (S : Store) (x y : R) (u v : V) (E : XK) (Q : VK), SR X.K w S → Rel X.K w x u → Rel X.K w y v → Hop X.K (Rel X.K) E w Q (binR m .add x y S) →
    (rI0 (fun i j => .int (i + j)) u v w.H Q ∨ rCat u v w.H Q) := by
  intro w S x y u v E Q s rx ry h
  have cat : Hop X.K (Rel X.K) E w Q (catL m x y S) → rCat u v w.H Q := fun h => by
    unfold catL at h
    cases ex : itemsL S x with
    | none =>
      rw [ex] at h
      exact h.elim
    | some xs =>
      cases ey : itemsL S y with
      | none =>
        rw [ex, ey] at h
        exact h.elim
      | some ys =>
        rw [ex, ey] at h
        have hh : Hop X.K (Rel X.K) E w Q (if small (xs.length + ys.length) = true then mkL m (xs ++ ys) S else .stuck) := h
        obtain ⟨a, vs, e1, h1, z1, q1⟩ := items_lst s rx ex
        obtain ⟨b, us, e2, h2, z2, q2⟩ := items_lst s ry ey
        by_cases hs : small (xs.length + ys.length) = true
        · rw [if_pos hs] at hh
          have l1 := q1.length
          have l2 := q2.length
          have l3 := line_small hs
          have l4 := line_eq
          have z : vs.length + us.length ≤ sizeLine := by omega
          exact ⟨a, b, vs, us, e1, e2, h1, h2, z, fun p hp => mkL_ok s (by rw [List.length_append]; exact z) (q1.append q2) hh p hp⟩
        · rw [if_neg hs] at hh
          exact hh.elim
  cases x with
  | dat d =>
    cases d with
    | int i =>
      cases y with
      | dat e =>
        cases e with
        | int j => exact .inl ⟨i, j, rx, ry, hop_pure h s rfl⟩
        | _ => exact .inr (cat h)
      | _ => exact .inr (cat h)
    | _ => exact .inr (cat h)
  | _ => exact .inr (cat h)
theorem mulOk_ok {i j : Int} (h : mulOk i j = true) : CMulW i j := by
  unfold mulOk at h
  have z := of_decide_eq_true h
  exact z
theorem divOk_ok {j : Int} (i : Int) (h : divOk j = true) : CDivW i j := by
  unfold divOk at h
  have z := of_decide_eq_true h
  exact z
def CPowW (i j : Int) : Prop := 0 ≤ j ∧ (Builtin.Int.intBits i : Int) * j ≤ 2 ^ 27
theorem powOk_ok {i j : Int} (h : powOk i j = true) : CPowW i j := by
  unfold powOk at h
  have z := of_decide_eq_true h
  exact z
/-- * of ints, of a list -/
theorem op_mulAny : OpR X (binaryOp .Mult) (fun x y H Q => rI CMulW (fun i j => .int (i * j)) x y H Q ∨ rRep x y H Q) := OpR.or op_mulW op_rep
theorem op_addAny : OpR X (binaryOp .Add) (fun x y H Q => rI0 (fun i j => .int (i + j)) x y H Q ∨ rCat x y H Q) := OpR.or op_add op_cat
theorem binmul_ok (m : Bool) : ∀ (w : Wd) (S : Store) (x y : R) (u v : V) (E : XK) (Q : VK), SR X.K w S → Rel X.K w x u → Rel X.K w y v → Hop X.K (Rel X.K) E w Q (binR m .mul x y S) →
    (rI CMulW (fun i j => .int (i * j)) u v w.H Q ∨ rRep u v w.H Q) := by
  intro w S x y u v E Q s rx ry h
  have rep : ∀ k : Int, y = .dat (.int k) → Hop X.K (Rel X.K) E w Q (repL m x k S) → rRep u v w.H Q := fun k hy h => by
    unfold repL at h
    cases ex : itemsL S x with
    | none =>
      rw [ex] at h
      exact h.elim
    | some xs =>
      rw [ex] at h
      have hh : Hop X.K (Rel X.K) E w Q (if small (xs.length * k.toNat) = true ∧ k ≤ 1000000 ∧ -1000000 ≤ k then mkL m (List.replicate k.toNat xs).flatten S else .stuck) := h
      obtain ⟨a, vs, e1, h1, z1, q1⟩ := items_lst s rx ex
      by_cases hs : small (xs.length * k.toNat) = true ∧ k ≤ 1000000 ∧ -1000000 ≤ k
      · rw [if_pos hs] at hh
        have l1 := q1.length
        have l3 := line_small hs.1
        have l4 := line_eq
        have z : vs.length * k.toNat ≤ sizeLine := by rw [← l1]; omega
        refine ⟨a, k, vs, e1, by rw [hy] at ry; exact ry, h1, by omega, by omega, z, fun p hp => mkL_ok s ?_ (q1.rep _) hh p hp⟩
        rw [List.length_flatten, List.map_replicate, List.sum_replicate_nat, Nat.mul_comm]
        exact z
      · rw [if_neg hs] at hh
        exact hh.elim
  cases y with
  | dat e =>
    cases e with
    | int j =>
      cases x with
      | dat d =>
        cases d with
        | int i =>
          have hh : Hop X.K (Rel X.K) E w Q ((if mulOk i j = true then M.pure (.dat (.int (i * j))) else M.stuck : M R) S) := h
          by_cases hm : mulOk i j = true
          · rw [if_pos hm] at hh
            exact .inl ⟨i, j, rx, ry, mulOk_ok hm, hop_pure hh s rfl⟩
          · rw [if_neg hm] at hh
            exact hh.elim
        | _ => exact .inr (rep j rfl h)
      | _ => exact .inr (rep j rfl h)
    | _ =>
      cases x with
      | dat d => cases d <;> exact h.elim
      | _ => exact h.elim
  | _ =>
    cases x with
    | dat d => cases d <;> exact h.elim
    | _ => exact h.elim
/-- the ops of ints alone -/
theorem bin_int {op : Bop} {C : Int → Int → Prop} {g : Int → Int → Int} {m : Bool} (hn : ∀ x y, (∀ i j, x = .dat (.int i) → y ≠ .dat (.int j)) → binR m op x y = M.stuck)
    (hi : ∀ i j S, binR m op (.dat (.int i)) (.dat (.int j)) S ≠ .stuck → C i j ∧ binR m op (.dat (.int i)) (.dat (.int j)) S = .ok (.dat (.int (g i j))) S) :
    ∀ (w : Wd) (S : Store) (x y : R) (u v : V) (E : XK) (Q : VK), SR X.K w S → Rel X.K w x u → Rel X.K w y v → Hop X.K (Rel X.K) E w Q (binR m op x y S) → rI C (fun i j => .int (g i j)) u v w.H Q := by
  intro w S x y u v E Q s rx ry h
  have key : ∀ i j, x = .dat (.int i) → y = .dat (.int j) → rI C (fun i j => .int (g i j)) u v w.H Q := fun i j ex ey => by
    rw [ex] at rx h
    rw [ey] at ry h
    have ns : binR m op (.dat (.int i)) (.dat (.int j)) S ≠ .stuck := fun z => by
      rw [z] at h
      exact h
    obtain ⟨c, e⟩ := hi i j S ns
    rw [e] at h
    exact ⟨i, j, rx, ry, c, h w (.int (g i j)) (Ext.refl w) s rfl⟩
  by_cases hx : ∃ i, x = .dat (.int i)
  · obtain ⟨i, ex⟩ := hx
    by_cases hy : ∃ j, y = .dat (.int j)
    · obtain ⟨j, ey⟩ := hy
      exact key i j ex ey
    · rw [hn x y fun _ j _ ey => hy ⟨j, ey⟩] at h
      exact h.elim
  · rw [hn x y fun i _ ex => absurd ⟨i, ex⟩ hx] at h
    exact h.elim
theorem notint {α : Prop} {x y : R} (h : ∀ i j, x = .dat (.int i) → y ≠ .dat (.int j)) {i j : Int} (ex : x = .dat (.int i)) (ey : y = .dat (.int j)) : α := absurd ey (h i j ex)
theorem binsub_ok (m : Bool) : ∀ (w : Wd) (S : Store) (x y : R) (u v : V) (E : XK) (Q : VK), SR X.K w S → Rel X.K w x u → Rel X.K w y v → Hop X.K (Rel X.K) E w Q (binR m .sub x y S) → rI (fun _ _ => True) (fun i j => .int (i - j)) u v w.H Q :=
  bin_int (fun x y hn => by
    cases x with
    | dat d => cases d with
      | int i => cases y with
        | dat e => cases e with
          | int j => exact notint hn rfl rfl
          | _ => rfl
        | _ => rfl
      | _ => rfl
    | _ => rfl) fun i j S _ => ⟨trivial, rfl⟩
theorem bindiv_ok (m : Bool) : ∀ (w : Wd) (S : Store) (x y : R) (u v : V) (E : XK) (Q : VK), SR X.K w S → Rel X.K w x u → Rel X.K w y v → Hop X.K (Rel X.K) E w Q (binR m .fdiv x y S) → rI CDivW (fun i j => .int (i / j)) u v w.H Q :=
  bin_int (fun x y hn => by
    cases x with
    | dat d => cases d with
      | int i => cases y with
        | dat e => cases e with
          | int j => exact notint hn rfl rfl
          | _ => rfl
        | _ => rfl
      | _ => rfl
    | _ => rfl) fun i j S hs => by
      have hh : (if divOk j = true then M.pure (.dat (.int (i / j))) else M.stuck : M R) S ≠ .stuck := hs
      by_cases hm : divOk j = true
      · exact ⟨divOk_ok i hm, by show (if divOk j = true then M.pure (.dat (.int (i / j))) else M.stuck : M R) S = _; rw [if_pos hm]; rfl⟩
      · rw [if_neg hm] at hh
        exact absurd rfl hh
theorem binmod_ok (m : Bool) : ∀ (w : Wd) (S : Store) (x y : R) (u v : V) (E : XK) (Q : VK), SR X.K w S → Rel X.K w x u → Rel X.K w y v → Hop X.K (Rel X.K) E w Q (binR m .mod x y S) → rI (fun _ j => 0 < j) (fun i j => .int (i % j)) u v w.H Q :=
  bin_int (fun x y hn => by
    cases x with
    | dat d => cases d with
      | int i => cases y with
        | dat e => cases e with
          | int j => exact notint hn rfl rfl
          | _ => rfl
        | _ => rfl
      | _ => rfl
    | _ => rfl) fun i j S hs => by
      have hh : (if 0 < j then M.pure (.dat (.int (i % j))) else M.stuck : M R) S ≠ .stuck := hs
      by_cases hm : 0 < j
      · exact ⟨hm, by show (if 0 < j then M.pure (.dat (.int (i % j))) else M.stuck : M R) S = _; rw [if_pos hm]; rfl⟩
      · rw [if_neg hm] at hh
        exact absurd rfl hh
theorem op_powW : OpR X (binaryOp .Pow) (rI CPowW fun i j => .int (i ^ j.toNat)) := opI fun _ _ _ _ _ _ _ hc q => pow_int hc.1 hc.2 q
theorem binpow_ok (m : Bool) : ∀ (w : Wd) (S : Store) (x y : R) (u v : V) (E : XK) (Q : VK), SR X.K w S → Rel X.K w x u → Rel X.K w y v → Hop X.K (Rel X.K) E w Q (binR m .pow x y S) → rI CPowW (fun i j => .int (i ^ j.toNat)) u v w.H Q :=
  bin_int (fun x y hn => by
    cases x with
    | dat d => cases d with
      | int i => cases y with
        | dat e => cases e with
          | int j => exact notint hn rfl rfl
          | _ => rfl
        | _ => rfl
      | _ => rfl
    | _ => rfl) fun i j S hs => by
      have hh : (if powOk i j = true then M.pure (.dat (.int (i ^ j.toNat))) else M.stuck : M R) S ≠ .stuck := hs
      by_cases hm : powOk i j = true
      · exact ⟨powOk_ok hm, by show (if powOk i j = true then M.pure (.dat (.int (i ^ j.toNat))) else M.stuck : M R) S = _; rw [if_pos hm]; rfl⟩
      · rw [if_neg hm] at hh
        exact absurd rfl hh
theorem rI_I0 {g : Int → Int → V} {x y : V} {H : Hp} {Q : VK} (h : rI (fun _ _ => True) g x y H Q) : rI0 g x y H Q := by
  obtain ⟨i, j, e1, e2, _, q⟩ := h
  exact ⟨i, j, e1, e2, q⟩
/-! ### == -/
mutual
theorem dp_of : ∀ (d : D) (v : V) (x : PyData), Rep K w d v → py d = some x → Dp K w.H v x
  | .non, v, x, r, e => by
    cases e
    have e1 : v = .non := r
    subst e1
    exact .non
  | .bl b, v, x, r, e => by
    cases e
    have e1 : v = .bl b := r
    subst e1
    exact .bl b
  | .int b, v, x, r, e => by
    cases e
    have e1 : v = .int b := r
    subst e1
    exact .int b
  | .str b, v, x, r, e => by
    cases e
    have e1 : v = .str b := r
    subst e1
    exact .str b
  | .tup l, v, x, r, e => by
    obtain ⟨a, vs, e1, _, h1, _, h2⟩ := r
    obtain ⟨xs, e2, e3⟩ := Option.map_eq_some_iff.mp (show (pys l).map PyData.tuple = some x from e)
    subst e1 e3
    exact .tup (.of h1) (dps_of l vs xs h2 e2)
  | .lst l, v, x, r, e => by
    obtain ⟨a, vs, e1, _, h1, _, h2⟩ := r
    obtain ⟨xs, e2, e3⟩ := Option.map_eq_some_iff.mp (show (pys l).map PyData.list = some x from e)
    subst e1 e3
    exact .lst (.of h1) (dps_of l vs xs h2 e2)
  | .slst _, _, _, _, e => by cases e
  | .obj _ _ _, _, _, _, e => by cases e
theorem dps_of : ∀ (l : List D) (vs : List V) (xs : List PyData), Reps K w l vs → pys l = some xs → DpAll K w.H vs xs
  | [], vs, xs, r, e => by
    cases e
    have e1 : vs = [] := r
    subst e1
    exact .nil
  | d :: l, vs, xs, r, e => by
    obtain ⟨v, u, e1, h1, h2⟩ := r
    subst e1
    have e' : (match py d, pys l with
      | some x, some xs => some (x :: xs)
      | _, _ => none) = some xs := e
    cases e2 : py d with
    | none => rw [e2] at e'; cases e'
    | some y =>
      cases e3 : pys l with
      | none => rw [e2, e3] at e'; cases e'
      | some ys =>
        rw [e2, e3] at e'
        cases e'
        exact .cons (dp_of d v y h1 e2) (dps_of l u ys h2 e3)
end
/-- what == tells, as the hand layer's two rules have it -/
theorem eqD_ok (s : SR K w S) {x y : R} {u v : V} {c : Bool} (rx : Rel K w x u) (ry : Rel K w y v) (h : eqD S x y = some c) :
    (scal u v = true ∧ decide (u = v) = c) ∨ ∃ d e, Dp K w.H u d ∧ Dp K w.H v e ∧ SeqAt.shaped d = true ∧ SeqAt.shaped e = true ∧ PyData.eqv d e = c := by
  have gen : (match toD 0 S 8 x, toD 0 S 8 y with
    | some d, some e => (match py d, py e with
      | some x, some y => if SeqAt.shaped x = true ∧ SeqAt.shaped y = true then some (PyData.eqv x y) else none
      | _, _ => none)
    | _, _ => none) = some c → ∃ d e, Dp K w.H u d ∧ Dp K w.H v e ∧ SeqAt.shaped d = true ∧ SeqAt.shaped e = true ∧ PyData.eqv d e = c := fun h => by
    cases e1 : toD 0 S 8 x with
    | none => rw [e1] at h; cases h
    | some d =>
      cases e2 : toD 0 S 8 y with
      | none => rw [e1, e2] at h; cases h
      | some e =>
        rw [e1, e2] at h
        have h : (match py d, py e with
          | some x, some y => if SeqAt.shaped x = true ∧ SeqAt.shaped y = true then some (PyData.eqv x y) else none
          | _, _ => none) = some c := h
        cases e3 : py d with
        | none => rw [e3] at h; cases h
        | some a =>
          cases e4 : py e with
          | none => rw [e3, e4] at h; cases h
          | some b =>
            rw [e3, e4] at h
            have h : (if SeqAt.shaped a = true ∧ SeqAt.shaped b = true then some (PyData.eqv a b) else none) = some c := h
            by_cases hs : SeqAt.shaped a = true ∧ SeqAt.shaped b = true
            · rw [if_pos hs] at h
              have p1 := dp_of d u a (toD_ok s (Nat.zero_le _) 8 x d u e1 rx) e3
              have p2 := dp_of e v b (toD_ok s (Nat.zero_le _) 8 y e v e2 ry) e4
              exact ⟨a, b, p1, p2, hs.1, hs.2, Option.some.inj h⟩
            · rw [if_neg hs] at h
              cases h
  have fin : ∀ {b : Bool}, scal u v = true → decide (u = v) = b → some b = some c → (scal u v = true ∧ decide (u = v) = c) := fun h1 h2 h3 => ⟨h1, h2.trans (Option.some.inj h3)⟩
  cases x with
  | dat d =>
    cases d with
    | int i =>
      have e1 : u = .int i := rx
      subst e1
      cases y with
      | dat e =>
        cases e with
        | int j =>
          have e2 : v = .int j := ry
          subst e2
          exact .inl (fin rfl (by simp) h)
        | non =>
          have e2 : v = .non := ry
          subst e2
          exact .inl (fin rfl (by simp) h)
        | _ => exact .inr (gen h)
      | _ => exact .inr (gen h)
    | bl i =>
      have e1 : u = .bl i := rx
      subst e1
      cases y with
      | dat e =>
        cases e with
        | bl j =>
          have e2 : v = .bl j := ry
          subst e2
          exact .inl (fin rfl (by simp) h)
        | _ => exact .inr (gen h)
      | _ => exact .inr (gen h)
    | str i =>
      have e1 : u = .str i := rx
      subst e1
      cases y with
      | dat e =>
        cases e with
        | str j =>
          have e2 : v = .str j := ry
          subst e2
          exact .inl (fin rfl (by simp) h)
        | _ => exact .inr (gen h)
      | _ => exact .inr (gen h)
    | non =>
      have e1 : u = .non := rx
      subst e1
      cases y with
      | dat e =>
        cases e with
        | int j =>
          have e2 : v = .int j := ry
          subst e2
          exact .inl (fin rfl (by simp) h)
        | _ => exact .inr (gen h)
      | _ => exact .inr (gen h)
    | _ => exact .inr (gen h)
  | _ => exact .inr (gen h)
theorem op_eqAny (hu : X.A.units + 64 < cLine) : OpR X (compareOp .Eq) (fun x y H Q => rEq x y H Q ∨ rEqD X.K x y H Q) := OpR.or op_eq (op_eqD hu)
theorem op_neAny (hu : X.A.units + 64 < cLine) : OpR X (compareOp .NotEq) (fun x y H Q => rNe x y H Q ∨ rNeD X.K x y H Q) := OpR.or op_ne (op_neD hu)
theorem cmpeq_ok : ∀ (w : Wd) (S : Store) (x y : R) (u v : V) (E : XK) (Q : VK), SR X.K w S → Rel X.K w x u → Rel X.K w y v → Hop X.K (Rel X.K) E w Q (cmpR .eq x y S) → (rEq u v w.H Q ∨ rEqD X.K u v w.H Q) := by
  intro w S x y u v E Q s rx ry h
  have hh : Hop X.K (Rel X.K) E w Q (match eqD S x y with
    | some c => .ok (.dat (.bl c)) S
    | none => .stuck) := by
    unfold cmpR at h
    cases x with
    | dat d => cases d <;> exact h
    | _ => exact h
  cases e : eqD S x y with
  | none => rw [e] at hh; exact hh.elim
  | some c =>
    rw [e] at hh
    have q := hh w (.bl c) (Ext.refl w) s rfl
    rcases eqD_ok s rx ry e with ⟨h1, h2⟩ | ⟨d, e, h1, h2, h3, h4, h5⟩
    · exact .inl ⟨h1, by rw [h2]; exact q⟩
    · exact .inr ⟨d, e, h1, h2, h3, h4, by rw [h5]; exact q⟩
theorem cmpne_ok : ∀ (w : Wd) (S : Store) (x y : R) (u v : V) (E : XK) (Q : VK), SR X.K w S → Rel X.K w x u → Rel X.K w y v → Hop X.K (Rel X.K) E w Q (cmpR .ne x y S) → (rNe u v w.H Q ∨ rNeD X.K u v w.H Q) := by
  intro w S x y u v E Q s rx ry h
  have hh : Hop X.K (Rel X.K) E w Q (match eqD S x y with
    | some c => .ok (.dat (.bl (!c))) S
    | none => .stuck) := by
    unfold cmpR at h
    cases x with
    | dat d => cases d <;> exact h
    | _ => exact h
  cases e : eqD S x y with
  | none => rw [e] at hh; exact hh.elim
  | some c =>
    rw [e] at hh
    have q := hh w (.bl (!c)) (Ext.refl w) s rfl
    rcases eqD_ok s rx ry e with ⟨h1, h2⟩ | ⟨d, e, h1, h2, h3, h4, h5⟩
    · exact .inl ⟨h1, by rw [h2]; exact q⟩
    · exact .inr ⟨d, e, h1, h2, h3, h4, by rw [h5]; exact q⟩
/-- <, <=, >, >= -/
theorem cmp_int {op : Cop} {g : Int → Int → Bool} (hn : ∀ x y S, (∀ i j, x = .dat (.int i) → y ≠ .dat (.int j)) → cmpR op x y S = .stuck) (hi : ∀ i j S, cmpR op (.dat (.int i)) (.dat (.int j)) S = .ok (.dat (.bl (g i j))) S) :
    ∀ (w : Wd) (S : Store) (x y : R) (u v : V) (E : XK) (Q : VK), SR X.K w S → Rel X.K w x u → Rel X.K w y v → Hop X.K (Rel X.K) E w Q (cmpR op x y S) → rI0 (fun i j => .bl (g i j)) u v w.H Q := by
  intro w S x y u v E Q s rx ry h
  by_cases hx : ∃ i j, x = .dat (.int i) ∧ y = .dat (.int j)
  · obtain ⟨i, j, ex, ey⟩ := hx
    rw [ex] at rx h
    rw [ey] at ry h
    rw [hi] at h
    exact ⟨i, j, rx, ry, h w (.bl (g i j)) (Ext.refl w) s rfl⟩
  · rw [hn x y S fun i j ex ey => hx ⟨i, j, ex, ey⟩] at h
    exact h.elim
theorem cmpR_n (op : Cop) (h1 : op ≠ .eq) (h2 : op ≠ .ne) (x y : R) (S : Store) (hn : ∀ i j, x = .dat (.int i) → y ≠ .dat (.int j)) : cmpR op x y S = .stuck := by
  cases op with
  | eq => exact absurd rfl h1
  | ne => exact absurd rfl h2
  | _ =>
    cases x with
    | dat d => cases d with
      | int i => cases y with
        | dat e => cases e with
          | int j => exact absurd rfl (hn i j rfl)
          | _ => rfl
        | _ => rfl
      | _ => rfl
    | _ => rfl
end
end MP
set_option Elab.async false
set_option linter.all false
set_option maxRecDepth 100000
set_option maxHeartbeats 4000000
/-! MPBuilt: subscripts, fields, built-in functions, methods of lists. -/
namespace MP
open PySem PySem.Spec PyProof.Rows L2
section
variable {K : PySem.W.Frag} {w w' : Wd} {S : Store} {X : Cx}
theorem ixAny : IxR X (fun x y H Q => rIxL X.K x y H Q ∨ rIxT X.K x y H Q) := ix_list.or ix_tup
theorem Rels.at {rs : List R} {vs : List V} {i : Int} {r : R} (h : Rels K w rs vs) (e : atI rs i = some r) : ∃ v, atI vs i = some v ∧ Rel K w r v := by
  unfold atI at e ⊢
  rw [h.length] at e
  cases q : ixN vs.length i with
  | none => rw [q] at e; cases e
  | some j =>
    rw [q] at e
    obtain ⟨v, e1, e2⟩ := h.get (show rs[j]? = some r from e)
    exact ⟨v, e1, e2⟩
theorem ix_ok : ∀ (w : Wd) (S : Store) (x y : R) (u v : V) (E : XK) (Q : VK), SR X.K w S → Rel X.K w x u → Rel X.K w y v → Hop X.K (Rel X.K) E w Q (ixR x y S) → (rIxL X.K u v w.H Q ∨ rIxT X.K u v w.H Q) := by
  intro w S x y u v E Q s rx ry h
  unfold ixR at h
  cases y with
  | dat d =>
    cases d with
    | int i =>
      cases e : itemsR S x with
      | none => rw [e] at h; exact h.elim
      | some rs =>
        rw [e] at h
        have hh : Hop X.K (Rel X.K) E w Q (match atR rs i with
          | some r => .ok r S
          | none => .stuck) := h
        obtain ⟨a, vs, e1, q, hz, h2⟩ := items_ok s rx e
        cases e2 : atR rs i with
        | none => rw [e2] at hh; exact hh.elim
        | some r =>
          rw [e2] at hh
          obtain ⟨z, e3, e4⟩ := h2.at e2
          have fin := hh w z (Ext.refl w) s e4
          rcases q with q | q
          · exact .inl ⟨a, vs, i, z, e1, ry, .of q, e3, fin⟩
          · exact .inr ⟨a, vs, i, z, e1, ry, .of q, e3, fin⟩
    | _ => exact h.elim
  | _ => exact h.elim
theorem Rels.cut' {rs : List R} {vs : List V} (h : Rels K w rs vs) (lo hi : Option Int) : Rels K w (cutR rs lo hi) (cutV vs lo hi) := by
  unfold cutR cutV
  rw [h.length]
  exact (h.drop _).take _
theorem Reps.toRels {ds : List D} {vs : List V} : Rels K w (ds.map R.dat) vs → Reps K w ds vs := by
  induction ds generalizing vs with
  | nil => exact id
  | cons d l ih => exact fun ⟨v, u, e, h1, h2⟩ => ⟨v, u, e, h1, ih h2⟩
theorem cut_map {α β : Type} (f : α → β) (l : List α) (lo hi : Option Int) : cutR (l.map f) lo hi = (cutR l lo hi).map f := by
  unfold cutR
  rw [List.length_map, List.map_take, List.map_drop]
theorem sl_ok (m : Bool) (lo hi : Option Int) : ∀ (w : Wd) (S : Store) (x : R) (u : V) (E : XK) (Q : VK), SR X.K w S → Rel X.K w x u → Hop X.K (Rel X.K) E w Q (slR m x lo hi S) → rSlL X.K u lo hi w.H Q := by
  intro w S x u E Q s rx h
  have gen : Hop X.K (Rel X.K) E w Q (match itemsL S x with
    | some rs => mkL m (cutR rs lo hi) S
    | none => .stuck) → rSlL X.K u lo hi w.H Q := fun h => by
    cases e : itemsL S x with
    | none => rw [e] at h; exact h.elim
    | some rs =>
      rw [e] at h
      obtain ⟨a, vs, e1, q, hz, h2⟩ := items_lst s rx e
      exact ⟨a, vs, e1, .of q, fun p hp => mkL_ok s (Nat.le_trans (cutV_length _ _ _) hz) (h2.cut' lo hi) h p hp⟩
  cases x with
  | dat d =>
    cases d with
    | slst l =>
      obtain ⟨a, vs, e1, q, hz, h2⟩ := rx
      have h2' := (Reps.dat h2).cut' lo hi
      rw [cut_map] at h2'
      refine ⟨a, vs, e1, ?_, fun p hp => ?_⟩
      · rcases q with ⟨_, q | ⟨o, q⟩⟩ | q
        · exact .inl (.inl q)
        · exact .inl (.inr ⟨o, q⟩)
        · exact .inr q
      · have x := ext_new (o := .lst (cutV vs lo hi)) s hp
        exact h (w.new p (.lst (cutV vs lo hi))) (.ref p) x (s.new hp) ⟨p, _, rfl, nlive_new s hp, new_same, Nat.le_trans (cutV_length _ _ _) hz, (Reps.toRels h2').ext x⟩
    | _ => exact gen h
  | _ => exact gen h
/-! ### fields -/
theorem lookup_at : ∀ {fs : List (Str × V)} {j : Nat} {f : Str} {v : V}, (fs.map (·.1))[j]? = some f → (fs.map (·.1)).Nodup → (fs.map (·.2))[j]? = some v → fs.lookup f = some v
  | [], j, _, _, h, _, _ => by simp at h
  | (g, x) :: r, 0, f, v, h, _, h2 => by
    simp at h h2
    subst h h2
    simp [List.lookup]
  | (g, x) :: r, j + 1, f, v, h, nd, h2 => by
    rw [List.map_cons, List.nodup_cons] at nd
    have h' : (r.map (·.1))[j]? = some f := by simpa using h
    have h2' : (r.map (·.2))[j]? = some v := by simpa using h2
    have ne : f ≠ g := fun e => nd.1 (by rw [← e]; exact List.mem_of_getElem? h')
    rw [lookup_put, if_neg ne]
    exact lookup_at h' nd.2 h2'
/-! ### built-in functions -/
theorem cr_sumT (hc : X.calm = true) : CallR X (.builtin "sum") (fun vs H Q => ∃ (a : Addr) (ns : List Int), vs = [V.ref a] ∧ SqT X.K H a (ns.map V.int) ∧ Q (.int ns.sum) H) := by
  intro pins s σ H vs us Q I r h
  obtain ⟨a, ns, rfl, hs, q⟩ := h
  obtain ⟨its, rv, hl, _⟩ := I.tuple hs
  rw [Vals.ref1 r]
  have hi : IntsAre its ns := rv.ints
  obtain ⟨xs, ex⟩ := hi.allInts.items
  have hn : numsOf (intItems xs).toList = ns := by rw [← ex]; exact hi.numsOf
  rw [nums_intItems] at hn
  have ht : s.heap.IsTuple a (intItems xs) := by
    rw [← ex]
    exact hl
  refine PySem.W.ktm_sumG (I.ok.hd hc) ht fun h' tk t' hk => ⟨.int ns.sum, H, I.kept hk, ⟨t', ?_⟩, q⟩
  rw [preSum_eq, List.take_of_length_le (by simp), hn]
theorem cr_sumAny (hc : X.calm = true) : CallR X (.builtin "sum") (fun vs H Q => rSum X.K vs H Q ∨ ∃ (a : Addr) (ns : List Int), vs = [V.ref a] ∧ SqT X.K H a (ns.map V.int) ∧ Q (.int ns.sum) H) := CallR.or (cr_sum hc) (cr_sumT hc)
theorem log_wide {n : Nat} (h : n.log2 < 9000) : (max 1 n).log2 / 30 + 1 ≤ 450 := by
  have : (max 1 n).log2 < 9000 := by
    rcases Nat.le_total 1 n with q | q
    · rw [Nat.max_eq_right q]; exact h
    · rw [Nat.max_eq_left q]; decide
  omega
theorem log_max {n m : Nat} (h : n.log2 < 9000) (h' : m.log2 < 9000) : (max n m).log2 / 30 + 1 ≤ 450 := by
  have : (max n m).log2 < 9000 := by
    rcases Nat.le_total n m with q | q
    · rw [Nat.max_eq_right q]; exact h'
    · rw [Nat.max_eq_left q]; exact h
  omega
theorem lt_log {n k : Nat} (h : n.log2 < k) : n < 2 ^ k := by
  by_cases e : n = 0
  · rw [e]; exact Nat.two_pow_pos k
  · exact (Nat.log2_lt e).mp h
theorem cr_lcm : CallR X (.builtin "math.lcm") (fun vs H Q => ∃ a b : Int, vs = [.int a, .int b] ∧ a.natAbs.log2 < 9000 ∧ b.natAbs.log2 < 9000 ∧ Q (.int ((Nat.lcm a.natAbs b.natAbs : Nat) : Int)) H) := by
  intro pins s σ H vs us Q I r h
  obtain ⟨a, b, rfl, ha, hb, q⟩ := h
  obtain ⟨t, u, rfl⟩ := Vals.int2 r
  have e1 : (Nat.lcm 1 a.natAbs).lcm b.natAbs = Nat.lcm a.natAbs b.natAbs := by rw [Nat.lcm_one_left]
  have hz : ((((Nat.lcm 1 a.natAbs).lcm b.natAbs : Nat) : Int)).natAbs.log2 < bitsLine := by
    rw [e1, Int.natAbs_natCast]
    have l1 := lt_log ha
    have l2 := lt_log hb
    have l3 : Nat.lcm a.natAbs b.natAbs < 2 ^ 18000 := by
      have : Nat.lcm a.natAbs b.natAbs ≤ a.natAbs * b.natAbs := by
        unfold Nat.lcm
        exact Nat.div_le_self _ _
      refine Nat.lt_of_le_of_lt this ?_
      have : a.natAbs * b.natAbs < 2 ^ 9000 * 2 ^ 9000 := Nat.mul_lt_mul_of_lt_of_le l1 (Nat.le_of_lt l2) (Nat.two_pow_pos _)
      rw [← Nat.pow_add] at this
      exact this
    have l4 : (Nat.lcm a.natAbs b.natAbs).log2 < 18000 := by
      by_cases e0 : Nat.lcm a.natAbs b.natAbs = 0
      · rw [e0]; decide
      · exact (Nat.log2_lt e0).mpr l3
    show (Nat.lcm a.natAbs b.natAbs).log2 < 2 ^ 27
    omega
  have g := PySem.W.mg_run_lcm a t b u (Nat.not_lt.mpr (log_wide ha)) (Nat.not_lt.mpr (log_max ha hb)) hz
  refine PySem.call_function_meets PySem.W.MGF.kind_lcm PySem.W.MGF.plain_lcm PySem.W.MGF.entry_lcm (PySem.W.MGF.args_lcm _ _) g.meets ?_
  exact ⟨.int _, H, I.tok _, ⟨_, by rw [e1]⟩, q⟩
end
end MP
set_option Elab.async false
set_option linter.all false
set_option maxRecDepth 100000
set_option maxHeartbeats 4000000
/-! MPExpr: each form of expression. -/
namespace MP
open PySem PySem.Spec PyProof.Rows L2
section
variable {X : Cx} {xr : XR} {W : WX} {a b e : Expr} {es : List Expr} {ma mb : MP.Env → M R} {ms : MP.Env → M (List R)} {pos p p0 p1 p2 : Pos}
/-! ### argument lists -/
theorem a_nil : AOk X xr W [] (fun _ => M.pure []) := ⟨_, pa_nil, fun σ w S ρ Q er sr h => hop_pure h sr rfl⟩
theorem a_cons (hx : xr.Ok) (ha : EOk X xr W e ma) (hr : AOk X xr W es ms) (hs : starEach (e :: es) X.env = (false, eval e X.env) :: starEach es X.env) :
    AOk X xr W (e :: es) (fun ρ => M.bind (ma ρ) fun x => M.bind (ms ρ) fun xs => M.pure (x :: xs)) := by
  obtain ⟨ta, pa, qa⟩ := ha
  obtain ⟨ts, ps, qs⟩ := hr
  refine ⟨_, pa_cons pa ps hs, fun σ w S ρ Q er sr h => qa σ w S ρ _ er sr (h.bind fun w1 x u S1 e1 s1 rx h1 => qs σ w1 S1 ρ _ (er.ext hx e1) s1 (h1.bind fun w2 xs us S2 e2 s2 rs h2 => ?_))⟩
  exact hop_pure h2 s2 ⟨u, us, rfl, rx.ext e2, rs⟩
/-! ### displays -/
theorem e_lst (m : Bool) (hs : AOk X xr W es ms) (hl : ∀ ρ S rs S', ms ρ S = .ok rs S' → rs.length ≤ 1000) : EOk X xr W (.List es pos) (fun ρ => M.bind (ms ρ) (mkL m)) := by
  obtain ⟨ts, ps, qs⟩ := hs
  refine ⟨_, pe_lst ps, fun σ w S ρ Q er sr h => ?_⟩
  have h' : Hop X.K (Rel X.K) (WE W σ) w Q (M.bind (M.bind (ms ρ) fun rs => fun S' => if rs.length ≤ 1000 then .ok rs S' else .stuck) (mkL m) S) := by
    have e : M.bind (M.bind (ms ρ) fun rs => fun S' => if rs.length ≤ 1000 then Res.ok rs S' else .stuck) (mkL m) S = M.bind (ms ρ) (mkL m) S := by
      unfold M.bind
      cases q : ms ρ S with
      | ok rs S' =>
        have := hl ρ S rs S' q
        simp only [if_pos this]
      | _ => rfl
    rw [e]
    exact h
  rw [bind_assoc] at h'
  refine qs σ w S ρ _ er sr (h'.bind fun w1 rs us S1 e1 s1 rr h1 => ?_)
  unfold M.bind at h1
  by_cases hz : rs.length ≤ 1000
  · simp only [if_pos hz] at h1
    have l := rr.length
    have z : us.length ≤ sizeLine := by
      have := line_eq
      omega
    exact ⟨z, fun q hq => mkL_ok s1 z rr h1 q hq⟩
  · simp only [if_neg hz] at h1
    exact h1.elim
theorem e_tup {k : Nat} (hs : AOk X xr W es ms) (hl : ∀ ρ S rs S', ms ρ S = .ok rs S' → rs.length ≤ 1000) : EOk X xr W (.Tuple es k pos) (fun ρ => M.bind (ms ρ) mkT) := by
  obtain ⟨ts, ps, qs⟩ := hs
  refine ⟨_, pe_tup ps, fun σ w S ρ Q er sr h => ?_⟩
  have h' : Hop X.K (Rel X.K) (WE W σ) w Q (M.bind (M.bind (ms ρ) fun rs => fun S' => if rs.length ≤ 1000 then .ok rs S' else .stuck) mkT S) := by
    have e : M.bind (M.bind (ms ρ) fun rs => fun S' => if rs.length ≤ 1000 then Res.ok rs S' else .stuck) mkT S = M.bind (ms ρ) mkT S := by
      unfold M.bind
      cases q : ms ρ S with
      | ok rs S' =>
        have := hl ρ S rs S' q
        simp only [if_pos this]
      | _ => rfl
    rw [e]
    exact h
  rw [bind_assoc] at h'
  refine qs σ w S ρ _ er sr (h'.bind fun w1 rs us S1 e1 s1 rr h1 => ?_)
  unfold M.bind at h1
  by_cases hz : rs.length ≤ 1000
  · simp only [if_pos hz] at h1
    have l := rr.length
    have z : us.length ≤ sizeLine := by
      have := line_eq
      omega
    exact ⟨z, fun q hq => mkT_ok s1 z rr h1 q hq⟩
  · simp only [if_neg hz] at h1
    exact h1.elim
/-! ### subscripts -/
theorem e_ix (hx : xr.Ok) (hs : PlainIx b) (ha : EOk X xr W a ma) (hb : EOk X xr W b mb) : EOk X xr W (.Subscript a b pos) (fun ρ => M.bind (ma ρ) fun x => M.bind (mb ρ) fun y => ixR x y) := by
  obtain ⟨ta, pa, qa⟩ := ha
  obtain ⟨tb, pb, qb⟩ := hb
  refine ⟨_, pe_ix ixAny pa pb hs, fun σ w S ρ Q er sr h => qa σ w S ρ _ er sr (h.bind fun w1 x u S1 e1 s1 rx h1 => qb σ w1 S1 ρ _ (er.ext hx e1) s1 (h1.bind fun w2 y v S2 e2 s2 ry h2 => ?_))⟩
  exact ix_ok w2 S2 x y u v _ Q s2 (rx.ext e2) ry h2
def POk (X : Cx) (xr : XR) (W : WX) (o : Option Expr) (m : MP.Env → M (Option Int)) : Prop :=
  ∃ t, PO X o t ∧ ∀ σ w S ρ Q, EnvR X.K xr w σ ρ → SR X.K w S → Hop X.K (fun _ a v => a = v) (WE W σ) w Q (m ρ S) → t σ w.H Q
theorem o_none : POk X xr W none (fun _ => M.pure none) := ⟨_, po_none, fun σ w S ρ Q er sr h => hop_pure (rel := fun _ a v => a = v) h sr rfl⟩
theorem o_some (ha : EOk X xr W a ma) : POk X xr W (some a) (fun ρ => M.bind (ma ρ) fun x => optI [x]) := by
  obtain ⟨ta, pa, qa⟩ := ha
  refine ⟨_, po_some pa, fun σ w S ρ Q er sr h => qa σ w S ρ _ er sr (h.bind fun w1 x u S1 e1 s1 rx h1 => ?_)⟩
  cases x with
  | dat d =>
    cases d with
    | int i => exact ⟨i, rx, hop_pure (rel := fun _ a v => a = v) h1 s1 rfl⟩
    | _ => exact h1.elim
  | _ => exact h1.elim
theorem e_sl (m : Bool) (hx : xr.Ok) {lo hi : Option Expr} {ml mh : MP.Env → M (Option Int)} (ha : EOk X xr W a ma) (hl : POk X xr W lo ml) (hh : POk X xr W hi mh) :
    EOk X xr W (.Subscript a (.Slice lo hi none p2) pos) (fun ρ => M.bind (ma ρ) fun x => M.bind (ml ρ) fun l => M.bind (mh ρ) fun h => slR m x l h) := by
  obtain ⟨ta, pa, qa⟩ := ha
  obtain ⟨tl, pl, ql⟩ := hl
  obtain ⟨th, ph, qh⟩ := hh
  refine ⟨_, pe_slice sl_list pa pl ph, fun σ w S ρ Q er sr h => qa σ w S ρ _ er sr (h.bind fun w1 x u S1 e1 s1 rx h1 => ql σ w1 S1 ρ _ (er.ext hx e1) s1 (h1.bind fun w2 l l' S2 e2 s2 rl h2 =>
    qh σ w2 S2 ρ _ ((er.ext hx e1).ext hx e2) s2 (h2.bind fun w3 r r' S3 e3 s3 rr h3 => ?_)))⟩
  have el : l = l' := rl
  have eh : r = r' := rr
  subst el eh
  exact sl_ok m l r w3 S3 x u _ Q s3 ((rx.ext e2).ext e3) h3
/-! ### calls of built-ins -/
theorem e_bi {id : String} {x : Str} {r : List V → Hp → VK → Prop} {f : List R → M R} (hx : xr.Ok) (hc : CallR X (.builtin id) r) (hg : Gl X x) (hm : X.mg x = none) (hv : bootBuiltins x = some (.builtin id)) (hn : x ≠ "__name__") (hdb : (x == ("__debug__" : Str)) = false)
    (he : starEach (e :: es) X.env = (false, eval e X.env) :: starEach es X.env) (hpl : (backTo pos (starEach es X.env)).any (·.1) = false) (ha : EOk X xr W e ma) (hs : AOk X xr W es ms)
    (hr : ∀ w S xs vs E Q, SR X.K w S → Rels X.K w xs vs → Hop X.K (Rel X.K) E w Q (f xs S) → r vs w.H Q) :
    EOk X xr W (.Call (.Name x p) (e :: es) [] pos) (fun ρ => M.bind (ma ρ) fun x => M.bind (ms ρ) fun xs => f (x :: xs)) := by
  obtain ⟨ta, pa, qa⟩ := ha
  obtain ⟨ts, ps, qs⟩ := hs
  refine ⟨_, pe_callB hc hg hm hv (pa_cons pa ps he) hn hdb he hpl, fun σ w S ρ Q er sr h => qa σ w S ρ _ er sr (h.bind fun w1 x u S1 e1 s1 rx h1 => qs σ w1 S1 ρ _ (er.ext hx e1) s1 (h1.bind fun w2 xs us S2 e2 s2 rs h2 => ?_))⟩
  exact hr w2 S2 (x :: xs) (u :: us) _ Q s2 ⟨u, us, rfl, rx.ext e2, rs⟩ h2
theorem e_biT {id : String} {x : Str} {r : List V → Hp → VK → Prop} {f : List R → M R} (hx : xr.Ok) (hc : CallR X (.type id) r) (hg : Gl X x) (hm : X.mg x = none) (hv : bootBuiltins x = some (.type id)) (hn : x ≠ "__name__") (hdb : (x == ("__debug__" : Str)) = false)
    (he : starEach (e :: es) X.env = (false, eval e X.env) :: starEach es X.env) (hpl : (backTo pos (starEach es X.env)).any (·.1) = false) (ha : EOk X xr W e ma) (hs : AOk X xr W es ms)
    (hr : ∀ w S xs vs E Q, SR X.K w S → Rels X.K w xs vs → Hop X.K (Rel X.K) E w Q (f xs S) → r vs w.H Q) :
    EOk X xr W (.Call (.Name x p) (e :: es) [] pos) (fun ρ => M.bind (ma ρ) fun x => M.bind (ms ρ) fun xs => f (x :: xs)) := by
  obtain ⟨ta, pa, qa⟩ := ha
  obtain ⟨ts, ps, qs⟩ := hs
  refine ⟨_, pe_callTy hc hg hm hv (pa_cons pa ps he) hn hdb he hpl, fun σ w S ρ Q er sr h => qa σ w S ρ _ er sr (h.bind fun w1 x u S1 e1 s1 rx h1 => qs σ w1 S1 ρ _ (er.ext hx e1) s1 (h1.bind fun w2 xs us S2 e2 s2 rs h2 => ?_))⟩
  exact hr w2 S2 (x :: xs) (u :: us) _ Q s2 ⟨u, us, rfl, rx.ext e2, rs⟩ h2
theorem hop_ok {α β : Type} {rel : Wd → α → β → Prop} {K : PySem.W.Frag} {E : XK} {w : Wd} {Q : β → Hp → Prop} {a : α} {v : β} {S : Store} (h : Hop K rel E w Q (.ok a S)) (s : SR K w S) (r : rel w a v) : Q v w.H := h w v (Ext.refl w) s r
theorem one_of {K : PySem.W.Frag} {w : Wd} {x : R} {xs : List R} {vs : List V} (h : Rels K w (x :: xs) vs) : ∃ v us, vs = v :: us ∧ Rel K w x v ∧ Rels K w xs us := h
theorem nil_of {K : PySem.W.Frag} {w : Wd} {vs : List V} (h : Rels K w [] vs) : vs = [] := h
theorem intsR_cons {x : R} {xs : List R} {ns : List Int} (h : intsR (x :: xs) = some ns) : ∃ i is, ns = i :: is := by
  cases x with
  | dat d =>
    cases d with
    | int i =>
      obtain ⟨is, _, e⟩ := Option.map_eq_some_iff.mp (show (intsR xs).map (i :: ·) = some ns from h)
      exact ⟨i, is, e.symm⟩
    | _ => cases h
  | _ => cases h
/-- len -/
theorem len_ok (m : Bool) : ∀ (w : Wd) (S : Store) (xs : List R) (vs : List V) (E : XK) (Q : VK), SR X.K w S → Rels X.K w xs vs → Hop X.K (Rel X.K) E w Q (biR m .len xs S) → (∃ p ys, vs = [.ref p] ∧ (SqL X.K w.H p ys ∨ SqT X.K w.H p ys) ∧ Q (.int ys.length) w.H) := by
  intro w S xs vs E Q s r h
  match xs, r, h with
  | [], _, h => exact h.elim
  | [x], r, h =>
    obtain ⟨v, us, e1, r1, r2⟩ := one_of r
    have e2 := nil_of r2
    subst e1 e2
    have hh : Hop X.K (Rel X.K) E w Q (match itemsR S x with
      | some xs => .ok (.dat (.int xs.length)) S
      | none => .stuck) := h
    cases e : itemsR S x with
    | none => rw [e] at hh; exact hh.elim
    | some rs =>
      rw [e] at hh
      obtain ⟨a, ys, e3, q, hz, h2⟩ := items_sq s r1 e
      exact ⟨a, ys, by rw [e3], q, hop_ok hh s (by rw [← h2.length]; rfl)⟩
  | _ :: _ :: _, _, h => exact h.elim
theorem sum_ok (m : Bool) : ∀ (w : Wd) (S : Store) (xs : List R) (vs : List V) (E : XK) (Q : VK), SR X.K w S → Rels X.K w xs vs → Hop X.K (Rel X.K) E w Q (biR m .sum xs S) →
    (rSum X.K vs w.H Q ∨ ∃ (a : Addr) (ns : List Int), vs = [V.ref a] ∧ SqT X.K w.H a (ns.map V.int) ∧ Q (.int ns.sum) w.H) := by
  intro w S xs vs E Q s r h
  match xs, r, h with
  | [], _, h => exact h.elim
  | [x], r, h =>
    obtain ⟨v, us, e1, r1, r2⟩ := one_of r
    have e2 := nil_of r2
    subst e1 e2
    have hh : Hop X.K (Rel X.K) E w Q (match (itemsR S x).bind intsR with
      | some xs => .ok (.dat (.int xs.sum)) S
      | none => .stuck) := h
    cases e : itemsR S x with
    | none => rw [e] at hh; exact hh.elim
    | some rs =>
      cases e4 : intsR rs with
      | none =>
        rw [e] at hh
        simp only [Option.bind_some, e4] at hh
        exact hh.elim
      | some ns =>
        rw [e] at hh
        simp only [Option.bind_some, e4] at hh
        obtain ⟨a, ys, e3, q, hz, h2⟩ := items_sq s r1 e
        have e5 := h2.ints e4
        subst e5
        rcases q with q | q
        · exact .inl ⟨a, ns, by rw [e3], q, hop_ok hh s rfl⟩
        · exact .inr ⟨a, ns, by rw [e3], q, hop_ok hh s rfl⟩
  | _ :: _ :: _, _, h => exact h.elim
theorem abs_ok (m : Bool) : ∀ (w : Wd) (S : Store) (xs : List R) (vs : List V) (E : XK) (Q : VK), SR X.K w S → Rels X.K w xs vs → Hop X.K (Rel X.K) E w Q (biR m .abs xs S) → (∃ i, vs = [.int i] ∧ Q (.int (if i < 0 then -i else i)) w.H) := by
  intro w S xs vs E Q s r h
  match xs, r, h with
  | [], _, h => exact h.elim
  | [x], r, h =>
    obtain ⟨v, us, e1, r1, r2⟩ := one_of r
    have e2 := nil_of r2
    subst e1 e2
    cases x with
    | dat d =>
      cases d with
      | int i =>
        have e3 : v = .int i := r1
        subst e3
        exact ⟨i, rfl, hop_ok h s rfl⟩
      | _ => exact h.elim
    | _ => exact h.elim
  | x :: _ :: _, _, h =>
    cases x with
    | dat d => cases d <;> exact h.elim
    | _ => exact h.elim
theorem int_ok (m : Bool) : ∀ (w : Wd) (S : Store) (xs : List R) (vs : List V) (E : XK) (Q : VK), SR X.K w S → Rels X.K w xs vs → Hop X.K (Rel X.K) E w Q (biR m .int xs S) → ((∃ i, vs = [.int i] ∧ Q (.int i) w.H) ∨ ∃ k, vs = [.bl k] ∧ Q (.int (if k then 1 else 0)) w.H) := by
  intro w S xs vs E Q s r h
  match xs, r, h with
  | [], _, h => exact h.elim
  | [x], r, h =>
    obtain ⟨v, us, e1, r1, r2⟩ := one_of r
    have e2 := nil_of r2
    subst e1 e2
    cases x with
    | dat d =>
      cases d with
      | int i =>
        have e3 : v = .int i := r1
        subst e3
        exact .inl ⟨i, rfl, hop_ok h s rfl⟩
      | bl i =>
        have e3 : v = .bl i := r1
        subst e3
        exact .inr ⟨i, rfl, hop_ok h s rfl⟩
      | _ => exact h.elim
    | _ => exact h.elim
  | x :: _ :: _, _, h =>
    cases x with
    | dat d => cases d <;> exact h.elim
    | _ => exact h.elim
theorem foldl_max (l : List Int) : ∀ a : Int, l.foldl max a = a ∨ l.foldl max a ∈ l := by
  induction l with
  | nil => exact fun a => .inl rfl
  | cons x l ih =>
    intro a
    rw [List.foldl_cons]
    rcases ih (max a x) with h | h
    · rw [h]
      rcases Int.le_total a x with q | q
      · rw [Int.max_eq_right q]; exact .inr List.mem_cons_self
      · rw [Int.max_eq_left q]; exact .inl rfl
    · exact .inr (List.mem_cons_of_mem _ h)
theorem foldl_max_le (l : List Int) : ∀ a : Int, a ≤ l.foldl max a ∧ ∀ y ∈ l, y ≤ l.foldl max a := by
  induction l with
  | nil => exact fun a => ⟨Int.le_refl _, fun y h => absurd h (by simp)⟩
  | cons x l ih =>
    intro a
    rw [List.foldl_cons]
    obtain ⟨h1, h2⟩ := ih (max a x)
    refine ⟨Int.le_trans (Int.le_max_left a x) h1, fun y hy => ?_⟩
    rcases List.mem_cons.mp hy with e | e
    · rw [e]; exact Int.le_trans (Int.le_max_right a x) h1
    · exact h2 y e
theorem foldl_min (l : List Int) : ∀ a : Int, l.foldl min a = a ∨ l.foldl min a ∈ l := by
  induction l with
  | nil => exact fun a => .inl rfl
  | cons x l ih =>
    intro a
    rw [List.foldl_cons]
    rcases ih (min a x) with h | h
    · rw [h]
      rcases Int.le_total a x with q | q
      · rw [Int.min_eq_left q]; exact .inl rfl
      · rw [Int.min_eq_right q]; exact .inr List.mem_cons_self
    · exact .inr (List.mem_cons_of_mem _ h)
theorem foldl_min_le (l : List Int) : ∀ a : Int, l.foldl min a ≤ a ∧ ∀ y ∈ l, l.foldl min a ≤ y := by
  induction l with
  | nil => exact fun a => ⟨Int.le_refl _, fun y h => absurd h (by simp)⟩
  | cons x l ih =>
    intro a
    rw [List.foldl_cons]
    obtain ⟨h1, h2⟩ := ih (min a x)
    refine ⟨Int.le_trans h1 (Int.min_le_left a x), fun y hy => ?_⟩
    rcases List.mem_cons.mp hy with e | e
    · rw [e]; exact Int.le_trans h1 (Int.min_le_right a x)
    · exact h2 y e
theorem max_mem {l : List Int} {m : Int} (hm : m ∈ l) (hb : ∀ y ∈ l, y ≤ m) : maxI l = m := by
  cases l with
  | nil => cases hm
  | cons x l =>
    obtain ⟨h1, h2⟩ := foldl_max_le l x
    have up : m ≤ maxI (x :: l) := by
      rcases List.mem_cons.mp hm with e | e
      · rw [e]; exact h1
      · exact h2 m e
    have dn : maxI (x :: l) ≤ m := by
      rcases foldl_max l x with e | e
      · show l.foldl max x ≤ m
        rw [e]; exact hb x List.mem_cons_self
      · exact hb _ (List.mem_cons_of_mem _ e)
    exact Int.le_antisymm dn up
theorem min_mem {l : List Int} {m : Int} (hm : m ∈ l) (hb : ∀ y ∈ l, m ≤ y) : minI l = m := by
  cases l with
  | nil => cases hm
  | cons x l =>
    obtain ⟨h1, h2⟩ := foldl_min_le l x
    have up : minI (x :: l) ≤ m := by
      rcases List.mem_cons.mp hm with e | e
      · rw [e]; exact h1
      · exact h2 m e
    have dn : m ≤ minI (x :: l) := by
      rcases foldl_min l x with e | e
      · show m ≤ l.foldl min x
        rw [e]; exact hb x List.mem_cons_self
      · exact hb _ (List.mem_cons_of_mem _ e)
    exact Int.le_antisymm up dn
theorem cr_maxAny (hc : X.calm = true) : CallR X (.builtin "max") (fun xs H Q => (∃ i j, xs = [.int i, .int j] ∧ Q (.int (if j > i then j else i)) H) ∨ rMax X.K xs H Q) := CallR.or (call_max2 hc) (cr_max hc)
theorem cr_minAny (hc : X.calm = true) : CallR X (.builtin "min") (fun xs H Q => (∃ i j, xs = [.int i, .int j] ∧ Q (.int (if j < i then j else i)) H) ∨ rMin X.K xs H Q) := CallR.or (call_min2 hc) (cr_min hc)
theorem max_ok (m : Bool) : ∀ (w : Wd) (S : Store) (xs : List R) (vs : List V) (E : XK) (Q : VK), SR X.K w S → Rels X.K w xs vs → Hop X.K (Rel X.K) E w Q (biR m .max xs S) →
    ((∃ i j, vs = [.int i, .int j] ∧ Q (.int (if j > i then j else i)) w.H) ∨ rMax X.K vs w.H Q) := by
  intro w S xs vs E Q s r h
  match xs, r, h with
  | [], _, h => exact h.elim
  | [x], r, h =>
    obtain ⟨v, us, e1, r1, r2⟩ := one_of r
    have e2 := nil_of r2
    subst e1 e2
    have hh : Hop X.K (Rel X.K) E w Q (match (itemsL S x).bind intsR with
      | some (x :: xs) => .ok (.dat (.int (maxI (x :: xs)))) S
      | _ => .stuck) := by
      cases x with
      | dat d => cases d <;> exact h
      | _ => exact h
    cases e : itemsL S x with
    | none => rw [e] at hh; exact hh.elim
    | some rs =>
      cases e4 : intsR rs with
      | none =>
        rw [e] at hh
        simp only [Option.bind_some, e4] at hh
        exact hh.elim
      | some ns =>
        rw [e] at hh
        simp only [Option.bind_some, e4] at hh
        cases ns with
        | nil => exact hh.elim
        | cons n ns =>
          obtain ⟨a, ys, e3, q, hz, h2⟩ := items_lst s r1 e
          have e5 := h2.ints e4
          subst e5
          exact .inr ⟨a, n :: ns, by rw [e3], .of q, by simp, fun k hk hb => by rw [← max_mem hk hb]; exact hop_ok hh s rfl⟩
  | [x, y], r, h =>
    obtain ⟨v, us, e1, r1, r2⟩ := one_of r
    obtain ⟨v2, us2, e3, r3, r4⟩ := one_of r2
    have e2 := nil_of r4
    subst e1 e3 e2
    cases x with
    | dat d =>
      cases d with
      | int i =>
        cases y with
        | dat e =>
          cases e with
          | int j =>
            have e3 : v = .int i := r1
            have e4 : v2 = .int j := r3
            subst e3 e4
            have q : Q (.int (max i j)) w.H := hop_ok h s rfl
            refine .inl ⟨i, j, rfl, ?_⟩
            have e : (if j > i then j else i) = max i j := by
              by_cases z : j > i
              · rw [if_pos z]; omega
              · rw [if_neg z]; omega
            rw [e]
            exact q
          | _ => exact h.elim
        | _ => exact h.elim
      | _ => exact h.elim
    | _ => exact h.elim
  | x :: y :: _ :: _, _, h =>
    cases x with
    | dat d =>
      cases d with
      | int i =>
        cases y with
        | dat d => cases d <;> exact h.elim
        | _ => exact h.elim
      | _ => exact h.elim
    | _ => exact h.elim
theorem min_ok (m : Bool) : ∀ (w : Wd) (S : Store) (xs : List R) (vs : List V) (E : XK) (Q : VK), SR X.K w S → Rels X.K w xs vs → Hop X.K (Rel X.K) E w Q (biR m .min xs S) →
    ((∃ i j, vs = [.int i, .int j] ∧ Q (.int (if j < i then j else i)) w.H) ∨ rMin X.K vs w.H Q) := by
  intro w S xs vs E Q s r h
  match xs, r, h with
  | [], _, h => exact h.elim
  | [x], r, h =>
    obtain ⟨v, us, e1, r1, r2⟩ := one_of r
    have e2 := nil_of r2
    subst e1 e2
    have hh : Hop X.K (Rel X.K) E w Q (match (itemsL S x).bind intsR with
      | some (x :: xs) => .ok (.dat (.int (minI (x :: xs)))) S
      | _ => .stuck) := by
      cases x with
      | dat d => cases d <;> exact h
      | _ => exact h
    cases e : itemsL S x with
    | none => rw [e] at hh; exact hh.elim
    | some rs =>
      cases e4 : intsR rs with
      | none =>
        rw [e] at hh
        simp only [Option.bind_some, e4] at hh
        exact hh.elim
      | some ns =>
        rw [e] at hh
        simp only [Option.bind_some, e4] at hh
        cases ns with
        | nil => exact hh.elim
        | cons n ns =>
          obtain ⟨a, ys, e3, q, hz, h2⟩ := items_lst s r1 e
          have e5 := h2.ints e4
          subst e5
          exact .inr ⟨a, n :: ns, by rw [e3], .of q, by simp, fun k hk hb => by rw [← min_mem hk hb]; exact hop_ok hh s rfl⟩
  | [x, y], r, h =>
    obtain ⟨v, us, e1, r1, r2⟩ := one_of r
    obtain ⟨v2, us2, e3, r3, r4⟩ := one_of r2
    have e2 := nil_of r4
    subst e1 e3 e2
    cases x with
    | dat d =>
      cases d with
      | int i =>
        cases y with
        | dat e =>
          cases e with
          | int j =>
            have e3 : v = .int i := r1
            have e4 : v2 = .int j := r3
            subst e3 e4
            have q : Q (.int (min i j)) w.H := hop_ok h s rfl
            refine .inl ⟨i, j, rfl, ?_⟩
            have e : (if j < i then j else i) = min i j := by
              by_cases z : j < i
              · rw [if_pos z]; omega
              · rw [if_neg z]; omega
            rw [e]
            exact q
          | _ => exact h.elim
        | _ => exact h.elim
      | _ => exact h.elim
    | _ => exact h.elim
  | x :: y :: _ :: _, _, h =>
    cases x with
    | dat d =>
      cases d with
      | int i =>
        cases y with
        | dat d => cases d <;> exact h.elim
        | _ => exact h.elim
      | _ => exact h.elim
    | _ => exact h.elim
theorem all_ok (m : Bool) : ∀ (w : Wd) (S : Store) (xs : List R) (vs : List V) (E : XK) (Q : VK), SR X.K w S → Rels X.K w xs vs → Hop X.K (Rel X.K) E w Q (biR m .all xs S) → rAll X.K vs w.H Q := by
  intro w S xs vs E Q s r h
  match xs, r, h with
  | [], _, h => exact h.elim
  | [x], r, h =>
    obtain ⟨v, us, e1, r1, r2⟩ := one_of r
    have e2 := nil_of r2
    subst e1 e2
    have hh : Hop X.K (Rel X.K) E w Q (match (itemsL S x).bind blsR with
      | some xs => .ok (.dat (.bl (xs.all id))) S
      | none => .stuck) := h
    cases e : itemsL S x with
    | none => rw [e] at hh; exact hh.elim
    | some rs =>
      cases e4 : blsR rs with
      | none =>
        rw [e] at hh
        simp only [Option.bind_some, e4] at hh
        exact hh.elim
      | some ns =>
        rw [e] at hh
        simp only [Option.bind_some, e4] at hh
        obtain ⟨a, ys, e3, q, hz, h2⟩ := items_lst s r1 e
        have e5 := h2.bls e4
        subst e5
        exact ⟨a, ns, by rw [e3], .of q, hop_ok hh s rfl⟩
  | _ :: _ :: _, _, h => exact h.elim
theorem list_ok (m : Bool) : ∀ (w : Wd) (S : Store) (xs : List R) (vs : List V) (E : XK) (Q : VK), SR X.K w S → Rels X.K w xs vs → Hop X.K (Rel X.K) E w Q (biR m .list xs S) → (∃ p ys, vs = [.ref p] ∧ (SqL X.K w.H p ys ∨ SqT X.K w.H p ys) ∧ ∀ l, w.H l = none → Q (.ref l) (upd w.H l (.lst ys))) := by
  intro w S xs vs E Q s r h
  match xs, r, h with
  | [], _, h => exact h.elim
  | [x], r, h =>
    obtain ⟨v, us, e1, r1, r2⟩ := one_of r
    have e2 := nil_of r2
    subst e1 e2
    have hh : Hop X.K (Rel X.K) E w Q (match itemsR S x with
      | some xs => mkL m xs S
      | none => .stuck) := h
    cases e : itemsR S x with
    | none => rw [e] at hh; exact hh.elim
    | some rs =>
      rw [e] at hh
      obtain ⟨a, ys, e3, q, hz, h2⟩ := items_sq s r1 e
      exact ⟨a, ys, by rw [e3], q, fun l hl => mkL_ok s hz h2 hh l hl⟩
  | _ :: _ :: _, _, h => exact h.elim
theorem tuple_ok (m : Bool) : ∀ (w : Wd) (S : Store) (xs : List R) (vs : List V) (E : XK) (Q : VK), SR X.K w S → Rels X.K w xs vs → Hop X.K (Rel X.K) E w Q (biR m .tuple xs S) →
    (∃ p ys, vs = [.ref p] ∧ ((SqL X.K w.H p ys ∧ ∀ l, w.H l = none → Q (.ref l) (upd w.H l (.tup ys))) ∨ (SqT X.K w.H p ys ∧ Q (.ref p) w.H))) := by
  intro w S xs vs E Q s r h
  match xs, r, h with
  | [], _, h => exact h.elim
  | [x], r, h =>
    obtain ⟨v, us, e1, r1, r2⟩ := one_of r
    have e2 := nil_of r2
    subst e1 e2
    have hh : Hop X.K (Rel X.K) E w Q (if isTup S x = true then .ok x S else (match itemsR S x with
      | some xs => mkT xs S
      | none => .stuck)) := h
    by_cases ht : isTup S x = true
    · rw [if_pos ht] at hh
      have it : ∃ rs, itemsR S x = some rs := by
        cases x with
        | dat d => cases d with
          | tup l => exact ⟨_, rfl⟩
          | _ => cases ht
        | own k =>
          have ht' : (match S[k]? with
            | some (.tup _) => true
            | _ => false) = true := ht
          cases e : S[k]? with
          | none => rw [e] at ht'; cases ht'
          | some c =>
            rw [e] at ht'
            cases c with
            | tup rs => exact ⟨rs, by unfold itemsR; simp only [e]⟩
            | _ => cases ht'
        | exc c ns l => cases ht
      obtain ⟨rs, e⟩ := it
      obtain ⟨a, ys, e3, q, hz, h2⟩ := items_ok s r1 e
      have q2 : w.H a = some (.tup ys) := by
        rcases q with q | q
        · exfalso
          cases x with
          | dat d => cases d with
            | tup l =>
              obtain ⟨b, us, e4, _, h3, _⟩ := r1
              rw [e3] at e4
              cases e4
              rw [q] at h3
              cases h3
            | _ => cases ht
          | own k =>
            have ht' : (match S[k]? with
              | some (.tup _) => true
              | _ => false) = true := ht
            obtain ⟨hk, e4⟩ := r1
            obtain ⟨c, hc, hr⟩ := s.get hk
            rw [hc] at ht'
            rw [e3] at e4
            cases e4
            cases c with
            | tup rs =>
              obtain ⟨us, h3, _⟩ := hr
              rw [q] at h3
              cases h3
            | _ => cases ht'
          | exc c ns l => cases ht
        · exact q
      exact ⟨a, ys, by rw [e3], .inr ⟨.of q2, hop_ok hh s (by rw [← e3]; exact r1)⟩⟩
    · rw [if_neg ht] at hh
      cases e : itemsR S x with
      | none => rw [e] at hh; exact hh.elim
      | some rs =>
        rw [e] at hh
        have e0 : itemsL S x = some rs := by unfold itemsL; rw [if_neg ht]; exact e
        obtain ⟨a, ys, e3, q, hz, h2⟩ := items_lst s r1 e0
        exact ⟨a, ys, by rw [e3], .inl ⟨.of q, fun l hl => mkT_ok s hz h2 hh l hl⟩⟩
  | _ :: _ :: _, _, h => exact h.elim
end
end MP
set_option Elab.async false
set_option linter.all false
set_option maxRecDepth 100000
set_option maxHeartbeats 4000000
/-! MPCall: fields, methods of lists, isinstance, calls. -/
namespace MP
open PySem PySem.Spec PyProof.Rows L2
section
variable {K : PySem.W.Frag} {w w' : Wd}
theorem look_dat : ∀ {ns : List Str} {l : List D} {fs : List (Str × V)} {f : Str} {d : D}, lookA f ns l = some d → fs.map (·.1) = ns → Reps K w l (fs.map (·.2)) → ∃ v, fs.lookup f = some v ∧ Rep K w d v
  | [], l, fs, f, d, h, _, _ => by
    cases l <;> cases h
  | n :: ns, [], fs, f, d, h, _, _ => by cases h
  | n :: ns, x :: l, fs, f, d, h, e, r => by
    cases fs with
    | nil => cases e
    | cons q fs =>
      obtain ⟨g, v⟩ := q
      rw [List.map_cons] at e r
      injection e with e1 e2
      obtain ⟨v', u, e3, r1, r2⟩ := r
      injection e3 with e4 e5
      subst e1 e4 e5
      have h' : (if g = f then some x else lookA f ns l) = some d := h
      rw [lookup_put]
      by_cases z : g = f
      · rw [if_pos z] at h'
        cases h'
        rw [if_pos z.symm]
        exact ⟨v, rfl, r1⟩
      · rw [if_neg z] at h'
        rw [if_neg fun q => z q.symm]
        exact look_dat h' e2 r2
theorem look_rel : ∀ {ns : List Str} {l : List R} {fs : List (Str × V)} {f : Str} {d : R}, lookA f ns l = some d → fs.map (·.1) = ns → Rels K w l (fs.map (·.2)) → ∃ v, fs.lookup f = some v ∧ Rel K w d v
  | [], l, fs, f, d, h, _, _ => by
    cases l <;> cases h
  | n :: ns, [], fs, f, d, h, _, _ => by cases h
  | n :: ns, x :: l, fs, f, d, h, e, r => by
    cases fs with
    | nil => cases e
    | cons q fs =>
      obtain ⟨g, v⟩ := q
      rw [List.map_cons] at e r
      injection e with e1 e2
      obtain ⟨v', u, e3, r1, r2⟩ := r
      injection e3 with e4 e5
      subst e1 e4 e5
      have h' : (if g = f then some x else lookA f ns l) = some d := h
      rw [lookup_put]
      by_cases z : g = f
      · rw [if_pos z] at h'
        cases h'
        rw [if_pos z.symm]
        exact ⟨v, rfl, r1⟩
      · rw [if_neg z] at h'
        rw [if_neg fun q => z q.symm]
        exact look_rel h' e2 r2
end
section
variable {X : Cx} {xr : XR} {W : WX} {a b e : Expr} {es : List Expr} {ma mb : MP.Env → M R} {ms : MP.Env → M (List R)} {pos p p0 p1 p2 : Pos}
theorem attr_ok {c f : Str} (cl : Cls X.K (He.ga X.K c)) (na : NoAttr X.K (He.ga X.K c) f) : ∀ (w : Wd) (S : Store) (x : R) (u : V) (E : XK) (Q : VK), SR X.K w S → Rel X.K w x u → Hop X.K (Rel X.K) E w Q (attrR x c f S) →
    (∃ a C dx fs v, u = .ref a ∧ w.H a = some (.ins C dx fs) ∧ Cls X.K C ∧ NoAttr X.K C f ∧ fs.lookup f = some v ∧ Q v w.H) := by
  intro w S x u E Q s r h
  cases x with
  | dat d =>
    cases d with
    | obj c' ns l =>
      obtain ⟨a, dx, fs, e1, _, h1, h2, h3⟩ := r
      have hh : Hop X.K (Rel X.K) E w Q (if c' = c then (match lookA f ns l with
        | some d => .ok (.dat d) S
        | none => .stuck) else .stuck) := h
      by_cases z : c' = c
      · rw [if_pos z] at hh
        subst z
        cases q : lookA f ns l with
        | none => rw [q] at hh; exact hh.elim
        | some d =>
          rw [q] at hh
          obtain ⟨v, e2, e3⟩ := look_dat q h2 h3
          exact ⟨a, _, dx, fs, v, e1, h1, cl, na, e2, hop_ok hh s e3⟩
      · rw [if_neg z] at hh
        exact hh.elim
    | _ => exact h.elim
  | own k =>
    obtain ⟨hk, e1⟩ := r
    obtain ⟨cc, hc, hr⟩ := s.get hk
    unfold attrR at h
    cases cc with
    | obj c' ns rs =>
      obtain ⟨dx, fs, h1, h2, h3⟩ := hr
      simp only [hc] at h
      by_cases z : c' = c
      · rw [if_pos z] at h
        subst z
        cases q : lookA f ns rs with
        | none => rw [q] at h; exact h.elim
        | some d =>
          rw [q] at h
          obtain ⟨v, e2, e3⟩ := look_rel q h2 h3
          exact ⟨_, _, dx, fs, v, e1, h1, cl, na, e2, hop_ok h s e3⟩
      · rw [if_neg z] at h
        exact h.elim
    | lst rs => simp only [hc] at h; exact h.elim
    | tup rs => simp only [hc] at h; exact h.elim
  | exc c ns l => exact r.elim
theorem e_attr {c f : Str} (cl : Cls X.K (He.ga X.K c)) (na : NoAttr X.K (He.ga X.K c) f) (hb : attributeBase a f X.env (eval a X.env) = eval a X.env) (ha : EOk X xr W a ma) : EOk X xr W (.Attribute a f pos) (fun ρ => M.bind (ma ρ) fun x => attrR x c f) := by
  obtain ⟨ta, pa, qa⟩ := ha
  exact ⟨_, pe_fld pa hb, fun σ w S ρ Q er sr h => qa σ w S ρ _ er sr (h.bind fun w1 x u S1 e1 s1 rx h1 => attr_ok cl na w1 S1 x u _ Q s1 rx h1)⟩
/-! ### gcd, lcm -/
theorem e_gcd (hx : xr.Ok) {x : Str} (hg : Gl X x) (hm : X.mg x = some (.builtin "math.gcd")) (hdb : (x == ("__debug__" : Str)) = false) (he : starEach [a, b] X.env = (false, eval a X.env) :: starEach [b] X.env) (he2 : starEach [b] X.env = (false, eval b X.env) :: starEach [] X.env)
    (hpl : (backTo pos (starEach [b] X.env)).any (·.1) = false) (ha : EOk X xr W a ma) (hb : EOk X xr W b mb) : EOk X xr W (.Call (.Name x p0) [a, b] [] pos) (fun ρ => M.bind (ma ρ) fun x => M.bind (mb ρ) fun y => gcdR false x y) := by
  obtain ⟨ta, pa, qa⟩ := ha
  obtain ⟨tb, pb, qb⟩ := hb
  refine ⟨_, pe_callBfun cr_gcd hg hm (pa_cons pa (pa_cons pb pa_nil he2) he) hdb he hpl, fun σ w S ρ Q er sr h => qa σ w S ρ _ er sr (h.bind fun w1 x u S1 e1 s1 rx h1 => qb σ w1 S1 ρ _ (er.ext hx e1) s1 (h1.bind fun w2 y v S2 e2 s2 ry h2 => ?_))⟩
  cases x with
  | dat d =>
    cases d with
    | int i =>
      cases y with
      | dat d =>
        cases d with
        | int j =>
          have e3 : u = .int i := rx
          have e4 : v = .int j := ry
          subst e3 e4
          exact ⟨i, j, rfl, hop_ok h2 s2 rfl⟩
        | _ => exact h2.elim
      | _ => exact h2.elim
    | _ => exact h2.elim
  | _ => exact h2.elim
theorem e_lcm (hx : xr.Ok) {x : Str} (hg : Gl X x) (hm : X.mg x = some (.builtin "math.lcm")) (hdb : (x == ("__debug__" : Str)) = false) (he : starEach [a, b] X.env = (false, eval a X.env) :: starEach [b] X.env) (he2 : starEach [b] X.env = (false, eval b X.env) :: starEach [] X.env)
    (hpl : (backTo pos (starEach [b] X.env)).any (·.1) = false) (ha : EOk X xr W a ma) (hb : EOk X xr W b mb) : EOk X xr W (.Call (.Name x p0) [a, b] [] pos) (fun ρ => M.bind (ma ρ) fun x => M.bind (mb ρ) fun y => gcdR true x y) := by
  obtain ⟨ta, pa, qa⟩ := ha
  obtain ⟨tb, pb, qb⟩ := hb
  refine ⟨_, pe_callBfun cr_lcm hg hm (pa_cons pa (pa_cons pb pa_nil he2) he) hdb he hpl, fun σ w S ρ Q er sr h => qa σ w S ρ _ er sr (h.bind fun w1 x u S1 e1 s1 rx h1 => qb σ w1 S1 ρ _ (er.ext hx e1) s1 (h1.bind fun w2 y v S2 e2 s2 ry h2 => ?_))⟩
  cases x with
  | dat d =>
    cases d with
    | int i =>
      cases y with
      | dat d =>
        cases d with
        | int j =>
          have e3 : u = .int i := rx
          have e4 : v = .int j := ry
          subst e3 e4
          have hh : Hop X.K (Rel X.K) (WE W σ) w2 Q ((if decide (i.natAbs.log2 < 9000 ∧ j.natAbs.log2 < 9000) then .ok (.dat (.int (Nat.lcm i.natAbs j.natAbs))) S2 else .stuck : Res R)) := h2
          by_cases z : decide (i.natAbs.log2 < 9000 ∧ j.natAbs.log2 < 9000) = true
          · rw [if_pos z] at hh
            have z2 := of_decide_eq_true z
            exact ⟨i, j, rfl, z2.1, z2.2, hop_ok hh s2 rfl⟩
          · rw [if_neg z] at hh
            exact hh.elim
        | _ => exact h2.elim
      | _ => exact h2.elim
    | _ => exact h2.elim
  | _ => exact h2.elim
/-! ### methods of lists -/
theorem lm_at {K : PySem.W.Frag} {w : Wd} {S : Store} {x : R} {u : V} {E : XK} {Q : VK} {n : Lm} {rs : List R} (s : SR K w S) (r : Rel K w x u) (h : Hop K (Rel K) E w Q (lmR x n rs S)) :
    ∃ k xs vs, x = .own k ∧ k < w.n ∧ u = .ref (w.p k) ∧ S[k]? = some (.lst xs) ∧ w.H (w.p k) = some (.lst vs) ∧ vs.length ≤ sizeLine ∧ Rels K w xs vs := by
  cases x with
  | dat d => exact h.elim
  | exc c ns l => exact h.elim
  | own k =>
    obtain ⟨hk, e1⟩ := r
    obtain ⟨c, hc, hr⟩ := s.get hk
    unfold lmR at h
    cases c with
    | lst xs =>
      obtain ⟨vs, h1, hz, h2⟩ := hr
      exact ⟨k, xs, vs, rfl, hk, e1, hc, h1, hz, h2⟩
    | tup xs => simp only [hc] at h; exact h.elim
    | obj c ns xs => simp only [hc] at h; exact h.elim
theorem put_lst {K : PySem.W.Frag} {w : Wd} {S : Store} {k : Nat} {rs : List R} {vs : List V} (s : SR K w S) (hk : k < w.n) (hz : vs.length ≤ sizeLine) (h : Rels K w rs vs) : SR K (w.put k (.lst vs)) (S.set k (.lst rs)) :=
  s.put hk ⟨vs, upd_same, hz, h.ext (ext_put s hk)⟩
theorem lm_recv {K : PySem.W.Frag} {β : Type} {rel : Wd → Unit → β → Prop} {w : Wd} {S : Store} {x : R} {u : V} {E : XK} {Q : β → Hp → Prop} (s : SR K w S) (r : Rel K w x u) (h : Hop K rel E w Q (lmRecv x S)) : tyV K "list" u w.H := by
  unfold lmRecv at h
  cases x with
  | dat d => exact h.elim
  | exc c ns l => exact h.elim
  | own k =>
    obtain ⟨hk, e1⟩ := r
    obtain ⟨c, hc, hr⟩ := s.get hk
    subst e1
    cases c with
    | lst xs =>
      obtain ⟨vs, h1, _⟩ := hr
      exact .inl ⟨rfl, vs, .of h1⟩
    | tup xs => simp only [hc] at h; exact h.elim
    | obj c ns xs => simp only [hc] at h; exact h.elim
theorem lm_next {γ δ : Type} {K : PySem.W.Frag} {rel : Wd → γ → δ → Prop} {w : Wd} {S : Store} {x : R} {u : V} {E : XK} {Q : δ → Hp → Prop} {f : Unit → M γ} (s : SR K w S) (r : Rel K w x u) (h : Hop K rel E w Q (M.bind (lmRecv x) f S)) : tyV K "list" u w.H ∧ Hop K rel E w Q (f () S) := by
  have q := h.bind (r1 := fun _ (_ : Unit) (_ : Unit) => True) (Q1 := fun _ H => True) fun _ _ _ _ _ _ _ _ => trivial
  refine ⟨lm_recv s r q, ?_⟩
  unfold M.bind lmRecv at h
  cases x with
  | dat d => exact h.elim
  | exc c ns l => exact h.elim
  | own k =>
    cases e : S[k]? with
    | none => simp only [e] at h; exact h.elim
    | some c =>
      cases c with
      | lst xs => simp only [e] at h; exact h
      | tup xs => simp only [e] at h; exact h.elim
      | obj c ns xs => simp only [e] at h; exact h.elim
theorem seqIndex_zero (n : Nat) : seqIndex? 0 (n + 1) = some 0 := by
  unfold seqIndex?
  have h1 : ¬ ((0 : Int) < 0) := by omega
  simp only [if_neg h1]
  split
  · rfl
  · rename_i z
    exact absurd (by rw [Bool.and_eq_true, decide_eq_true_iff, decide_eq_true_iff]; omega) z
def LmOk (K : PySem.W.Frag) (n : Lm) (r : V → List V → Hp → VK → Prop) : Prop := ∀ (w : Wd) (S : Store) (x : R) (u : V) (rs : List R) (vs : List V) (E : XK) (Q : VK), SR K w S → Rel K w x u → Rels K w rs vs → Hop K (Rel K) E w Q (lmR x n rs S) → r u vs w.H Q
theorem append_ok {K : PySem.W.Frag} : ∀ (w : Wd) (S : Store) (x : R) (u : V) (rs : List R) (vs : List V) (E : XK) (Q : VK), SR K w S → Rel K w x u → Rels K w rs vs → Hop K (Rel K) E w Q (lmR x .append rs S) → rAppend u vs w.H Q := by
  intro w S x u rs ws E Q s r rr h
  obtain ⟨k, xs, vs, ex, hk, eu, hc, h3, hz, h4⟩ := lm_at s r h
  subst ex
  unfold lmR at h
  simp only [hc] at h
  match rs, rr, h with
  | [], _, h => exact h.elim
  | [y], ⟨v, r2, e, ry, e2⟩, h =>
    have e2' : r2 = [] := e2
    subst e2' e
    dsimp only at h
    by_cases z : small xs.length = true
    · rw [if_pos z] at h
      have l1 := h4.length
      have l2 := line_small z
      have l3 := line_eq
      refine ⟨_, vs, v, eu, rfl, h3, by omega, ?_⟩
      exact h (w.put k (.lst (vs ++ [v]))) .non (ext_put s hk) (put_lst s hk (by rw [List.length_append]; simp only [List.length_cons, List.length_nil]; omega) (h4.append (.one ry))) rfl
    · rw [if_neg z] at h
      exact h.elim
  | _ :: _ :: _, _, h => exact h.elim
theorem pop_ok {K : PySem.W.Frag} : ∀ (w : Wd) (S : Store) (x : R) (u : V) (E : XK) (Q : VK), SR K w S → Rel K w x u → Hop K (Rel K) E w Q (lmR x .pop [] S) → rPop u [] w.H Q := by
  intro w S x u E Q s r h
  obtain ⟨k, xs, vs, ex, hk, eu, hc, h3, hz, h4⟩ := lm_at s r h
  subst ex
  unfold lmR at h
  simp only [hc] at h
  have l1 := h4.length
  cases e : xs[xs.length - 1]? with
  | none => simp only [e] at h; exact h.elim
  | some y =>
    simp only [e] at h
    obtain ⟨v, e2, ry⟩ := h4.get e
    refine ⟨_, vs, v, eu, rfl, h3, by rw [← l1]; exact e2, ?_⟩
    exact h (w.put k (.lst vs.dropLast)) v (ext_put s hk) (put_lst s hk (by rw [List.length_dropLast]; omega) h4.dropLast) (ry.ext (ext_put s hk))
theorem popAt_ok {K : PySem.W.Frag} : ∀ (w : Wd) (S : Store) (x : R) (u : V) (rs : List R) (ws : List V) (E : XK) (Q : VK), SR K w S → Rel K w x u → rs ≠ [] → Rels K w rs ws → Hop K (Rel K) E w Q (lmR x .pop rs S) → rPopAt u ws w.H Q := by
  intro w S x u rs ws E Q s r ne rr h
  obtain ⟨k, xs, vs, ex, hk, eu, hc, h3, hz, h4⟩ := lm_at s r h
  subst ex
  unfold lmR at h
  simp only [hc] at h
  cases rs with
  | nil => exact (ne rfl).elim
  | cons y ys =>
    cases ys with
    | cons y2 ys =>
      cases y with
      | dat d => cases d <;> exact h.elim
      | own k => exact h.elim
      | exc c ns l => exact h.elim
    | nil =>
      obtain ⟨v, r2, e, ry, e2⟩ := rr
      have e2' : r2 = [] := e2
      subst e2' e
      cases y with
      | own k => exact h.elim
      | exc c ns l => exact h.elim
      | dat d =>
        cases d with
        | int i =>
          have ey : v = .int i := ry
          subst ey
          dsimp only at h
          by_cases z : i = 0
          · rw [if_pos z] at h
            subst z
            cases xs with
            | nil => exact h.elim
            | cons y ys =>
              obtain ⟨v, vr, e, q1, q2⟩ := h4
              subst e
              have hz' : vr.length + 1 ≤ sizeLine := hz
              refine ⟨_, _, 0, 0, v, eu, rfl, h3, by decide, by decide, ?_, rfl, ?_⟩
              · exact seqIndex_zero vr.length
              · exact h (w.put k (.lst vr)) v (ext_put s hk) (put_lst s hk (by omega) q2) (q1.ext (ext_put s hk))
          · rw [if_neg z] at h
            exact h.elim
        | _ => exact h.elim
theorem e_lm {n : Str} {m : Lm} {id : String} {r : V → List V → Hp → VK → Prop} (hx : xr.Ok) (slot : Slot "list" n id) (hty : typeOf (.builtin id) = pure (.type "method_descriptor")) (hm : MtR X id r)
    (hr : ∀ (w : Wd) (S : Store) (x : R) (u : V) (rs : List R) (vs : List V) (E : XK) (Q : VK), SR X.K w S → Rel X.K w x u → rs ≠ [] → Rels X.K w rs vs → Hop X.K (Rel X.K) E w Q (lmR x m rs S) → r u vs w.H Q)
    (hne : ∀ ρ S r S', ms ρ S = .ok r S' → r ≠ [])
    (hbase : attributeBase a n X.env (eval a X.env) = eval a X.env)
    (hfew : ((backTo pos (starEach (b :: es) X.env)).all (fun x => !x.1) && (backToKw pos (keywordEach [] X.env)).all (fun x => x.1.isSome) && decide ((b :: es).length + ([] : List Keyword).length + (if ([] : List Keyword).isEmpty then 0 else 1) < 30)) = true)
    (hline : (p1.endLine == pos.line) = true) (hs : starEach (b :: es) X.env = (false, eval b X.env) :: starEach es X.env) (hplain : (backTo pos (starEach es X.env)).any (·.1) = false) (ha : EOk X xr W a ma) (hb : AOk X xr W (b :: es) ms) :
    EOk X xr W (.Call (.Attribute a n p1) (b :: es) [] pos) (fun ρ => M.bind (ma ρ) fun x => M.bind (lmRecv x) fun _ => M.bind (ms ρ) fun ys => lmR x m ys) := by
  obtain ⟨ta, pa, qa⟩ := ha
  obtain ⟨tb, pb, qb⟩ := hb
  refine ⟨_, pe_bm PySem.F.plainAttrs_list slot hty hm pa pb hbase hfew hline hs hplain, fun σ w S ρ Q er sr h => qa σ w S ρ _ er sr (h.bind fun w1 x u S1 e1 s1 rx h1 => ?_)⟩
  obtain ⟨ty, h2⟩ := lm_next s1 rx h1
  refine ⟨ty, qb σ w1 S1 ρ _ (er.ext hx e1) s1 ?_⟩
  unfold M.bind at h2
  cases e : ms ρ S1 with
  | stuck => simp only [e] at h2; exact h2.elim
  | exc c ns l S2 => simp only [e] at h2; exact h2
  | ok rs S2 =>
    simp only [e] at h2
    exact fun w2 vs e2 s2 ry => hr w2 S2 x u rs vs _ Q s2 (rx.ext e2) (hne _ _ _ _ e) ry (h2.ext e2)
theorem e_lm0 {n : Str} {m : Lm} {id : String} {r : V → List V → Hp → VK → Prop} (slot : Slot "list" n id) (hty : typeOf (.builtin id) = pure (.type "method_descriptor")) (hm : MtR X id r)
    (hr : ∀ (w : Wd) (S : Store) (x : R) (u : V) (E : XK) (Q : VK), SR X.K w S → Rel X.K w x u → Hop X.K (Rel X.K) E w Q (lmR x m [] S) → r u [] w.H Q)
    (hbase : attributeBase a n X.env (eval a X.env) = eval a X.env)
    (hline : (p1.endLine == pos.line) = true) (ha : EOk X xr W a ma) :
    EOk X xr W (.Call (.Attribute a n p1) [] [] pos) (fun ρ => M.bind (ma ρ) fun x => M.bind (lmRecv x) fun _ => lmR x m []) := by
  obtain ⟨ta, pa, qa⟩ := ha
  refine ⟨_, pe_bm0 PySem.F.plainAttrs_list slot hty hm pa hbase hline, fun σ w S ρ Q er sr h => qa σ w S ρ _ er sr (h.bind fun w1 x u S1 e1 s1 rx h1 => ?_)⟩
  obtain ⟨ty, h2⟩ := lm_next s1 rx h1
  exact ⟨ty, hr w1 S1 x u _ Q s1 rx h2⟩
end
end MP
set_option Elab.async false
set_option linter.all false
set_option maxRecDepth 100000
set_option maxHeartbeats 4000000
/-! MPCall2: and, or, if; isinstance; calls of the text's own defs and classes. -/
namespace MP
open PySem PySem.Spec PyProof.Rows L2
def WOk (X : Cx) (xr : XR) (W : WX) (e : Expr) (m : MP.Env → M Bool) : Prop :=
  ∃ t, PW X e t ∧ ∀ σ w S ρ Q, EnvR X.K xr w σ ρ → SR X.K w S → Hop X.K (fun _ b v => b = v) (WE W σ) w Q (m ρ S) → t σ w.H Q
theorem WOk.t {X : Cx} {xr : XR} {W : WX} {e : Expr} {m : MP.Env → M Bool} (h : WOk X xr W e m) : TOk X xr W e m := by
  obtain ⟨t, p, q⟩ := h
  exact ⟨t, p.pt, q⟩
theorem hop_truB {K : PySem.W.Frag} {E : XK} {w : Wd} {Q : Bool → Hp → Prop} {S : Store} {m : M R} {P : V → Hp → Prop} (h : Hop K (fun _ b v => b = v) E w Q (M.bind m truB S)) (hp : ∀ b (w' : Wd), Q b w'.H → P (.bl b) w'.H) : Hop K (Rel K) E w P (m S) := by
  refine h.bind fun w1 r v S1 e1 s1 rr h1 => ?_
  unfold truB at h1
  cases r with
  | own k => exact h1.elim
  | exc c ns l => exact h1.elim
  | dat d =>
    cases d with
    | bl b =>
      have e : v = .bl b := rr
      subst e
      exact hp b w1 (h1 w1 b (Ext.refl _) s1 rfl)
    | _ => exact h1.elim
theorem truB_bl (b : Bool) : M.bind (M.pure (.dat (.bl b))) truB = M.pure b := rfl
section
variable {X : Cx} {xr : XR} {W : WX} {a b c e o : Expr} {es rest : List Expr} {ma mb mc : MP.Env → M R} {mt : MP.Env → M Bool} {ms : MP.Env → M (List R)} {pos p p0 p1 p2 : Pos}
/-! ### and, or -/
theorem w_one {op : BoolOp} (ha : TOk X xr W a mt) : WOk X xr W (.BoolOp op [a] pos) mt := by
  obtain ⟨t, pt, q⟩ := ha
  cases op with
  | And => exact ⟨t, pw_and1 pt, q⟩
  | Or => exact ⟨t, pw_or1 pt, q⟩
theorem w_and (hx : xr.Ok) (ha : TOk X xr W a mt) (hb : WOk X xr W (.BoolOp .And (b :: rest) pos) (fun ρ => M.bind (mb ρ) truB)) :
    WOk X xr W (.BoolOp .And (a :: b :: rest) pos) (fun ρ => M.bind (M.bind (mt ρ) fun t => if t = true then mb ρ else M.pure (.dat (.bl false))) truB) := by
  obtain ⟨t, pa, qa⟩ := ha
  obtain ⟨u, pb, qb⟩ := hb
  refine ⟨_, pw_and pa pb, fun σ w S ρ Q er sr h => ?_⟩
  dsimp only at h
  rw [bind_assoc] at h
  refine qa σ w S ρ _ er sr (h.bind fun w1 d v S1 e1 s1 rd h1 => ?_)
  have e : d = v := rd
  subst e
  cases d with
  | true => exact qb σ w1 S1 ρ Q (er.ext hx e1) s1 h1
  | false => exact h1 w1 false (Ext.refl _) s1 rfl
theorem w_or (hx : xr.Ok) (ha : TOk X xr W a mt) (hb : WOk X xr W (.BoolOp .Or (b :: rest) pos) (fun ρ => M.bind (mb ρ) truB)) :
    WOk X xr W (.BoolOp .Or (a :: b :: rest) pos) (fun ρ => M.bind (M.bind (mt ρ) fun t => if t = true then M.pure (.dat (.bl true)) else mb ρ) truB) := by
  obtain ⟨t, pa, qa⟩ := ha
  obtain ⟨u, pb, qb⟩ := hb
  refine ⟨_, pw_or pa pb, fun σ w S ρ Q er sr h => ?_⟩
  dsimp only at h
  rw [bind_assoc] at h
  refine qa σ w S ρ _ er sr (h.bind fun w1 d v S1 e1 s1 rd h1 => ?_)
  have e : d = v := rd
  subst e
  cases d with
  | true => exact h1 w1 true (Ext.refl _) s1 rfl
  | false => exact qb σ w1 S1 ρ Q (er.ext hx e1) s1 h1
/-- as values -/
theorem e_one {op : BoolOp} (ha : EOk X xr W a ma) : EOk X xr W (.BoolOp op [a] pos) ma := by
  obtain ⟨t, pt, q⟩ := ha
  exact ⟨t, pe_one pt, q⟩
theorem e_and (hx : xr.Ok) (ha : EOk X xr W a ma) (hb : EOk X xr W (.BoolOp .And (b :: rest) pos) mb) :
    EOk X xr W (.BoolOp .And (a :: b :: rest) pos) (fun ρ => M.bind (M.bind (ma ρ) truB) fun t => if t = true then mb ρ else M.pure (.dat (.bl false))) := by
  obtain ⟨t, pa, qa⟩ := ha
  obtain ⟨u, pb, qb⟩ := hb
  refine ⟨_, pe_and pa pb, fun σ w S ρ Q er sr h => ?_⟩
  refine qa σ w S ρ _ er sr (hop_truB (Q := fun d H => if d = true then u σ H Q else Q (.bl false) H) (h.bind fun w1 d v S1 e1 s1 rd h1 => ?_) fun d w1 q => ⟨d, rfl, q⟩)
  have e : d = v := rd
  subst e
  cases d with
  | true => exact qb σ w1 S1 ρ Q (er.ext hx e1) s1 h1
  | false => exact h1 w1 _ (Ext.refl _) s1 rfl
theorem e_or (hx : xr.Ok) (ha : EOk X xr W a ma) (hb : EOk X xr W (.BoolOp .Or (b :: rest) pos) mb) :
    EOk X xr W (.BoolOp .Or (a :: b :: rest) pos) (fun ρ => M.bind (M.bind (ma ρ) truB) fun t => if t = true then M.pure (.dat (.bl true)) else mb ρ) := by
  obtain ⟨t, pa, qa⟩ := ha
  obtain ⟨u, pb, qb⟩ := hb
  refine ⟨_, pe_or pa pb, fun σ w S ρ Q er sr h => ?_⟩
  refine qa σ w S ρ _ er sr (hop_truB (Q := fun d H => if d = true then Q (.bl true) H else u σ H Q) (h.bind fun w1 d v S1 e1 s1 rd h1 => ?_) fun d w1 q => ⟨d, rfl, q⟩)
  have e : d = v := rd
  subst e
  cases d with
  | true => exact h1 w1 _ (Ext.refl _) s1 rfl
  | false => exact qb σ w1 S1 ρ Q (er.ext hx e1) s1 h1
theorem e_not (ha : EOk X xr W a ma) : EOk X xr W (.UnaryOp .Not a pos) (fun ρ => M.bind (M.bind (ma ρ) truB) fun t => M.pure (.dat (.bl (!t)))) := by
  obtain ⟨t, pa, qa⟩ := ha
  refine ⟨_, pe_not pa, fun σ w S ρ Q er sr h => ?_⟩
  refine qa σ w S ρ _ er sr (hop_truB (Q := fun d H => Q (.bl (!d)) H) (h.bind fun w1 d v S1 e1 s1 rd h1 => ?_) fun d w1 q => ⟨d, rfl, q⟩)
  have e : d = v := rd
  subst e
  exact h1 w1 _ (Ext.refl _) s1 rfl
theorem e_ifx (hx : xr.Ok) (hc : TOk X xr W c mt) (ha : EOk X xr W a ma) (hb : EOk X xr W b mb) : EOk X xr W (.IfExp c a b pos) (fun ρ => M.bind (mt ρ) fun t => if t = true then ma ρ else mb ρ) := by
  obtain ⟨t, pc, qc⟩ := hc
  obtain ⟨ta, pa, qa⟩ := ha
  obtain ⟨tb, pb, qb⟩ := hb
  refine ⟨_, pe_ifExp pc pa pb, fun σ w S ρ Q er sr h => qc σ w S ρ _ er sr (h.bind fun w1 d v S1 e1 s1 rd h1 => ?_)⟩
  have e : d = v := rd
  subst e
  cases d with
  | true => exact qa σ w1 S1 ρ Q (er.ext hx e1) s1 h1
  | false => exact qb σ w1 S1 ρ Q (er.ext hx e1) s1 h1
theorem t_isN {n : Bool} {k : Nat} (ha : EOk X xr W a ma) : TOk X xr W (.Compare a [if n then .IsNot else .Is] [.Constant .none k p1] pos) (fun ρ => M.bind (M.bind (ma ρ) fun x => match x with
    | .dat .non => M.pure (.dat (.bl (!n)))
    | .dat _ => M.pure (.dat (.bl n))
    | _ => M.stuck) truB) := by
  obtain ⟨ta, pa, qa⟩ := ha
  have key : ∀ (x : R) (v : V) (w : Wd) (S : Store) (E : XK) (Q : Bool → Hp → Prop), SR X.K w S → Rel X.K w x v → Hop X.K (fun _ b v => b = v) E w Q (M.bind (match x with
    | .dat .non => M.pure (.dat (.bl (!n)))
    | .dat _ => M.pure (.dat (.bl n))
    | _ => M.stuck : M R) truB S) → Q (if n then !decide (v = .non) else decide (v = .non)) w.H := by
    intro x v w S E Q s r h
    cases x with
    | own k => exact h.elim
    | exc c ns l => exact h.elim
    | dat d =>
      have nn : ∀ {u : V}, d ≠ .non → v = u → u ≠ .non → Q (if n then !decide (v = .non) else decide (v = .non)) w.H := by
        intro u hd e hu
        subst e
        have q : Q n w.H := by cases d <;> first | exact (hd rfl).elim | exact h w n (Ext.refl _) s rfl
        rw [decide_eq_false hu]
        cases n <;> exact q
      cases d with
      | non =>
        have e : v = .non := r
        subst e
        have q : Q (!n) w.H := h w (!n) (Ext.refl _) s rfl
        cases n <;> exact q
      | bl b => exact nn (fun z => nomatch z) (show v = .bl b from r) (fun z => nomatch z)
      | int b => exact nn (fun z => nomatch z) (show v = .int b from r) (fun z => nomatch z)
      | str b => exact nn (fun z => nomatch z) (show v = .str b from r) (fun z => nomatch z)
      | tup l => obtain ⟨p, vs, e, _⟩ := r; exact nn (fun z => nomatch z) e (fun z => nomatch z)
      | lst l => obtain ⟨p, vs, e, _⟩ := r; exact nn (fun z => nomatch z) e (fun z => nomatch z)
      | slst l => obtain ⟨p, vs, e, _⟩ := r; exact nn (fun z => nomatch z) e (fun z => nomatch z)
      | obj c ns l => obtain ⟨p, dx, fs, e, _⟩ := r; exact nn (fun z => nomatch z) e (fun z => nomatch z)
  cases n with
  | false =>
    refine ⟨_, pt_cmp (pc_isN pa), fun σ w S ρ Q er sr h => ?_⟩
    dsimp only at h
    rw [bind_assoc] at h
    exact qa σ w S ρ _ er sr (h.bind fun w1 x v S1 e1 s1 rx h1 => ⟨_, rfl, key x v w1 S1 _ Q s1 rx h1⟩)
  | true =>
    refine ⟨_, pt_cmp (pc_notN pa), fun σ w S ρ Q er sr h => ?_⟩
    dsimp only at h
    rw [bind_assoc] at h
    exact qa σ w S ρ _ er sr (h.bind fun w1 x v S1 e1 s1 rx h1 => ⟨_, rfl, key x v w1 S1 _ Q s1 rx h1⟩)
/-! ### isinstance of a built-in type -/
theorem ty_at {K : PySem.W.Frag} {w : Wd} {S : Store} {x : R} {u : V} {t : BTy} (s : SR K w S) (r : Rel K w x u) (h : tyR S x = some t) : TyX K w.H u (.type t.nm) := by
  cases x with
  | exc c ns l => cases h
  | own k =>
    obtain ⟨hk, e1⟩ := r
    obtain ⟨c, hc, hr⟩ := s.get hk
    subst e1
    unfold tyR at h
    cases c with
    | obj c ns rs => simp only [hc] at h; cases h
    | lst rs =>
      simp only [hc] at h
      cases h
      obtain ⟨vs, h1, _⟩ := hr
      exact .base (.lst h1)
    | tup rs =>
      simp only [hc] at h
      cases h
      obtain ⟨vs, h1, _⟩ := hr
      exact .base (.tup h1)
  | dat d =>
    cases d with
    | non => cases h
    | slst l => cases h
    | obj c ns l => cases h
    | bl b => cases h; cases (show u = .bl b from r); exact .base (.bl b)
    | int b => cases h; cases (show u = .int b from r); exact .base (.int b)
    | str b => cases h; cases (show u = .str b from r); exact .base (.str b)
    | tup l => cases h; obtain ⟨a, vs, e, _, h1, _⟩ := r; subst e; exact .base (.tup h1)
    | lst l => cases h; obtain ⟨a, vs, e, _, h1, _⟩ := r; subst e; exact .base (.lst h1)
theorem isTy_ok {K : PySem.W.Frag} : ∀ t T : BTy, PySem.W.kitOne K (.type t.nm) (.type T.nm) = some (isTy t T) := by
  intro t T
  cases t <;> cases T <;> exact kit_ty (by decide +kernel)
theorem e_isT (T : BTy) (hg : Gl X "isinstance") (hm : X.mg "isinstance" = none) (hgT : Gl X T.x) (hmT : X.mg T.x = none)
    (he : starEach [a, .Name T.x p1] X.env = (false, eval a X.env) :: starEach [.Name T.x p1] X.env) (he2 : starEach [.Name T.x p1] X.env = (false, eval (.Name T.x p1) X.env) :: starEach [] X.env)
    (hpl : (backTo pos (starEach [.Name T.x p1] X.env)).any (·.1) = false) (ha : EOk X xr W a ma) : EOk X xr W (.Call (.Name "isinstance" p0) [a, .Name T.x p1] [] pos) (fun ρ => M.bind (ma ρ) fun x => isTR x T) := by
  obtain ⟨ta, pa, qa⟩ := ha
  have pT : PE X (.Name T.x p1) (tC (.ty T.nm)) := by
    cases T <;> exact pe_bltn hgT hmT (by first | rfl | decide +kernel) rfl (by decide) (by decide)
  refine ⟨_, pe_callB call_isi hg hm (by first | rfl | decide +kernel) (pa_cons pa (pa_cons pT pa_nil he2) he) (by decide) (by decide) he hpl, fun σ w S ρ Q er sr h => qa σ w S ρ _ er sr (h.bind fun w1 x u S1 e1 s1 rx h1 => ?_)⟩
  unfold isTR at h1
  cases e : tyR S1 x with
  | none => simp only [e] at h1; exact h1.elim
  | some t =>
    simp only [e] at h1
    exact ⟨u, .ty T.nm, _, _, _, rfl, .ty T.nm, ty_at s1 rx e, isTy_ok t T, hop_ok h1 s1 rfl⟩
/-! ### calls -/
variable {CX : CXT} {k : Nat} {f C : Addr} {fd : FuncData} {ps ks : List Str} {sp : Sp} {x : Str} {kws : List Keyword}
/-- what a call asks of the promise -/
def SpOk (K : PySem.W.Frag) (sp : Sp) (g : List R → M R) : Prop := ∀ (w : Wd) (S : Store) (rs : List R) (vs : List V) (Q : VK) (E : XK), SR K w S → Rels K w rs vs → Hop K (Rel K) E w Q (g rs S) → sp vs w.H Q E
theorem e_call {g : List R → M R} (hx : xr.Ok) (F : FnOk X.prog X.w X.K X.mg X.base (L2N.CX X.prog X.w) k f fd ps sp) (hs : SpOk X.K sp g) (hr : Room k X.A) (hg : Gl X x) (hm : X.mg x = some (.ref f)) (hk : PySem.W.keepIn X.K (.ref f) = true) (hb : Binds X.K fd ps [])
    (tk : L2N.Takes X W) (hdb : (x == ("__debug__" : Str)) = false) (he : starEach (a :: es) X.env = (false, eval a X.env) :: starEach es X.env) (hpl : (backTo pos (starEach es X.env)).any (·.1) = false) (ha : EOk X xr W a ma) (hes : AOk X xr W es ms) :
    EOk X xr W (.Call (.Name x p0) (a :: es) [] pos) (fun ρ => M.bind (ma ρ) fun x => M.bind (ms ρ) fun xs => g (x :: xs)) := by
  obtain ⟨ta, pa, qa⟩ := ha
  obtain ⟨ts, pss, qs⟩ := hes
  refine ⟨_, pe_callS (E := WE W) F hr hg hm hk hb (fun σ => L2N.passAt tk σ) (pa_cons pa pss he) hdb he hpl, fun σ w S ρ Q er sr h => qa σ w S ρ _ er sr (h.bind fun w1 x u S1 e1 s1 rx h1 => qs σ w1 S1 ρ _ (er.ext hx e1) s1 (h1.bind fun w2 xs us S2 e2 s2 rs h2 => ?_))⟩
  exact hs w2 S2 (x :: xs) (u :: us) Q _ s2 ⟨u, us, rfl, rx.ext e2, rs⟩ h2
theorem e_callH {g : List R → M R} (hx : xr.Ok) (F : L2H.FnH X.prog X.w X.K X.mg X.base (L2N.CX X.prog X.w) k f fd ps sp) (hs : SpOk X.K sp g) (hr : L2H.RoomH k X.A) (hc : L2H.HotC X) (hg : Gl X x) (hm : X.mg x = some (.ref f)) (hk : PySem.W.keepIn X.K (.ref f) = true) (hb : Binds X.K fd ps [])
    (tk : L2N.Takes X W) (hdb : (x == ("__debug__" : Str)) = false) (he : starEach (a :: es) X.env = (false, eval a X.env) :: starEach es X.env) (hpl : (backTo pos (starEach es X.env)).any (·.1) = false) (ha : EOk X xr W a ma) (hes : AOk X xr W es ms) :
    EOk X xr W (.Call (.Name x p0) (a :: es) [] pos) (fun ρ => M.bind (ma ρ) fun x => M.bind (ms ρ) fun xs => g (x :: xs)) := by
  obtain ⟨ta, pa, qa⟩ := ha
  obtain ⟨ts, pss, qs⟩ := hes
  refine ⟨_, L2H.pe_callH (E := WE W) F hr hc hg hm hk hb (fun σ => L2N.passAt tk σ) (pa_cons pa pss he) hdb he hpl, fun σ w S ρ Q er sr h => qa σ w S ρ _ er sr (h.bind fun w1 x u S1 e1 s1 rx h1 => qs σ w1 S1 ρ _ (er.ext hx e1) s1 (h1.bind fun w2 xs us S2 e2 s2 rs h2 => ?_))⟩
  exact hs w2 S2 (x :: xs) (u :: us) Q _ s2 ⟨u, us, rfl, rx.ext e2, rs⟩ h2
end
end MP
set_option Elab.async false
set_option linter.all false
set_option maxRecDepth 100000
set_option maxHeartbeats 4000000
/-! MPCall3: the caught exception: isinstance, fields (it may have a dict). -/
namespace MP
open PySem PySem.Spec PySem.Calls PyProof.Rows PySem.W
section
variable {prog : Program} {w : World} {A : Around} {E : Value → Shared → Prop} {s : Shared} {K : Frag} {x D : Addr} {ox : Obj} {od : Option Obj}
theorem found_class {C : Addr} {name : Str} {a g : Value} (hc : (clsIn K C).isSome = true) (ha : findIn K (.ref C) name = some (some a)) (hg : specialIn K a "__get__" = some (some g)) (ht : takesIn K a = some true) : findObj K C od name = some (.bind g a) := by
  obtain ⟨cd, hc⟩ := Option.isSome_iff_exists.mp hc
  unfold findObj
  rw [hc, Option.bind_some, ha, Option.bind_some]
  simp [hg, ht]
/-- its class, asked for by name -/
theorem exc_class {Q : Option Value → Shared → Prop} (Z : L2.ExcC K D) (X : K.In s.heap) (I : InstAt s.heap x ox D od) (h : Q (some (.ref D)) { s with toks := s.toks + 1 }) : wpAny (model prog w) A (getAttr? (.ref x) "__class__") Q E s := by
  have hf : findObj K D od "__class__" = some (.bind (.builtin "getset_descriptor.__get__") (.builtin "object.__class__")) := found_class (by obtain ⟨cd, hc, _⟩ := any_some Z.hd; rw [hc]; rfl) Z.ha Z.hn Z.ht
  obtain ⟨hp, g, d, t, os⟩ := s
  have L0 := I.type (M := model prog w)
  have L1 := looks_findIn (M := model prog w) X Z.hg
  have L2 := looks_findIn (M := model prog w) X Z.hk
  have L3 := looks_find (M := model prog w) X I hf
  have sub : Looks (model prog w) hp (isInstance (.ref x) (.type "BaseException")) true := L0.andThen (looks_subIn X Z.hs)
  have n0 : (false && onTheHeap (Value.builtin "BaseException.__getattribute__")) = false := rfl
  have n2 : (Value.builtin "BaseException.__getattribute__" == Value.builtin "object.__getattribute__") = false := by decide +kernel
  have n1 : (onTheHeap (Value.ref D) && Value.builtin "BaseException.__getattribute__" == Value.builtin "object.__getattribute__") = false := by rw [n2]; rfl
  unfold getAttr? getAttrBy? getAttrBy
  refine wpAny_bind (wpAny_mkText (wpAny_bind (wpAny_attempt (wpAny_holding (wpAny_bind (L0.at (wpAny_bind (L1.at ?_))))))))
  show wpAny _ _ (if (onTheHeap (Value.ref D) && Value.builtin "BaseException.__getattribute__" == Value.builtin "object.__getattribute__") = true then _ else _) _ _ _
  rw [n1, if_neg Bool.false_ne_true]
  unfold getAttrByItsOwn hookBefore
  refine wpAny_bind ?_
  rw [if_pos (show onTheHeap (Value.ref D) = true from rfl)]
  refine L2.at ?_
  refine wpAny_bind (wpAny_attempt (wpAny_holding ?_))
  unfold callGetattribute
  rw [n0, if_neg Bool.false_ne_true]
  unfold boundAndCalled
  rw [PySem.F.excAttr_ValueError.ga.bind (.ref x)]
  refine wpAny_bind (wpAny_pure ?_)
  show wpAny _ _ (call (.builtin "BaseException.__getattribute__") [.ref x, .str "__class__" t]) _ _ _
  refine wpAny_call (codeAny_call_builtin PySem.F.excAttr_ValueError.ga.plain PySem.F.entry_bexc_ga ?_)
  refine @check_slot (model prog w) _ _ ⟨hp, g, d, t + 1, os⟩ "BaseException.__getattribute__" "BaseException" "__getattribute__" (.ref x) [.str "__class__" t] [] _ (by decide +kernel) (by decide +kernel) sub (PySem.F.args_bexc_ga (.ref x) (.str "__class__" t)) ?_
  unfold Builtin.«object.__getattribute__»
  refine wpAny_bind (wpAny_of_eq (a := ((Value.ref x : Value), [Value.str "__class__" t])) (by first | rfl | (simp only [slotArgs]; rfl)) ?_)
  refine wpAny_bind (wpAny_pure (wpAny_bind (L0.at (wpAny_bind (L3.at ?_)))))
  show wpAny _ _ (holding [Value.builtin "object.__class__"] (call (.builtin "getset_descriptor.__get__") [.builtin "object.__class__", .ref x, .ref D]) >>= ret) _ _ _
  refine wpAny_bind (wpAny_holding (wpAny_call (class_get (s := ⟨hp, g, d, t + 1, os⟩) (ox := ox) (od := od) X I Z.hm ?_)))
  refine wpAny_pure ?_
  show wpAny _ _ (handedOut (.ref D)) _ _ _
  rw [handedOut_of (v := .ref D) rfl]
  first
    | exact wpAny_pure (wpAny_pure h)
    | exact wpAny_pure h
    | exact wpAny_pure (wpAny_bind (wpAny_pure (wpAny_pure h)))
theorem kitx_excD (Z : L2.ExcC K D) : KitX K (.ref x) (.ref D) (fun h => ∃ od, InstAt h x ox D od) where
  ty := fun _ _ _ ⟨_, I⟩ => I.type
  it := fun _ _ X _ => by
    obtain ⟨cdD, hcD, _⟩ := any_some Z.hd
    unfold clsIn at hcD
    split at hcD
    · rename_i c' d' cd' sl' ho
      intro A' Q' E' s' k q
      unfold isType loadHead
      exact wpAny_bind (wpAny_loadPart (k _ _ (X _ _ ho)) (wpAny_pure q))
    · cases hcD
  ne := fun h tp dd its n sl X htp => by
    obtain ⟨cdD, hcD, _⟩ := any_some Z.hd
    refine Bool.eq_false_iff.mpr fun q => ?_
    have e : D = tp := Value.ref.inj (beq_iff_eq.mp q)
    subst e
    unfold clsIn at hcD
    split at hcD
    · rename_i c' d' cd' sl' ho
      have z := (X _ _ ho).symm.trans htp
      cases z
    · cases hcD
  ca := fun X ⟨_, I⟩ k => exc_class Z X I k
end
end MP
namespace MP
open PySem PySem.Spec PyProof.Rows L2
/-- the exception that is held: x names it -/
def XAt (X : Cx) (xr : XR) : Prop := ∀ w c ns l v, xr w c ns l v → ∃ (a : Addr) (oe : Obj) (d : Option Addr) (X0 : Cx) (pn : List (Addr × Obj)), X = X0.suite a ((a, oe) :: pn) ∧ v = .ref a ∧ Zc (.ref (He.ga X.K c)) d oe ∧ (∃ vs, oe.data = .fields vs) ∧ ExcD X.K w ns l d
def tXIs (K : PySem.W.Frag) (i : Nat) (cv : Value) (D a : Addr) (d : Option Addr) : TE := fun σ H Q => σ[i]? = some (some (.ref a)) ∧ (d = none ∨ ∃ dd fs, d = some dd ∧ H dd = some (.xd fs)) ∧ ∃ b, PySem.W.kitOne K (.ref D) cv = some b ∧ Q (.bl b) H
theorem call_isD {X : Cx} {a D : Addr} {oe : Obj} {d : Option Addr} {pn : List (Addr × Obj)} (C : ExcC X.K D) (hz : Zc (.ref D) d oe) (hf : ∃ vs, oe.data = .fields vs) :
    CallR (X.suite a ((a, oe) :: pn)) (.builtin "isinstance") (fun xs H Q => ∃ (c : V) (cv : Value) (b : Bool), xs = [.ref a, c] ∧ (d = none ∨ ∃ dd fs, d = some dd ∧ H dd = some (.xd fs)) ∧ (∀ u, RelV c u → u = cv) ∧ PySem.W.kitOne X.K (.ref D) cv = some b ∧ Q (.bl b) H) := by
  intro pins s σ H xs us Q I r h
  obtain ⟨c, cv, b, rfl, hd, hcv, e, q⟩ := h
  obtain ⟨u1, u2, rfl, r1, r2⟩ := vals2 r
  cases (show u1 = Value.ref a from r1)
  have ec := hcv _ r2
  subst ec
  obtain ⟨hget, _⟩ := I.pin (a, oe) (List.mem_append.mpr (.inl List.mem_cons_self))
  obtain ⟨vs, hv⟩ := hf
  have J : ∃ od, PySem.W.InstAt s.heap a oe D od := by
    rcases hd with hd | ⟨dd, fs, hd, hx⟩
    · subst hd
      obtain ⟨oc, od, oda, osl⟩ := oe
      obtain ⟨h1, h2⟩ := hz
      dsimp only at h1 h2 hv
      subst h1 h2 hv
      exact ⟨none, hget, rfl, rfl, trivial⟩
    · subst hd
      have hx' : ObjOk X.prog X.w H s.heap dd (.xd fs) := I.hok dd _ hx
      obtain ⟨mA, hns, _⟩ := hx'
      obtain ⟨od, ho, _⟩ := lookIn_ns hns
      exact ⟨some od, hget, hz.1, by unfold PySem.W.notCls; rw [hv] <;> rfl, by rw [hz.2]; exact ho⟩
  exact PySem.W.kia_one (kitx_excD C) I.kIn J e (fun z => nomatch z) fun tk => ⟨.bl b, H, I.kept (t' := tk) fun _ _ z => z, rfl, q⟩
section
variable {X : Cx} {xr : XR} {W : WX} {pos p p0 p1 : Pos}
/-- isinstance(e, c): e the exception that is held; cs: what is known of the classes -/
theorem x_is {C : Calls} {i : Nat} {x c : Str} (hX : XAt X xr) (hN : X.N[i]? = some x) (hv : Vis X.env.scope x) (hd : (x == ("__debug__" : Str)) = false) (hcd : (x == ("__classdict__" : Str)) = false)
    (hg : Gl X "isinstance") (hm : X.mg "isinstance" = none) (hgc : Gl X c) (hmc : X.mg c = some (.ref (He.ga X.K c))) (hdc : (c == ("__debug__" : Str)) = false)
    (hsub : ∀ c' b, C.sub c' c = some b → ExcC X.K (He.ga X.K c') ∧ PySem.W.kitOne X.K (.ref (He.ga X.K c')) (.ref (He.ga X.K c)) = some b)
    (he : starEach [.Name x p, .Name c p1] X.env = (false, eval (.Name x p) X.env) :: starEach [.Name c p1] X.env) (he2 : starEach [.Name c p1] X.env = (false, eval (.Name c p1) X.env) :: starEach [] X.env)
    (hpl : (backTo pos (starEach [.Name c p1] X.env)).any (·.1) = false) : EOk X xr W (.Call (.Name "isinstance" p0) [.Name x p, .Name c p1] [] pos) (fun ρ => xIsR C ρ i c) := by
  by_cases hz : ∃ w ns c' l v b, xr w c' ns l v ∧ C.sub c' c = some b
  · obtain ⟨w0, ns0, c0, l0, v0, b0, hx0, hb0⟩ := hz
    obtain ⟨a, oe, d, X0, pn, rfl, ev, zc, hf, _⟩ := hX _ _ _ _ _ hx0
    have pT : PE (X0.suite a ((a, oe) :: pn)) (.Name c p1) (tC (.ref (He.ga X0.K c))) := pe_glob hgc hmc rfl hdc
    refine ⟨_, pe_callB (call_isD (hsub c0 b0 hb0).1 zc hf) hg hm (by first | rfl | decide +kernel) (pa_cons (pe_var hN hv hd hcd) (pa_cons pT pa_nil he2) he) (by decide) (by decide) he hpl, fun σ w S ρ Q er sr h => ?_⟩
    unfold xIsR at h
    cases e : ρ[i]? with
    | none => simp only [e] at h; exact h.elim
    | some o =>
      cases o with
      | none => simp only [e] at h; exact h.elim
      | some r =>
        cases r with
        | dat dd => simp only [e] at h; exact h.elim
        | own k => simp only [e] at h; exact h.elim
        | exc c' ns l =>
          simp only [e] at h
          cases e2 : C.sub c' c with
          | none => simp only [e2] at h; exact h.elim
          | some b =>
            simp only [e2] at h
            obtain ⟨v, h1, h2⟩ := er.get i _ e
            obtain ⟨a', oe', d', X0', pn', eX, ev', zc', hf', hD'⟩ := hX _ _ _ _ _ h2
            have e3 : (a, oe) = (a', oe') := by
              have q := congrArg Cx.pn eX
              exact (List.cons.inj q).1
            cases e3
            have ed : d = d' := zc.2.symm.trans zc'.2
            subst ed
            have ec : He.ga X0.K c0 = He.ga X0.K c' := by
              have q := zc.1.symm.trans zc'.1
              exact Value.ref.inj q
            refine ⟨.ref a, by rw [h1, ev'], .ref (He.ga X0.K c), .ref (He.ga X0.K c), b, rfl, hD'.dict, fun u q => q, ?_, ?_⟩
            · rw [ec]
              exact (hsub c' b e2).2
            · exact hop_pure h sr rfl
  · refine ⟨fun _ _ _ => False, ⟨fun _ _ _ _ _ _ (z : False) => z.elim⟩, fun σ w S ρ Q er sr h => hz ?_⟩
    · unfold xIsR at h
      cases e : ρ[i]? with
      | none => simp only [e] at h; exact h.elim
      | some o =>
        cases o with
        | none => simp only [e] at h; exact h.elim
        | some r =>
          cases r with
          | dat dd => simp only [e] at h; exact h.elim
          | own k => simp only [e] at h; exact h.elim
          | exc c' ns l =>
            simp only [e] at h
            cases e2 : C.sub c' c with
            | none => simp only [e2] at h; exact h.elim
            | some b =>
              obtain ⟨v, h1, h2⟩ := er.get i _ e
              exact ⟨w, ns, c', l, v, b, h2, e2⟩
/-- e.f -/
theorem x_at {C : Calls} {i : Nat} {x f : Str} (hX : XAt X xr) (hN : X.N[i]? = some x) (hv : Vis X.env.scope x) (hd : (x == ("__debug__" : Str)) = false) (hcd : (x == ("__classdict__" : Str)) = false)
    (hf : ∀ c, C.xf c f = true → XfC X.K (He.ga X.K c) ∧ PySem.W.findIn X.K (.ref (He.ga X.K c)) f = some none)
    (hb : attributeBase (.Name x p) f X.env (eval (.Name x p) X.env) = eval (.Name x p) X.env) : EOk X xr W (.Attribute (.Name x p) f pos) (fun ρ => xAtR C ρ i f) := by
  by_cases hz : ∃ w ns c' l v, xr w c' ns l v ∧ C.xf c' f = true
  · obtain ⟨w0, ns0, c0, l0, v0, hx0, hy0⟩ := hz
    obtain ⟨a, oe, d, X0, pn, rfl, ev, zc, hfl, _⟩ := hX _ _ _ _ _ hx0
    have q := hf _ hy0
    refine ⟨_, pe_xf q.1 q.2 zc hfl (pe_var hN hv hd hcd) hb, fun σ w S ρ Q er sr h => ?_⟩
    unfold xAtR at h
    cases e : ρ[i]? with
    | none => simp only [e] at h; exact h.elim
    | some o =>
      cases o with
      | none => simp only [e] at h; exact h.elim
      | some r =>
        cases r with
        | dat dd => simp only [e] at h; exact h.elim
        | own k => simp only [e] at h; exact h.elim
        | exc c' ns l =>
          simp only [e] at h
          by_cases e9 : C.xf c' f = true
          case neg => rw [if_neg e9] at h; exact h.elim
          rw [if_pos e9] at h
          cases e2 : lookA f ns l with
          | none => simp only [e2] at h; exact h.elim
          | some y =>
            simp only [e2] at h
            obtain ⟨v, h1, h2⟩ := er.get i _ e
            obtain ⟨a', oe', d', X0', pn', eX, ev', zc', hf', hD'⟩ := hX _ _ _ _ _ h2
            have e3 : (a, oe) = (a', oe') := by
              have q := congrArg Cx.pn eX
              exact (List.cons.inj q).1
            cases e3
            have ed : d = d' := zc.2.symm.trans zc'.2
            subst ed
            obtain ⟨dd, fs, e4, nl, e5, e6⟩ := hD'.resolve_left fun z => by
              have z1 := z.1
              subst z1
              cases l <;> cases e2
            obtain ⟨u, e7, e8⟩ := e6 f y e2
            exact ⟨.ref a, by rw [h1, ev'], rfl, rfl, dd, fs, u, e4, e5, e7, hop_pure (rel := Rel (X0.suite a ((a, oe) :: pn)).K) h sr e8⟩
  · refine ⟨fun _ _ _ => False, ⟨fun _ _ _ _ _ _ (z : False) => z.elim⟩, fun σ w S ρ Q er sr h => hz ?_⟩
    · unfold xAtR at h
      cases e : ρ[i]? with
      | none => simp only [e] at h; exact h.elim
      | some o =>
        cases o with
        | none => simp only [e] at h; exact h.elim
        | some r =>
          cases r with
          | dat dd => simp only [e] at h; exact h.elim
          | own k => simp only [e] at h; exact h.elim
          | exc c' ns l =>
            simp only [e] at h
            by_cases e9 : C.xf c' f = true
            · obtain ⟨v, h1, h2⟩ := er.get i _ e
              exact ⟨w, ns, c', l, v, h2, e9⟩
            · rw [if_neg e9] at h
              exact h.elim
end
end MP
set_option Elab.async false
set_option linter.all false
set_option maxRecDepth 100000
set_option maxHeartbeats 4000000
/-! MPCall4: calls with keywords; new instances. -/
namespace MP
open PySem PySem.Spec PyProof.Rows L2
theorem pick_rel {K : PySem.W.Frag} {w : Wd} {rs : List R} {vs : List V} (h : Rels K w rs vs) : ∀ {pm : List Nat} {qs : List R}, pick pm rs = some qs → ∃ us, (pm.mapM fun i => vs[i]?) = some us ∧ Rels K w qs us
  | [], qs, e => by
    cases (show some [] = some qs from e)
    exact ⟨[], rfl, rfl⟩
  | i :: pm, qs, e => by
    unfold pick at e
    rw [List.mapM_cons] at e
    cases e1 : rs[i]? with
    | none => rw [e1] at e; cases e
    | some r =>
      rw [e1] at e
      cases e2 : pm.mapM (fun i => rs[i]?) with
      | none => rw [e2] at e; cases e
      | some q2 =>
        rw [e2] at e
        cases (show some (r :: q2) = some qs from e)
        obtain ⟨v, h1, h2⟩ := h.get e1
        obtain ⟨us, h3, h4⟩ := pick_rel h (pm := pm) (qs := q2) e2
        refine ⟨v :: us, ?_, v, us, rfl, h2, h4⟩
        rw [List.mapM_cons, h1, h3]
        rfl
theorem pick_val {vs : List V} {us : List Value} (h : Vals vs us) : ∀ {pm : List Nat} {zs : List V}, (pm.mapM fun i => vs[i]?) = some zs → ∃ ws, (pm.mapM fun i => us[i]?) = some ws ∧ Vals zs ws
  | [], zs, e => by
    cases (show some [] = some zs from e)
    exact ⟨[], rfl, .nil⟩
  | i :: pm, zs, e => by
    rw [List.mapM_cons] at e
    cases e1 : vs[i]? with
    | none => rw [e1] at e; cases e
    | some r =>
      rw [e1] at e
      cases e2 : pm.mapM (fun i => vs[i]?) with
      | none => rw [e2] at e; cases e
      | some q2 =>
        rw [e2] at e
        cases (show some (r :: q2) = some zs from e)
        obtain ⟨u, h1, h2⟩ := h.get e1
        obtain ⟨ws, h3, h4⟩ := pick_val h (pm := pm) (zs := q2) e2
        refine ⟨u :: ws, ?_, .cons h2 h4⟩
        rw [List.mapM_cons, h1, h3]
        rfl
/-- how a call with n values and the keywords ks binds: in the order pm -/
def KwB (fd : FuncData) (ps : List Str) (n : Nat) (ks : List Str) (pm : List Nat) : Prop :=
  ∀ us ws zs : List Value, us.length = n → ws.length = ks.length → (pm.mapM fun i => (us ++ ws)[i]?) = some zs → bindArgs fd ⟨us, ks.zip ws⟩ = pure (ps.zip zs)
def KOk (X : Cx) (xr : XR) (W : WX) (kws : List Keyword) (m : MP.Env → M (List R)) : Prop :=
  ∃ t, PK X kws t ∧ ∀ σ w S ρ Q, EnvR X.K xr w σ ρ → SR X.K w S → Hop X.K (Rels X.K) (WE W σ) w Q (m ρ S) → t σ w.H Q
section
variable {X : Cx} {xr : XR} {W : WX} {a b c e o : Expr} {es rest : List Expr} {ma mb mc : MP.Env → M R} {mt : MP.Env → M Bool} {ms mk : MP.Env → M (List R)} {pos p p0 p1 p2 : Pos}
variable {k n : Nat} {f C : Addr} {fd : FuncData} {ps ks : List Str} {sp : Sp} {x : Str} {kws : List Keyword} {nm : Option Str} {pm : List Nat}
theorem k_nil : KOk X xr W [] (fun _ => M.pure []) := ⟨_, pk_nil, fun σ w S ρ Q er sr h => hop_pure h sr rfl⟩
theorem k_cons (hx : xr.Ok) (ha : EOk X xr W e ma) (hr : KOk X xr W kws ms) : KOk X xr W (⟨nm, e, p⟩ :: kws) (fun ρ => M.bind (ma ρ) fun x => M.bind (ms ρ) fun xs => M.pure (x :: xs)) := by
  obtain ⟨ta, pa, qa⟩ := ha
  obtain ⟨ts, pss, qs⟩ := hr
  refine ⟨_, pk_cons pa pss, fun σ w S ρ Q er sr h => qa σ w S ρ _ er sr (h.bind fun w1 x u S1 e1 s1 rx h1 => qs σ w1 S1 ρ _ (er.ext hx e1) s1 (h1.bind fun w2 xs us S2 e2 s2 rs h2 => ?_))⟩
  exact hop_pure (rel := Rels X.K) h2 s2 ⟨u, us, rfl, rx.ext e2, rs⟩
theorem run_kw {pins : List (Addr × Obj)} {σ : St} {H : Hp} {s : Shared} {Q : VK} {us ws : List Value} {vs zs as : List V} {E : XK} (F : FnOk X.prog X.w X.K X.mg X.base (L2N.CX X.prog X.w) k f fd ps sp) (hr : Room k X.A) (hb : KwB fd ps n ks pm)
    (hx : PassesAt (L2N.CX X.prog X.w) X σ E) (I : Inv X pins σ H s) (r : Vals vs us) (rz : Vals zs ws) (l1 : vs.length = n) (l2 : zs.length = ks.length) (e : (pm.mapM fun i => (vs ++ zs)[i]?) = some as) (h : sp as H Q E) :
    wpAny (model X.prog X.w) X.A (call (.ref f) us (ks.zip ws)) (EP X pins σ Q) X.xe s := by
  obtain ⟨bs, e2, r2⟩ := pick_val (r.append rz) e
  have b := hb us ws bs (by rw [← r.length]; exact l1) (by rw [← rz.length]; exact l2) e2
  refine wpAny_call (codeAny_mono (F.run X.A X.stack s H ⟨us, ks.zip ws⟩ bs as Q E hr I.env0 (.of_eq b) r2 h) fun q s' hq => ?_)
  match q, hq with
  | .error e, hq => exact hx pins H s e s' I hq
  | .ok (.ret u), hq => exact I.after hq
  | .ok .next, hq => exact False.elim hq
  | .ok .brk, hq => exact False.elim hq
  | .ok .cont, hq => exact False.elim hq
theorem e_callK {g : List R → M R} (hx : xr.Ok) (F : FnOk X.prog X.w X.K X.mg X.base (L2N.CX X.prog X.w) k f fd ps sp) (hs : SpOk X.K sp g) (hr : Room k X.A) (hg : Gl X x) (hm : X.mg x = some (.ref f)) (hk : PySem.W.keepIn X.K (.ref f) = true) (hb : KwB fd ps n ks pm)
    (tk : L2N.Takes X W) (hdb : (x == ("__debug__" : Str)) = false) (he : starEach (a :: es) X.env = (false, eval a X.env) :: starEach es X.env)
    (hall : (backToKw pos (keywordEach kws X.env)).all (·.1.isSome) = true) (hks : (backToKw pos (keywordEach kws X.env)).filterMap (·.1) = ks)
    (hpl : ((backTo pos (starEach (a :: es) X.env)).any (·.1) || (backToKw pos (keywordEach kws X.env)).any (·.1.isNone)) = false) (ha : EOk X xr W a ma) (hes : AOk X xr W es ms) (hkw : KOk X xr W kws mk)
    (hn : ∀ ρ S xs S', ms ρ S = .ok xs S' → xs.length + 1 = n) (hn2 : ∀ ρ S xs S', mk ρ S = .ok xs S' → xs.length = ks.length) :
    EOk X xr W (.Call (.Name x p0) (a :: es) kws pos) (fun ρ => M.bind (ma ρ) fun x => M.bind (ms ρ) fun xs => M.bind (mk ρ) fun ys => match pick pm (x :: xs ++ ys) with
      | some zs => g zs
      | none => M.stuck) := by
  obtain ⟨ta, pa, qa⟩ := ha
  obtain ⟨ts, pss, qs⟩ := hes
  obtain ⟨tk2, pk, qk⟩ := hkw
  have pas := pa_cons pa pss he
  refine ⟨fun σ H Q => tCons ta ts σ H fun vs H1 => tk2 σ H1 fun zs H2 => vs.length = n ∧ zs.length = ks.length ∧ ∃ as, (pm.mapM fun i => (vs ++ zs)[i]?) = some as ∧ sp as H2 Q (WE W σ), ⟨fun pins s σ H Q I h => ?_⟩, fun σ w S ρ Q er sr h => ?_⟩
  · refine wpAny_Call_Name_kw (ld_glob I hg hm ?_ hdb)
    refine PySem.W.callWith_KW (h₀ := X.base) I.ok.mod.kin hk hall (thn (pas.run pos pins s σ H _ I h) fun us s1 ⟨vs, H1, I1, r, q⟩ => ?_) hpl he
    refine thn (pk.run pos pins s1 σ H1 _ I1 q) fun ws s2 ⟨zs, H2, I2, rz, q1, q2, as, q3, q4⟩ => ⟨I2.kIn, ?_⟩
    rw [hks]
    exact run_kw F hr hb (L2N.passAt tk σ) I2 r rz q1 q2 q3 q4
  · refine qa σ w S ρ _ er sr (h.bind fun w1 x u S1 e1 s1 rx h1 => ?_)
    have h1 : Hop X.K (Rel X.K) (WE W σ) w1 Q (M.bind (ms ρ) (fun xs => M.bind (mk ρ) fun ys => match pick pm (x :: xs ++ ys) with
      | some zs => g zs
      | none => M.stuck) S1) := h1
    refine qs σ w1 S1 ρ _ (er.ext hx e1) s1 ?_
    unfold M.bind at h1
    cases e : ms ρ S1 with
    | stuck => simp only [e] at h1; exact h1.elim
    | exc c ns l S2 => simp only [e] at h1; exact h1
    | ok xs S2 =>
      simp only [e] at h1
      intro w2 us e2 s2 rs
      refine qk σ w2 S2 ρ _ ((er.ext hx e1).ext hx e2) s2 ?_
      cases e5 : mk ρ S2 with
      | stuck => simp only [e5] at h1; exact h1.elim
      | exc c ns l S3 =>
        simp only [e5] at h1
        exact Hop.ext (r2 := Rels X.K) (x := .exc c ns l S3) (Q := fun _ _ => True) e2 h1
      | ok ys S3 =>
        simp only [e5] at h1
        intro w3 zs e3 s3 rz
        have l1 : (u :: us).length = n := by rw [← hn _ _ _ _ e, rs.length]; rfl
        have l2 : zs.length = ks.length := by rw [← rz.length]; exact hn2 _ _ _ _ e5
        refine ⟨l1, l2, ?_⟩
        cases e6 : pick pm (x :: xs ++ ys) with
        | none => rw [e6] at h1; exact h1.elim
        | some qs =>
          rw [e6] at h1
          have rall : Rels X.K w3 (x :: xs ++ ys) (u :: us ++ zs) := Rels.append (show Rels X.K w3 (x :: xs) (u :: us) from ⟨u, us, rfl, rx.ext (e2.trans e3), rs.ext e3⟩) rz
          obtain ⟨as, e7, r7⟩ := pick_rel rall e6
          exact ⟨as, e7, hs w3 S3 qs as Q _ s3 r7 (Hop.ext (e2.trans e3) h1)⟩
theorem e_callKK {g : List R → M R} (hx : xr.Ok) (F : FnOk X.prog X.w X.K X.mg X.base (L2N.CX X.prog X.w) k f fd ps sp) (hs : SpOk X.K sp g) (hr : Room k X.A) (hg : Gl X x) (hm : X.mg x = some (.ref f)) (hk : PySem.W.keepIn X.K (.ref f) = true) (hb : KwB fd ps 0 ks pm)
    (tk : L2N.Takes X W) (hdb : (x == ("__debug__" : Str)) = false)
    (hall : (backToKw pos (keywordEach kws X.env)).all (·.1.isSome) = true) (hks : (backToKw pos (keywordEach kws X.env)).filterMap (·.1) = ks)
    (hpl : ((backTo pos (starEach [] X.env)).any (·.1) || (backToKw pos (keywordEach kws X.env)).any (·.1.isNone)) = false) (hkw : KOk X xr W kws mk)
    (hn2 : ∀ ρ S xs S', mk ρ S = .ok xs S' → xs.length = ks.length) :
    EOk X xr W (.Call (.Name x p0) [] kws pos) (fun ρ => M.bind (mk ρ) fun ys => match pick pm ys with
      | some zs => g zs
      | none => M.stuck) := by
  obtain ⟨tk2, pk, qk⟩ := hkw
  refine ⟨fun σ H Q => tk2 σ H fun zs H2 => zs.length = ks.length ∧ ∃ as, (pm.mapM fun i => (([] : List V) ++ zs)[i]?) = some as ∧ sp as H2 Q (WE W σ), ⟨fun pins s σ H Q I h => ?_⟩, fun σ w S ρ Q er sr h => ?_⟩
  · refine wpAny_Call_Name_kw (ld_glob I hg hm ?_ hdb)
    refine PySem.W.callWith_KW0 (h₀ := X.base) I.ok.mod.kin hk hall ?_ hpl
    refine thn (pk.run pos pins s σ H _ I h) fun ws s2 ⟨zs, H2, I2, rz, q2, as, q3, q4⟩ => ⟨I2.kIn, ?_⟩
    rw [hks]
    exact run_kw (us := []) (vs := []) F hr hb (L2N.passAt tk σ) I2 .nil rz rfl q2 q3 q4
  · refine qk σ w S ρ _ er sr ?_
    dsimp only at h
    unfold M.bind at h
    cases e5 : mk ρ S with
    | stuck => simp only [e5] at h; exact h.elim
    | exc c ns l S3 => simp only [e5] at h; exact h
    | ok ys S3 =>
      simp only [e5] at h
      intro w3 zs e3 s3 rz
      have l2 : zs.length = ks.length := by rw [← rz.length]; exact hn2 _ _ _ _ e5
      refine ⟨l2, ?_⟩
      cases e6 : pick pm ys with
      | none => rw [e6] at h; exact h.elim
      | some qs =>
        rw [e6] at h
        obtain ⟨as, e7, r7⟩ := pick_rel rz e6
        exact ⟨as, e7, hs w3 S3 qs as Q _ s3 r7 (Hop.ext e3 h)⟩
/-! ### new instances -/
theorem make_ok {CC : Calls} {m : Bool} {fi : Nat} {c : Str} {K : PySem.W.Frag} {sp : Sp} (hs : SpOk K sp (CC.fn fi)) : ∀ (w : Wd) (S : Store) (rs : List R) (vs : List V) (Q : VK) (E : XK), SR K w S → Rels K w rs vs → Hop K (Rel K) E w Q (makeR CC m fi c rs S) →
    ∀ x dx, w.H x = none → w.H dx = none → dx ≠ x → sp (.ref x :: vs) (upd (upd w.H dx (.own x)) x (.ins (He.ga K c) dx [])) (fun v H2 => v = .non ∧ Q (.ref x) H2) E := by
  intro w S rs vs Q E s r h x dx hx hdx hne
  have s1 : SR K (w.new dx (.own x)) S := s.new hdx
  have e1 : Ext w (w.new dx (.own x)) := ext_new s hdx
  have hx1 : (w.new dx (.own x)).H x = none := by
    show upd w.H dx (.own x) x = none
    rw [upd_ne hne.symm]
    exact hx
  have e2 : Ext (w.new dx (.own x)) ((w.new dx (.own x)).push x (.ins (He.ga K c) dx [])) := ext_push s1 hx1
  have e12 := e1.trans e2
  have s2 : SR K ((w.new dx (.own x)).push x (.ins (He.ga K c) dx [])) (S ++ [.obj c [] []]) := s1.push hx1 ⟨dx, [], upd_same, rfl, rfl⟩
  have ln : w.n = S.length := s.n
  have px : ((w.new dx (.own x)).push x (.ins (He.ga K c) dx [])).p S.length = x := by
    rw [← ln]
    exact push_p (w := w.new dx (.own x))
  have ro : Rel K ((w.new dx (.own x)).push x (.ins (He.ga K c) dx [])) (.own S.length) (.ref x) := ⟨by rw [← ln]; exact Nat.lt_succ_self _, by rw [px]⟩
  have rall : Rels K ((w.new dx (.own x)).push x (.ins (He.ga K c) dx [])) (.own S.length :: rs) (.ref x :: vs) := ⟨_, _, rfl, ro, r.ext e12⟩
  refine hs _ _ _ _ _ E s2 rall ?_
  unfold makeR at h
  cases e : CC.fn fi (.own S.length :: rs) (S ++ [.obj c [] []]) with
  | stuck => simp only [e] at h; exact h.elim
  | exc c' ns l S' =>
    simp only [e] at h
    exact fun w' d x3 s3 hd => h w' d (e12.trans x3) s3 hd
  | ok q S' =>
    intro w' v x3 s3 rv
    cases q with
    | own k => simp only [e] at h; exact h.elim
    | exc c' ns l => simp only [e] at h; exact h.elim
    | dat d =>
      cases d with
      | non =>
        simp only [e] at h
        refine ⟨rv, ?_⟩
        have r3 : Rel K w' (.own S.length) (.ref x) := ro.ext x3
        by_cases hm : m = true
        · rw [if_pos hm] at h
          exact h w' (.ref x) (e12.trans x3) s3 r3
        · rw [if_neg hm] at h
          by_cases hb : (S'.take S.length).all (Cell.below S.length) = true ∧ S.length ≤ S'.length
          · rw [if_pos hb] at h
            have l3 : S.length ≤ w'.n := by rw [s3.n]; exact hb.2
            cases ed : toD S.length S' 8 (.own S.length) with
            | none => rw [ed] at h; exact h.elim
            | some dd =>
              rw [ed] at h
              exact h (w'.cut S.length) (.ref x) ((e12.trans x3).cut ln) (s3.cut l3 hb.1) (toD_ok s3 l3 8 _ dd _ ed r3)
          · rw [if_neg hb] at h
            exact h.elim
      | _ => simp only [e] at h; exact h.elim
theorem e_make {CC : Calls} {m : Bool} {fi : Nat} {cn : Str} (hx : xr.Ok) (Mk' : Mk X.K (He.ga X.K cn) f) (F : FnOk X.prog X.w X.K X.mg X.base (L2N.CX X.prog X.w) k f fd ps sp) (hs : SpOk X.K sp (CC.fn fi)) (hr : Room (k + 1) X.A) (hg : Gl X x) (hm : X.mg x = some (.ref (He.ga X.K cn))) (hb : Binds X.K fd ps [])
    (tk : L2N.Takes X W) (hdb : (x == ("__debug__" : Str)) = false) (he : starEach (a :: es) X.env = (false, eval a X.env) :: starEach es X.env) (hpl : (backTo pos (starEach es X.env)).any (·.1) = false) (ha : EOk X xr W a ma) (hes : AOk X xr W es ms) :
    EOk X xr W (.Call (.Name x p0) (a :: es) [] pos) (fun ρ => M.bind (ma ρ) fun x => M.bind (ms ρ) fun xs => makeR CC m fi cn (x :: xs)) := by
  obtain ⟨ta, pa, qa⟩ := ha
  obtain ⟨ts, pss, qs⟩ := hes
  have pas := pa_cons pa pss he
  refine ⟨fun σ H Q => tCons ta ts σ H fun vs H1 => ∀ x dx, H1 x = none → H1 dx = none → dx ≠ x → sp (.ref x :: vs) (upd (upd H1 dx (.own x)) x (.ins (He.ga X.K cn) dx [])) (fun v H2 => v = .non ∧ Q (.ref x) H2) (WE W σ), ⟨fun pins s σ H Q I h => ?_⟩, fun σ w S ρ Q er sr h => ?_⟩
  · refine wpAny_Call_Name_kw (ld_glob I hg hm ?_ hdb)
    refine PySem.W.callWith_K (h₀ := X.base) I.ok.mod.kin Mk'.kp (thn (pas.run pos pins s σ H _ I h) fun us s1 ⟨vs, H1, I1, r, q⟩ => ⟨I1.kIn, ?_⟩) he hpl
    have hq := q (s1.heap.objs.size + 1) s1.heap.objs.size (I1.hok.fresh (Nat.le_succ _)) (I1.hok.fresh (Nat.le_refl _)) (Nat.ne_of_lt (Nat.lt_succ_self _))
    have I2 := Inv.made (C := He.ga X.K cn) I1
    have r2 : Vals (V.ref (s1.heap.objs.size + 1) :: vs) (Value.ref (s1.heap.objs.size + 1) :: us) := .cons rfl r
    have hl : (Value.ref (s1.heap.objs.size + 1) :: us).length = ps.length := by rw [← r2.length]; exact F.len _ _ _ _ hq
    have b := hb _ (Value.ref (s1.heap.objs.size + 1) :: us) I2.kIn (by rw [List.append_nil]; exact hl)
    rw [List.append_nil] at b
    refine wpAny_call (make_map (f := f) I1.kIn Mk'.makes Mk'.init (beq_iff_eq.mp Mk'.fn) (codeAny_mono (F.run _ X.stack _ _ ⟨Value.ref (s1.heap.objs.size + 1) :: us, []⟩ _ _ _ (WE W σ) (hr.make (He.ga X.K cn) us []) (I2.env0.make (He.ga X.K cn) us []) b r2 hq) fun z s' hq' => ?_))
    match z, hq' with
    | .error e, hq' => exact L2N.passAt tk σ pins _ _ e s' I2 hq'
    | .ok (.ret u), hq' =>
      obtain ⟨v, H', I3, rv, ev, q3⟩ := I2.after hq'
      subst ev
      exact ⟨rv, ⟨V.ref (s1.heap.objs.size + 1), H', I3, rfl, q3⟩⟩
    | .ok .next, hq' => exact False.elim hq'
    | .ok .brk, hq' => exact False.elim hq'
    | .ok .cont, hq' => exact False.elim hq'
  · refine qa σ w S ρ _ er sr (h.bind fun w1 x u S1 e1 s1 rx h1 => qs σ w1 S1 ρ _ (er.ext hx e1) s1 (h1.bind fun w2 xs us S2 e2 s2 rs h2 => ?_))
    exact make_ok hs w2 S2 (x :: xs) (u :: us) Q _ s2 ⟨u, us, rfl, rx.ext e2, rs⟩ h2
end
end MP
set_option Elab.async false
set_option linter.all false
set_option maxRecDepth 100000
set_option maxHeartbeats 4000000
/-! MPZip: zip of lists and tuples, mixed. -/
namespace MP
open PySem PySem.Spec PyProof.Rows L2
def SqB (K : PySem.W.Frag) (t : Bool) (H : Hp) (a : Addr) (xs : List V) : Prop := match t with
  | true => SqT K H a xs
  | false => SqL K H a xs
def ItB (t : Bool) (h : Heap) (it a : Addr) (i : Nat) : Prop := match t with
  | true => h.IsTupleIter it a i
  | false => h.IsListIter it a i
def StB (t : Bool) (it a : Addr) (items : Array Value) (i : Nat) (h : Heap) : Prop := match t with
  | true => h.IsTupleIter it a i ∧ h.IsTuple a items
  | false => h.IsListIter it a i ∧ h.IsList a items
theorem StB.it {t : Bool} {it a : Addr} {items : Array Value} {i : Nat} {h : Heap} (s : StB t it a items i h) : ItB t h it a i := by
  cases t with
  | true => exact s.1
  | false => exact s.1
theorem StB.ne {t : Bool} {it a : Addr} {items : Array Value} {i : Nat} {h : Heap} (s : StB t it a items i h) : a ≠ it := fun q => by
  subst q
  cases t with
  | true =>
    obtain ⟨⟨o, e, c, _⟩, ⟨o2, e2, c2, _⟩⟩ := s
    rw [e] at e2
    cases e2
    rw [c] at c2
    injection c2 with c3
    exact absurd c3 (by decide)
  | false =>
    obtain ⟨⟨o, e, c, _⟩, ⟨o2, e2, c2, _⟩⟩ := s
    rw [e] at e2
    cases e2
    rw [c] at c2
    injection c2 with c3
    exact absurd c3 (by decide)
theorem nin {x a b : Nat} (h1 : x ≠ a) (h2 : x ≠ b) : x ∉ [a, b] := by simp [h1, h2]
theorem sep_nat (n a b : Nat) (la : a < n) (lb : b < n) : ZipSep2 (n + 4) (n + 2) (n + 3) n (n + 1) [n, a] [n + 1, b] where
  TIz := show (n + 2 : Nat) ≠ n + 4 by omega
  TOz := show (n + 3 : Nat) ≠ n + 4 by omega
  TITO := show (n + 2 : Nat) ≠ n + 3 by omega
  TIi1 := show (n + 2 : Nat) ≠ n by omega
  mem1 := List.mem_cons_self
  zf1 := nin (show (n + 4 : Nat) ≠ n by omega) (show (n + 4 : Nat) ≠ a by omega)
  Tf1 := nin (show (n + 3 : Nat) ≠ n by omega) (show (n + 3 : Nat) ≠ a by omega)
  TIi2 := show (n + 2 : Nat) ≠ n + 1 by omega
  mem2 := List.mem_cons_self
  zf2 := nin (show (n + 4 : Nat) ≠ n + 1 by omega) (show (n + 4 : Nat) ≠ b by omega)
  Tf2 := nin (show (n + 3 : Nat) ≠ n + 1 by omega) (show (n + 3 : Nat) ≠ b by omega)
  sep1_2 := nin (show (n : Nat) ≠ n + 1 by omega) (show (n : Nat) ≠ b by omega)
  sep2_1 := nin (show (n + 1 : Nat) ≠ n by omega) (show (n + 1 : Nat) ≠ a by omega)
theorem ItB.obj {t : Bool} {h : Heap} {it a : Addr} {i : Nat} (s : ItB t h it a i) : ∃ o, h.get? it = some o ∧ ∀ v, o.data ≠ .cell v := by
  cases t with
  | true => obtain ⟨o, e, _, d⟩ := s; exact ⟨o, e, fun v q => by rw [d] at q; cases q⟩
  | false => obtain ⟨o, e, _, d⟩ := s; exact ⟨o, e, fun v q => by rw [d] at q; cases q⟩
theorem ItB.at {t : Bool} {h h' : Heap} {it a : Addr} {i : Nat} (s : ItB t h it a i) (k : ∀ o, h.get? it = some o → h'.get? it = some o) : ItB t h' it a i := by
  cases t with
  | true => exact Heap.IsTupleIter.at s k
  | false => exact Heap.IsListIter.at s k
theorem drawsB {prog : Program} {w : World} {A : Around} (hh : A.handled = none) (t : Bool) (it a : Addr) (hne : a ≠ it) (items : Array Value) : Draws prog w A it [it, a] items.size (fun i v => items[i]? = some v) (StB t it a items) := by
  cases t with
  | true => exact Draws.tuple hh it a hne items
  | false => exact Draws.list hh it a hne items
theorem seqB {X : Cx} {pins : List (Addr × Obj)} {σ : L2.St} {H : Hp} {s : Shared} {t : Bool} {a : Addr} {xs : List V} (I : Inv X pins σ H s) (h : SqB X.K t H a xs) : ∃ its : List Value, Vals xs its ∧ a < s.heap.objs.size ∧ (∀ it i, ItB t s.heap it a i → StB t it a its.toArray i s.heap) ∧
    ∃ o P, PySem.Begins (.ref a) o P ∧ P s.heap ∧ ∀ (h' : Heap) (it : Addr), h'.get? it = some o → ItB t h' it a 0 := by
  cases t with
  | true =>
    obtain ⟨its, rv, p, _⟩ := I.tuple h
    have p2 : s.heap.IsTuple a its.toArray := p
    obtain ⟨o, ho, _⟩ := id p2
    exact ⟨its, rv, Heap.lt_size ho, fun it i q => ⟨q, p2⟩, _, _, begins_tuple a its.toArray, p2, fun h' it e => ⟨_, e, rfl, rfl⟩⟩
  | false =>
    obtain ⟨its, rv, p, _⟩ := I.list h
    have p2 := p.isList
    exact ⟨its, rv, p.lt, fun it i q => ⟨q, p2⟩, _, _, begins_list a its.toArray, p2, fun h' it e => ⟨_, e, rfl, rfl⟩⟩
theorem injB {X : Cx} {pins : List (Addr × Obj)} {σ : L2.St} {H : Hp} {s : Shared} {t : Bool} {a : Addr} {xs ys : List V} (I : Inv X pins σ H s) (h : SqB X.K t H a xs) (h' : SqB X.K t H a ys) : xs = ys := by
  cases t with
  | true => exact I.tuple_inj h h'
  | false => exact I.list_inj h h'
/-- two sequences in step -/
def ItzB (K : PySem.W.Frag) (t1 t2 : Bool) (a b : Addr) : It :=
  ⟨fun i H => ∃ (xs ys : List V) (x y : V), SqB K t1 H a xs ∧ SqB K t2 H b ys ∧ xs[i]? = some x ∧ ys[i]? = some y,
    fun i H v H' => ∃ T x y, v = .ref T ∧ H T = none ∧ H' = upd H T (.tup [x, y]) ∧ (∀ xs, SqB K t1 H a xs → xs[i]? = some x) ∧ ∀ ys, SqB K t2 H b ys → ys[i]? = some y,
    fun i H => ∃ xs ys : List V, SqB K t1 H a xs ∧ SqB K t2 H b ys ∧ i ≤ xs.length ∧ i ≤ ys.length ∧ (i = xs.length ∨ i = ys.length)⟩
theorem turn_zipB {P : Program} {w : World} {K : PySem.W.Frag} {elts : List Expr} {kk : Nat} {tpos : Pos} {t1 t2 : Bool} {a b z TI TO i1 i2 : Addr} (D : ZipSep2 z TI TO i1 i2 [i1, a] [i2, b]) :
    Turn P w K (.Tuple elts kk tpos) (ItzB K t1 t2 a b) [z, TI, TO, i1, i2] z (fun i h => IsZip h z TI TO .none ∧ IsTupOf2 h TI (.ref i1) (.ref i2) ∧ (∃ x y, IsTupOf2 h TO x y) ∧ ItB t1 h i1 a i ∧ ItB t2 h i2 b i) where
  mem := by simp
  obj := fun i h st c hc => by
    obtain ⟨hz, hTI, ⟨x, y, hTO⟩, h1, h2⟩ := st
    have e' : c = z ∨ c = TI ∨ c = TO ∨ c = i1 ∨ c = i2 := by simpa using hc
    rcases e' with q | q | q | q | q
    · rw [q]; exact ⟨_, hz, fun v q => nomatch q⟩
    · rw [q]; exact ⟨_, hTI, fun v q => nomatch q⟩
    · rw [q]; exact ⟨_, hTO, fun v q => nomatch q⟩
    · rw [q]; exact h1.obj
    · rw [q]; exact h2.obj
  keep := fun i h h' st k => by
    obtain ⟨hz, hTI, ⟨x, y, hTO⟩, h1, h2⟩ := st
    exact ⟨k z (by simp) _ hz, k TI (by simp) _ hTI, ⟨x, y, k TO (by simp) _ hTO⟩, h1.at fun o q => k i1 (by simp) o q, h2.at fun o q => k i2 (by simp) o q⟩
  item := by
    intro X hP hw hK hc i pins s σ H E I hf st hg
    subst hP hw hK
    obtain ⟨hz, hTI, ⟨x0, y0, hTO⟩, h1, h2⟩ := st
    obtain ⟨xs, ys, x, y, hqx, hqy, hx, hy⟩ := hg
    obtain ⟨its, rv, la, st1, _⟩ := seqB I hqx
    obtain ⟨its2, rv2, lb, st2, _⟩ := seqB I hqy
    obtain ⟨u, hu, ru⟩ := rv.get hx
    obtain ⟨u2, hu2, ru2⟩ := rv2.get hy
    have hzl : z < s.heap.objs.size := Heap.lt_size hz
    have ne1 : a ≠ i1 := (st1 _ _ h1).ne
    have ne2 : b ≠ i2 := (st2 _ _ h2).ne
    have hh := I.ok.hd hc
    have lt1 : i < its.toArray.size := by
      have := (List.getElem?_eq_some_iff.mp hu).1
      simpa using this
    have lt2 : i < its2.toArray.size := by
      have := (List.getElem?_eq_some_iff.mp hu2).1
      simpa using this
    refine wpAny_pyNext_zipD2_item D (drawsB (A := X.A.in1) hh t1 i1 a ne1 its.toArray) (drawsB (A := X.A.in1) hh t2 i2 b ne2 its2.toArray) hz hTI hTO (st1 _ _ h1) (st2 _ _ h2) lt1 lt2 fun x1 x2 h' tk y1 y2 z' TO' s1' s2' hT hsz hk => ?_
    have ex1 : x1 = u := by
      have q : its.toArray[i]? = some x1 := y1
      rw [← Array.getElem?_toList] at q
      exact Option.some.inj (q.symm.trans hu)
    have ex2 : x2 = u2 := by
      have q : its2.toArray[i]? = some x2 := y2
      rw [← Array.getElem?_toList] at q
      exact Option.some.inj (q.symm.trans hu2)
    subst ex1 ex2
    refine ⟨_, rfl, wpAny_letOwnedTupleGo_zip (s := { s with heap := h', toks := tk }) z' fun h'' z'' sb => ?_⟩
    have hT2 : h''.get? s.heap.objs.size = some { cls := .type "tuple", data := .seq #[x1, x2] } := (sb.2 _ (Nat.ne_of_gt hzl)).trans hT
    have new : ObjOk X.prog X.w (upd H s.heap.objs.size (.tup [x, y])) h'' s.heap.objs.size (.tup [x, y]) :=
      ⟨by show 2 ≤ sizeLine; decide, [x1, x2], .cons ru (.cons ru2 .nil), ⟨_, hT2, rfl, _, rfl⟩⟩
    have I1 : Inv X pins σ (upd H s.heap.objs.size (.tup [x, y])) { s with heap := h'', toks := tk } :=
      I.turnedNew (t' := tk) (ch := [z, TI, TO, i1, i2]) (fun c o hb q => (sb.2 c (fun q' => hb (by simp [q']))).trans (hk c o (fun q' => hb (by simp [q'])) (fun q' => hb (by simp [q'])) (fun q' => hb (by simp [q'])) (fun q' => hb (by simp [q'])) q)) hf (Nat.le_refl _) new
    refine ⟨.ref s.heap.objs.size, _, I1, rfl, ⟨_, x, y, rfl, I.hok.fresh (Nat.le_refl _), rfl, fun l hl => by rw [injB I hl hqx]; exact hx, fun l hl => by rw [injB I hl hqy]; exact hy⟩, ⟨z'', ?_, ⟨x1, x2, ?_⟩, ?_, ?_⟩, fun c hcm => ?_⟩
    · exact (sb.2 _ D.TIz).trans (hk _ _ D.TIz D.TITO D.TIi1 D.TIi2 hTI)
    · exact (sb.2 _ D.TOz).trans TO'
    · exact s1'.it.at fun o q => (sb.2 _ D.zi1.symm).trans q
    · exact s2'.it.at fun o q => (sb.2 _ D.zi2.symm).trans q
    · have hlt : c < s.heap.objs.size := by
        have e' : c = z ∨ c = TI ∨ c = TO ∨ c = i1 ∨ c = i2 := by simpa using hcm
        rcases e' with q | q | q | q | q
        · rw [q]; exact hzl
        · rw [q]; exact Heap.lt_size hTI
        · rw [q]; exact Heap.lt_size hTO
        · rw [q]; obtain ⟨_, e1, _⟩ := h1.obj; exact Heap.lt_size e1
        · rw [q]; obtain ⟨_, e2, _⟩ := h2.obj; exact Heap.lt_size e2
      rw [upd_ne (Nat.ne_of_lt hlt)]
      exact (hf c hcm).1
  done := by
    intro X hP hw hK hc i pins s σ H E I hf st hg
    subst hP hw hK
    obtain ⟨hz, hTI, ⟨x0, y0, hTO⟩, h1, h2⟩ := st
    obtain ⟨xs, ys, hqx, hqy, hl1, hl2, hend⟩ := hg
    obtain ⟨its, rv, la, st1, _⟩ := seqB I hqx
    obtain ⟨its2, rv2, lb, st2, _⟩ := seqB I hqy
    have l1 := rv.length
    have l2 := rv2.length
    have ne1 : a ≠ i1 := (st1 _ _ h1).ne
    have ne2 : b ≠ i2 := (st2 _ _ h2).ne
    have hh := I.ok.hd hc
    exact wpAny_pyNext_zipD2_end D (drawsB (A := X.A.in1) hh t1 i1 a ne1 its.toArray) (drawsB (A := X.A.in1) hh t2 i2 b ne2 its2.toArray) hz hTI hTO (st1 _ _ h1) (st2 _ _ h2) (by simp; omega) (by simp; omega) (by simp; omega) fun h' tk hk => ⟨rfl, I.turnedL (t' := tk) (ch := [z, TI, TO, i1, i2]) (fun c o hb q =>
      hk c o (fun q' => hb (by simp [q'])) (fun q' => hb (by simp [q'])) (fun q' => hb (by simp [q'])) (fun q' => hb (by simp [q'])) q) hf⟩
  self := fun A i s Q E st h => wpAny_pyIter_zip st.1 h
def iZipB (K : PySem.W.Frag) (ta : TA) : TI := fun σ H R => ta σ H fun vs H1 => ∃ t1 t2 a b xs ys, vs = [.ref a, .ref b] ∧ SqB K t1 H1 a xs ∧ SqB K t2 H1 b ys ∧ R (ItzB K t1 t2 a b) H1
theorem pi_zipB {X : Cx} {e e2 : Expr} {ta : TA} {p pos tpos : Pos} {elts : List Expr} {kk : Nat} (hg : Gl X "zip") (hm : X.mg "zip" = none) (ha : PA X [e, e2] ta)
    (hs : starEach [e, e2] X.env = (false, eval e X.env) :: starEach [e2] X.env) (hpl : (backTo pos (starEach [e2] X.env)).any (·.1) = false) :
    PI X (.Tuple elts kk tpos) (.Call (.Name "zip" p) [e, e2] [] pos) (iZipB X.K ta) := by
  refine ⟨fun pins s σ H R I h => ?_⟩
  refine Call_ (ld_blt I hg hm PyProof.Rows.boot_zip (PyProof.Rows.callWith_type1 (thn (ha.run pos pins s σ H _ I h) fun us s1 ⟨vs, H1, I1, r1, q1⟩ => ?_) hs hpl))
  obtain ⟨t1, t2, a, b, xs, ys, ex, hqx, hqy, q⟩ := q1
  subst ex
  obtain ⟨u1, u2, rfl, r, r'⟩ := vals2 r1
  cases (show u1 = Value.ref a from r)
  cases (show u2 = Value.ref b from r')
  obtain ⟨its, rv, la, st1, o1, P1, B1, p1, k1⟩ := seqB I1 hqx
  obtain ⟨its2, rv2, lb, st2, o2, P2, B2, p2, k2⟩ := seqB I1 hqy
  refine zip_begins2 B1 B2 p1 p2 fun h' hz hTI hTO h1 h2 hsz hk => wpAny_pyIter_zip hz ?_
  have I2 : Inv X pins σ H1 { s1 with heap := h' } := I1.kept (t' := s1.toks) hk
  have sep := sep_nat s1.heap.objs.size a b la lb
  refine ⟨s1.heap.objs.size + 4, [s1.heap.objs.size + 4, s1.heap.objs.size + 2, s1.heap.objs.size + 3, s1.heap.objs.size, s1.heap.objs.size + 1], _, _, H1, rfl, I2, turn_zipB sep, ⟨hz, hTI, ⟨_, _, hTO⟩, k1 _ _ h1, k2 _ _ h2⟩, fun c hcm => ?_, q⟩
  have e' : c = s1.heap.objs.size + 4 ∨ c = s1.heap.objs.size + 2 ∨ c = s1.heap.objs.size + 3 ∨ c = s1.heap.objs.size ∨ c = s1.heap.objs.size + 1 := by simpa using hcm
  have hle : s1.heap.objs.size ≤ c := by
    rcases e' with z | z | z | z | z
    · rw [z]; exact Nat.le_add_right _ _
    · rw [z]; exact Nat.le_add_right _ _
    · rw [z]; exact Nat.le_add_right _ _
    · rw [z]; exact Nat.le_refl _
    · rw [z]; exact Nat.le_add_right _ _
  exact I1.fpOk hle (I1.hok.fresh hle)
theorem walk_zipB {K : PySem.W.Frag} {t1 t2 : Bool} {a b : Addr} {xs ys : List V} {n : Nat} (hn : n = min xs.length ys.length) : Walk (ItzB K t1 t2 a b) n (fun H => SqB K t1 H a xs ∧ SqB K t2 H b ys) (YPair (fun i => xs[i]?) (fun i => ys[i]?)) := by
  subst hn
  refine ⟨fun i _ hi q => ?_, fun _ q => ⟨xs, ys, q.1, q.2, by omega, by omega, by omega⟩, fun i H v H' _ q y => ?_⟩
  · have h1 : i < xs.length := by omega
    have h2 : i < ys.length := by omega
    exact ⟨xs, ys, xs[i], ys[i], q.1, q.2, by simp [h1], by simp [h2]⟩
  · obtain ⟨T, x, z, h1, h2, h3, h4, h5⟩ := y
    exact ⟨T, x, z, h1, h2, h3, h4 xs q.1, h5 ys q.2⟩
end MP
set_option Elab.async false
set_option linter.all false
set_option maxRecDepth 100000
set_option maxHeartbeats 4000000
/-! MPIter: what is walked; targets. -/
namespace MP
open PySem PySem.Spec PyProof.Rows L2
def ItmR (K : PySem.W.Frag) (w : Wd) : Itm → V → Prop
  | .one r, v => Rel K w r v
  | .tup rs, v => ∃ T vs, v = .ref T ∧ w.H T = some (.tup vs) ∧ Rels K w rs vs
structure WalkR (K : PySem.W.Frag) (w : Wd) (J : It) (xs : List Itm) (gd : Gd) : Prop where
  ex : ∃ (G : Hp → Prop) (Y : Nat → Hp → V → Hp → Prop), Walk J xs.length G Y ∧ (∀ w2 S2, Mono w w2 → SR K w2 S2 → gdOk S2 gd = true → G w2.H) ∧
    (∀ i x v H' w2 S2, Mono w w2 → SR K w2 S2 → gdOk S2 gd = true → xs[i]? = some x → Y i w2.H v H' → ∃ w3, w3.H = H' ∧ Ext w2 w3 ∧ SR K w3 S2 ∧ ItmR K w3 x v)
open Classical in
theorem gd_iff {S : Store} {g : Gd} : gdOk S g = true ↔ ∀ q ∈ g, S[q.1]? = some q.2 := by
  unfold gdOk
  exact decide_eq_true_iff
theorem gd_app {S : Store} {a b : Gd} (h : gdOk S (a ++ b) = true) : gdOk S a = true ∧ gdOk S b = true := by
  have h := gd_iff.mp h
  exact ⟨gd_iff.mpr fun q hq => h q (List.mem_append_left _ hq), gd_iff.mpr fun q hq => h q (List.mem_append_right _ hq)⟩
theorem gd_one {S : Store} {k : Nat} {c : Cell} (h : gdOk S [(k, c)] = true) : S[k]? = some c := gd_iff.mp h (k, c) List.mem_cons_self
section
variable {K : PySem.W.Frag} {w : Wd} {S : Store}
/-- a list or a tuple, from now on -/
def Src (K : PySem.W.Frag) (w : Wd) (t : Bool) (a : Addr) (rs : List R) (gd : Gd) : Prop := ∀ w2 S2, Mono w w2 → SR K w2 S2 → gdOk S2 gd = true → ∃ vs, SqB K t w2.H a vs ∧ Rels K w2 rs vs
theorem src {x : R} {u : V} {rs : List R} {S' : Store} (s : SR K w S) (r : Rel K w x u) (h : walkR x S = .ok rs S') : S' = S ∧ ∃ a, u = .ref a ∧ Src K w (isTup S x) a rs (guardR S x) := by
  cases x with
  | exc c ns l => exact r.elim
  | dat d =>
    cases d with
    | lst l =>
      cases (show Res.ok (l.map R.dat) S = Res.ok rs S' from h)
      obtain ⟨a, vs, e, nl, h1, hz, h2⟩ := r
      exact ⟨rfl, a, e, fun w2 S2 x2 _ _ => ⟨vs, .of (x2.keep _ _ nl h1).2, (Reps.imp x2.keep _ _ h2).dat⟩⟩
    | tup l =>
      cases (show Res.ok (l.map R.dat) S = Res.ok rs S' from h)
      obtain ⟨a, vs, e, nl, h1, hz, h2⟩ := r
      exact ⟨rfl, a, e, fun w2 S2 x2 _ _ => ⟨vs, .of (x2.keep _ _ nl h1).2, (Reps.imp x2.keep _ _ h2).dat⟩⟩
    | _ => cases h
  | own k =>
    obtain ⟨hk, e⟩ := r
    obtain ⟨c, hc, hr⟩ := s.get hk
    have eg : guardR S (.own k) = [(k, c)] := by
      unfold guardR
      simp only [hc]
    rw [eg]
    cases c with
    | obj c ns rs =>
      unfold walkR itemsR at h
      simp only [hc] at h
      cases h
    | lst qs =>
      unfold walkR itemsR at h
      simp only [hc] at h
      cases h
      have et : isTup S (.own k) = false := by
        unfold isTup
        simp only [hc]
      rw [et]
      refine ⟨rfl, w.p k, e, fun w2 S2 x2 s2 g => ?_⟩
      have q := gd_one g
      obtain ⟨vs, h1, _, h2⟩ := s2.cell k _ q
      rw [x2.p k hk] at h1
      exact ⟨vs, .of h1, h2⟩
    | tup qs =>
      unfold walkR itemsR at h
      simp only [hc] at h
      cases h
      have et : isTup S (.own k) = true := by
        unfold isTup
        simp only [hc]
      rw [et]
      refine ⟨rfl, w.p k, e, fun w2 S2 x2 s2 g => ?_⟩
      have q := gd_one g
      obtain ⟨vs, h1, _, h2⟩ := s2.cell k _ q
      rw [x2.p k hk] at h1
      exact ⟨vs, .of h1, h2⟩
def ItS (K : PySem.W.Frag) (t : Bool) (a : Addr) : It := match t with
  | true => Itt K a
  | false => Itl K a
theorem walk_seq {t : Bool} {a : Addr} {n : Nat} : Walk (ItS K t a) n (fun H => ∃ vs, SqB K t H a vs ∧ vs.length = n) (fun i H x H' => H' = H ∧ ∀ xs, SqB K t H a xs → xs[i]? = some x) := by
  cases t with
  | true =>
    refine ⟨fun i H hi ⟨vs, q, l⟩ => ?_, fun H ⟨vs, q, l⟩ => ⟨vs, q, Nat.le_of_eq l⟩, fun i H x H' hi q y => y⟩
    exact ⟨vs, vs[i]'(by omega), q, List.getElem?_eq_getElem _⟩
  | false =>
    refine ⟨fun i H hi ⟨vs, q, l⟩ => ?_, fun H ⟨vs, q, l⟩ => ⟨vs, q, Nat.le_of_eq l⟩, fun i H x H' hi q y => y⟩
    exact ⟨vs, vs[i]'(by omega), q, List.getElem?_eq_getElem _⟩
theorem walkR_seq {t : Bool} {a : Addr} {rs : List R} {gd : Gd} (h : Src K w t a rs gd) : WalkR K w (ItS K t a) (rs.map .one) gd := by
  refine ⟨_, _, walk_seq (n := (rs.map Itm.one).length), fun w2 S2 x2 s2 g => ?_, fun i x v H' w2 S2 x2 s2 g hx y => ?_⟩
  · obtain ⟨vs, q, r⟩ := h w2 S2 x2 s2 g
    exact ⟨vs, q, by rw [← r.length, List.length_map]⟩
  · obtain ⟨vs, q, r⟩ := h w2 S2 x2 s2 g
    obtain ⟨e, y⟩ := y
    have y := y vs q
    rw [List.getElem?_map] at hx
    cases er : rs[i]? with
    | none => rw [er] at hx; cases hx
    | some z =>
      rw [er] at hx
      cases hx
      obtain ⟨v', e2, r2⟩ := r.get er
      rw [y] at e2
      cases e2
      exact ⟨w2, e.symm, Ext.refl _, s2, r2⟩
theorem rng_len : ∀ (n : Nat) (lo : Int), (rngI lo n).length = n
  | 0, _ => rfl
  | n + 1, lo => by
    show (rngI (lo + 1) n).length + 1 = _
    rw [rng_len n]
theorem rng_get : ∀ (n : Nat) (lo : Int) (i : Nat) (x : Itm), (rngI lo n)[i]? = some x → x = .one (.dat (.int (lo + i)))
  | 0, lo, i, x, h => by cases h
  | n + 1, lo, 0, x, h => by
    cases (show some (Itm.one (.dat (.int lo))) = some x from h)
    simp
  | n + 1, lo, i + 1, x, h => by
    rw [rng_get n (lo + 1) i x h]
    have e : lo + 1 + (i : Int) = lo + ((i + 1 : Nat) : Int) := by omega
    rw [e]
theorem walkR_rng {lo : Int} {n : Nat} {gd : Gd} : WalkR K w (Itr lo n) (rngI lo n) gd := by
  refine ⟨fun _ => True, YFn fun i => .int (lo + i), by rw [rng_len]; exact walk_range, fun _ _ _ _ _ => trivial, fun i x v H' w2 S2 x2 s2 g hx y => ?_⟩
  obtain ⟨e, y⟩ := y
  subst y
  rw [rng_get _ _ _ _ hx]
  exact ⟨w2, e.symm, Ext.refl _, s2, rfl⟩
theorem enum_get : ∀ (rs : List R) (n i : Nat) (x : Itm), (enumI n rs)[i]? = some x → ∃ r, rs[i]? = some r ∧ x = .tup [.dat (.int ((n + i : Nat) : Int)), r]
  | [], n, i, x, h => by cases h
  | r :: rs, n, 0, x, h => by
    cases (show some (Itm.tup [.dat (.int (n : Int)), r]) = some x from h)
    exact ⟨r, rfl, rfl⟩
  | r :: rs, n, i + 1, x, h => by
    obtain ⟨r, h1, h2⟩ := enum_get rs (n + 1) i x h
    have e : n + 1 + i = n + (i + 1) := by omega
    exact ⟨r, h1, by rw [h2, e]⟩
theorem enum_len : ∀ (rs : List R) (n : Nat), (enumI n rs).length = rs.length
  | [], _ => rfl
  | _ :: rs, n => by
    show (enumI (n + 1) rs).length + 1 = rs.length + 1
    rw [enum_len rs]
theorem tup2 {w : Wd} {S : Store} {T : Addr} {x y : V} {a b : R} (s : SR K w S) (h : w.H T = none) (ra : Rel K w a x) (rb : Rel K w b y) : ∃ w3, w3.H = upd w.H T (.tup [x, y]) ∧ Ext w w3 ∧ SR K w3 S ∧ ItmR K w3 (.tup [a, b]) (.ref T) :=
  ⟨w.new T (.tup [x, y]), rfl, ext_new s h, s.new h, T, [x, y], rfl, new_same, x, [y], rfl, ra.ext (ext_new s h), y, [], rfl, rb.ext (ext_new s h), rfl⟩
theorem walkR_enum {a : Addr} {rs : List R} {gd : Gd} (h : Src K w false a rs gd) : WalkR K w (Ite K a) (enumI 0 rs) gd := by
  refine ⟨fun H => ∃ vs, SqL K H a vs ∧ vs.length = (enumI 0 rs).length, fun i H v H' => ∃ T x, v = .ref T ∧ H T = none ∧ H' = upd H T (.tup [.int (i : Nat), x]) ∧ ∀ xs, SqL K H a xs → xs[i]? = some x,
    ⟨fun i H hi ⟨vs, q, l⟩ => ⟨vs, vs[i]'(by omega), q, List.getElem?_eq_getElem _⟩, fun H ⟨vs, q, l⟩ => ⟨vs, q, Nat.le_of_eq l⟩, fun i H x H' hi q y => y⟩, fun w2 S2 x2 s2 g => ?_, fun i x v H' w2 S2 x2 s2 g hx y => ?_⟩
  · obtain ⟨vs, q, r⟩ := h w2 S2 x2 s2 g
    exact ⟨vs, q, by rw [← r.length, enum_len]⟩
  · obtain ⟨vs, q, r⟩ := h w2 S2 x2 s2 g
    obtain ⟨T, y, e, hT, eH, hy⟩ := y
    subst e eH
    obtain ⟨z, hz, ex⟩ := enum_get _ _ _ _ hx
    obtain ⟨v', e2, r2⟩ := r.get hz
    rw [hy vs q] at e2
    cases e2
    rw [ex, Nat.zero_add]
    exact tup2 s2 hT rfl r2
theorem zip_get : ∀ (rs qs : List R) (i : Nat) (x : Itm), (zipI rs qs)[i]? = some x → ∃ r q, rs[i]? = some r ∧ qs[i]? = some q ∧ x = .tup [r, q]
  | [], qs, i, x, h => by cases h
  | r :: rs, [], i, x, h => by cases h
  | r :: rs, q :: qs, 0, x, h => by
    cases (show some (Itm.tup [r, q]) = some x from h)
    exact ⟨r, q, rfl, rfl, rfl⟩
  | r :: rs, q :: qs, i + 1, x, h => zip_get rs qs i x h
theorem zip_len : ∀ (rs qs : List R), (zipI rs qs).length = min rs.length qs.length
  | [], qs => by simp [zipI]
  | r :: rs, [] => by simp [zipI]
  | r :: rs, q :: qs => by
    show (zipI rs qs).length + 1 = min (rs.length + 1) (qs.length + 1)
    rw [zip_len rs qs]
    omega
theorem walkR_zip {t1 t2 : Bool} {a b : Addr} {rs qs : List R} {g1 g2 : Gd} (h1 : Src K w t1 a rs g1) (h2 : Src K w t2 b qs g2) : WalkR K w (ItzB K t1 t2 a b) (zipI rs qs) (g1 ++ g2) := by
  refine ⟨fun H => ∃ xs ys, SqB K t1 H a xs ∧ SqB K t2 H b ys ∧ xs.length = rs.length ∧ ys.length = qs.length, fun i H v H' => ∃ T x y, v = .ref T ∧ H T = none ∧ H' = upd H T (.tup [x, y]) ∧ (∀ xs, SqB K t1 H a xs → xs[i]? = some x) ∧ ∀ ys, SqB K t2 H b ys → ys[i]? = some y,
    ⟨fun i H hi ⟨xs, ys, q1, q2, l1, l2⟩ => ?_, fun H ⟨xs, ys, q1, q2, l1, l2⟩ => ?_, fun i H x H' hi q y => y⟩, fun w2 S2 x2 s2 g => ?_, fun i x v H' w2 S2 x2 s2 g hx y => ?_⟩
  · rw [zip_len] at hi
    exact ⟨xs, ys, xs[i]'(by omega), ys[i]'(by omega), q1, q2, List.getElem?_eq_getElem _, List.getElem?_eq_getElem _⟩
  · rw [zip_len]
    exact ⟨xs, ys, q1, q2, by omega, by omega, by omega⟩
  · obtain ⟨xs, q1, r1⟩ := h1 w2 S2 x2 s2 (gd_app g).1
    obtain ⟨ys, q2, r2⟩ := h2 w2 S2 x2 s2 (gd_app g).2
    exact ⟨xs, ys, q1, q2, r1.length.symm, r2.length.symm⟩
  · obtain ⟨xs, q1, r1⟩ := h1 w2 S2 x2 s2 (gd_app g).1
    obtain ⟨ys, q2, r2⟩ := h2 w2 S2 x2 s2 (gd_app g).2
    obtain ⟨T, y, z, e, hT, eH, hy, hz⟩ := y
    subst e eH
    obtain ⟨c, d, ec, ed, ex⟩ := zip_get _ _ _ _ hx
    obtain ⟨v', e2, r3⟩ := r1.get ec
    obtain ⟨v2, e3, r4⟩ := r2.get ed
    rw [hy xs q1] at e2
    cases e2
    rw [hz ys q2] at e3
    cases e3
    rw [ex]
    exact tup2 s2 hT r3 r4
end
/-! ### what is walked, as an expression -/
def IOk (X : Cx) (xr : XR) (W : WX) (tg iter : Expr) (m : MP.Env → M (List Itm × Gd)) : Prop :=
  ∃ wi, PI X tg iter wi ∧ ∀ σ w S ρ (Q : It → Hp → Prop), EnvR X.K xr w σ ρ → SR X.K w S → Hop X.K (fun w a J => WalkR X.K w J a.1 a.2) (WE W σ) w Q (m ρ S) → wi σ w.H Q
section
variable {X : Cx} {xr : XR} {W : WX} {tg a b e : Expr} {ma mb : MP.Env → M R} {pos p0 tpos : Pos} {elts : List Expr} {kk : Nat}
theorem pi_seq {te : TE} (he : PE X e te) : PI X tg e (fun σ H R => te σ H fun x H1 => ∃ t a xs, x = .ref a ∧ SqB X.K t H1 a xs ∧ R (ItS X.K t a) H1) := by
  refine ⟨fun pins s σ H R I h => ?_⟩
  refine thn (he.run pins s σ H _ I h) fun v s1 ⟨x, H1, I1, r1, t, a, xs, ex, hq, q⟩ => ?_
  subst ex
  cases (show v = Value.ref a from r1)
  cases t with
  | true =>
    obtain ⟨its, rv, p, hz⟩ := I1.tuple hq
    exact wpAny_pyIter_tuple (show s1.heap.IsTuple a its.toArray from p) (pi_one (tk := s1.toks) I1 _ (turn_tuple a _) ⟨_, Heap.get?_push_size _ rfl, rfl, rfl⟩ q)
  | false =>
    obtain ⟨its, rv, p, hz⟩ := I1.list hq
    exact wpAny_pyIter_list p.isList (pi_one (tk := s1.toks) I1 _ (turn_list a _) ⟨_, Heap.get?_push_size _ rfl, rfl, rfl⟩ q)
theorem Src.now {K : PySem.W.Frag} {w : Wd} {S : Store} {t : Bool} {a : Addr} {rs : List R} {x : R} (h : Src K w t a rs (guardR S x)) (s : SR K w S) : ∃ vs, SqB K t w.H a vs ∧ Rels K w rs vs := by
  refine h w S (Ext.refl _).mono s ?_
  unfold guardR
  cases x with
  | dat d => exact gd_iff.mpr fun q hq => by cases hq
  | exc c ns l => exact gd_iff.mpr fun q hq => by cases hq
  | own k =>
    cases e : S[k]? with
    | none => exact gd_iff.mpr fun q hq => by simp only [e] at hq; cases hq
    | some c =>
      refine gd_iff.mpr fun q hq => ?_
      simp only [e] at hq
      have hq := List.mem_singleton.mp hq
      rw [hq]
      exact e
theorem i_of (ha : EOk X xr W a ma) : IOk X xr W tg a (fun ρ => M.bind (ma ρ) fun x => M.bind (walkR x) fun rs => fun S => .ok (rs.map .one, guardR S x) S) := by
  obtain ⟨ta, pa, qa⟩ := ha
  refine ⟨_, pi_seq pa, fun σ w S ρ Q er sr h => qa σ w S ρ _ er sr (h.bind fun w1 x u S1 e1 s1 rx h1 => ?_)⟩
  unfold M.bind at h1
  cases e : walkR x S1 with
  | stuck => simp only [e] at h1; exact h1.elim
  | exc c ns l S' =>
    exfalso
    unfold walkR at e
    split at e <;> cases e
  | ok rs S' =>
    obtain ⟨e2, c, eu, hs⟩ := src s1 rx e
    subst e2
    simp only [e] at h1
    obtain ⟨vs, q, _⟩ := hs.now s1
    exact ⟨_, c, vs, eu, q, h1 w1 _ (Ext.refl _) s1 (walkR_seq hs)⟩
theorem i_rng1 (hg : Gl X "range") (hm : X.mg "range" = none) (hs : starEach [a] X.env = (false, eval a X.env) :: starEach [] X.env) (ha : EOk X xr W a ma) :
    IOk X xr W tg (.Call (.Name "range" p0) [a] [] pos) (fun ρ => M.bind (ma ρ) fun x => match x with
      | .dat (.int i) => if rngOk i = true then M.pure (rngI 0 i.toNat, []) else M.stuck
      | _ => M.stuck) := by
  obtain ⟨ta, pa, qa⟩ := ha
  refine ⟨_, pi_range1 hg hm (pa_cons pa pa_nil hs) hs, fun σ w S ρ Q er sr h => qa σ w S ρ _ er sr (h.bind fun w1 x u S1 e1 s1 rx h1 => ?_)⟩
  cases x with
  | own k => exact h1.elim
  | exc c ns l => exact h1.elim
  | dat d =>
    cases d with
    | int i =>
      dsimp only at h1
      by_cases z : rngOk i = true
      · rw [if_pos z] at h1
        have z2 := of_decide_eq_true z
        cases (show u = .int i from rx)
        exact ⟨i, rfl, by omega, by omega, h1 w1 _ (Ext.refl _) s1 walkR_rng⟩
      · rw [if_neg z] at h1
        exact h1.elim
    | _ => exact h1.elim
theorem i_rng2 (hx : xr.Ok) (hg : Gl X "range") (hm : X.mg "range" = none) (hs : starEach [a, b] X.env = (false, eval a X.env) :: starEach [b] X.env) (hs2 : starEach [b] X.env = (false, eval b X.env) :: starEach [] X.env) (hn : starEach [] X.env = []) (ha : EOk X xr W a ma) (hb : EOk X xr W b mb) :
    IOk X xr W tg (.Call (.Name "range" p0) [a, b] [] pos) (fun ρ => M.bind (ma ρ) fun x => M.bind (mb ρ) fun y => match x, y with
      | .dat (.int i), .dat (.int j) => if rngOk i = true ∧ rngOk j = true then M.pure (rngI i (j - i).toNat, []) else M.stuck
      | _, _ => M.stuck) := by
  obtain ⟨ta, pa, qa⟩ := ha
  obtain ⟨tb, pb, qb⟩ := hb
  refine ⟨_, pi_range2 hg hm (pa_cons pa (pa_cons pb pa_nil hs2) hs) (by rw [hs, hs2, hn]) (by rw [hs2, hn]), fun σ w S ρ Q er sr h => qa σ w S ρ _ er sr (h.bind fun w1 x u S1 e1 s1 rx h1 => qb σ w1 S1 ρ _ (er.ext hx e1) s1 (h1.bind fun w2 y v S2 e2 s2 ry h2 => ?_))⟩
  cases x with
  | own k => exact h2.elim
  | exc c ns l => exact h2.elim
  | dat d =>
    cases d with
    | int i =>
      cases y with
      | own k => exact h2.elim
      | exc c ns l => exact h2.elim
      | dat d =>
        cases d with
        | int j =>
          dsimp only at h2
          by_cases z : rngOk i = true ∧ rngOk j = true
          · rw [if_pos z] at h2
            have z2 := of_decide_eq_true z.1
            have z3 := of_decide_eq_true z.2
            cases (show u = .int i from rx)
            cases (show v = .int j from ry)
            exact ⟨i, j, rfl, ⟨by omega, by omega, by omega, by omega⟩, h2 w2 _ (Ext.refl _) s2 walkR_rng⟩
          · rw [if_neg z] at h2
            exact h2.elim
        | _ => exact h2.elim
    | _ => cases y <;> exact h2.elim
theorem i_enum (hg : Gl X "enumerate") (hm : X.mg "enumerate" = none) (hs : starEach [a] X.env = (false, eval a X.env) :: starEach [] X.env) (ha : EOk X xr W a ma) :
    IOk X xr W (.Tuple elts kk tpos) (.Call (.Name "enumerate" p0) [a] [] pos) (fun ρ => M.bind (ma ρ) fun x => M.bind (walkR x) fun rs => fun S => if isTup S x = true then .stuck else .ok (enumI 0 rs, guardR S x) S) := by
  obtain ⟨ta, pa, qa⟩ := ha
  refine ⟨_, pi_enum hg hm (pa_cons pa pa_nil hs) hs, fun σ w S ρ Q er sr h => qa σ w S ρ _ er sr (h.bind fun w1 x u S1 e1 s1 rx h1 => ?_)⟩
  unfold M.bind at h1
  cases e : walkR x S1 with
  | stuck => simp only [e] at h1; exact h1.elim
  | exc c ns l S' =>
    exfalso
    unfold walkR at e
    split at e <;> cases e
  | ok rs S' =>
    obtain ⟨e2, c, eu, hs⟩ := src s1 rx e
    subst e2
    simp only [e] at h1
    by_cases z : isTup S' x = true
    · rw [if_pos z] at h1
      exact h1.elim
    · rw [if_neg z] at h1
      have z2 : isTup S' x = false := by simpa using z
      rw [z2] at hs
      obtain ⟨vs, q, _⟩ := hs.now s1
      subst eu
      exact ⟨c, vs, rfl, q, h1 w1 _ (Ext.refl _) s1 (walkR_enum hs)⟩
theorem i_zip (hx : xr.Ok) (hg : Gl X "zip") (hm : X.mg "zip" = none) (hs : starEach [a, b] X.env = (false, eval a X.env) :: starEach [b] X.env) (hs2 : starEach [b] X.env = (false, eval b X.env) :: starEach [] X.env) (hpl : (backTo pos (starEach [b] X.env)).any (·.1) = false) (ha : EOk X xr W a ma) (hb : EOk X xr W b mb) :
    IOk X xr W (.Tuple elts kk tpos) (.Call (.Name "zip" p0) [a, b] [] pos) (fun ρ => M.bind (ma ρ) fun x => M.bind (mb ρ) fun y => M.bind (walkR x) fun rs => M.bind (walkR y) fun qs => fun S => .ok (zipI rs qs, guardR S x ++ guardR S y) S) := by
  obtain ⟨ta, pa, qa⟩ := ha
  obtain ⟨tb, pb, qb⟩ := hb
  refine ⟨_, pi_zipB hg hm (pa_cons pa (pa_cons pb pa_nil hs2) hs) hs hpl, fun σ w S ρ Q er sr h => qa σ w S ρ _ er sr (h.bind fun w1 x u S1 e1 s1 rx h1 => qb σ w1 S1 ρ _ (er.ext hx e1) s1 (h1.bind fun w2 y v S2 e2 s2 ry h2 => ?_))⟩
  have rx := rx.ext e2
  unfold M.bind at h2
  cases e : walkR x S2 with
  | stuck => simp only [e] at h2; exact h2.elim
  | exc c ns l S' =>
    exfalso
    unfold walkR at e
    split at e <;> cases e
  | ok rs S' =>
    obtain ⟨e3, c, eu, hs⟩ := src s2 rx e
    subst e3
    simp only [e] at h2
    cases e4 : walkR y S' with
    | stuck => simp only [e4] at h2; exact h2.elim
    | exc c ns l S' =>
      exfalso
      unfold walkR at e4
      split at e4 <;> cases e4
    | ok qs S'' =>
      obtain ⟨e5, d, ev, ht⟩ := src s2 ry e4
      subst e5
      simp only [e4] at h2
      obtain ⟨vs, q, _⟩ := hs.now s2
      obtain ⟨us, q2, _⟩ := ht.now s2
      subst eu ev
      exact ⟨_, _, c, d, vs, us, rfl, q, q2, h2 w2 _ (Ext.refl _) s2 (walkR_zip hs ht)⟩
end
/-! ### targets -/
def IT.ix : IT → List Nat
  | .one i _ _ => [i]
  | .many l _ _ => l.map (·.1)
def gNames : List (Nat × Str × Pos) → TGs
  | [] => gNil
  | q :: l => gCons (gName q.1) (gNames l)
def gT (K : PySem.W.Frag) : IT → TG
  | .one i _ _ => gName i
  | .many l _ _ => gTup K l.length (gNames l)
theorem aeach (env : PySem.Env) : ∀ l : List (Nat × Str × Pos), (assignEach (l.map fun q => Expr.Name q.2.1 q.2.2) env).length = l.length ∧ (assignEach (l.map fun q => Expr.Name q.2.1 q.2.2) env).findIdx? (·.1) = none
  | [] => ⟨rfl, rfl⟩
  | q :: l => by
    obtain ⟨h1, h2⟩ := aeach env l
    have e : assignEach ((q :: l).map fun q => Expr.Name q.2.1 q.2.2) env = (false, assign (.Name q.2.1 q.2.2) env) :: assignEach (l.map fun q => Expr.Name q.2.1 q.2.2) env := rfl
    rw [e]
    refine ⟨by rw [List.length_cons, h1]; rfl, ?_⟩
    rw [List.findIdx?_cons, h2]
    rfl
/-- the names of a target can be stored -/
def NmOk (X : Cx) (i : Nat) (x : Str) : Prop := X.N[i]? = some x ∧ Loc X.env.scope x ∧ (X.fn x = true ∨ X.env.scope.names.lookup x = some .local)
def ITOk (X : Cx) : IT → Prop
  | .one i x _ => NmOk X i x
  | .many l _ _ => X.calm = true ∧ ∀ q ∈ l, NmOk X q.1 q.2.1
section
variable {X : Cx} {xr : XR}
theorem pgs_names (hN : X.N.Nodup) : ∀ l : List (Nat × Str × Pos), (∀ q ∈ l, NmOk X q.1 q.2.1) → PGs X (l.map fun q => Expr.Name q.2.1 q.2.2) (gNames l)
  | [], _ => pgs_nil
  | q :: l, h => by
    obtain ⟨h1, h2, h3⟩ := h q List.mem_cons_self
    exact pgs_cons (pg_name hN h1 h2 h3) (pgs_names hN l fun p hp => h p (List.mem_cons_of_mem _ hp)) rfl
theorem pg_T (hN : X.N.Nodup) : ∀ t : IT, ITOk X t → PG X t.e (gT X.K t)
  | .one i x p, h => pg_name hN h.1 h.2.1 h.2.2
  | .many l k p, h => pg_tup h.1 (pgs_names hN l h.2) (aeach X.env l).1 (aeach X.env l).2
theorem wipe_none {σ : L2.St} {i : Nat} : ∀ {vs : List Nat}, wipe (σ.set i none) vs = (wipe σ vs).set i none
  | [] => rfl
  | v :: vs => by
    show (wipe (σ.set i none) vs).set v none = ((wipe σ vs).set v none).set i none
    rw [wipe_none]
    by_cases h : i = v
    · rw [h]
    · rw [List.set_comm _ _ h]
theorem wipe_get {σ : L2.St} {i j : Nat} {x : Option V} : ∀ {vs : List Nat}, i ∈ vs → wipe (σ.set i x) vs = wipe σ vs
  | v :: vs, h => by
    by_cases q : i ∈ vs
    · show (wipe (σ.set i x) vs).set v none = (wipe σ vs).set v none
      rw [wipe_get (j := j) q]
    · have e : i = v := by
        rcases List.mem_cons.mp h with z | z
        · exact z
        · exact absurd z q
      subst e
      have out : ∀ (us : List Nat), i ∉ us → wipe (σ.set i x) us = (wipe σ us).set i x := by
        intro us
        induction us with
        | nil => intro _; rfl
        | cons u us ih =>
          intro hu
          show (wipe (σ.set i x) us).set u none = ((wipe σ us).set u none).set i x
          rw [ih fun z => hu (List.mem_cons_of_mem _ z), List.set_comm _ _ fun z => hu (by rw [z]; exact List.mem_cons_self)]
      show (wipe (σ.set i x) vs).set i none = (wipe σ vs).set i none
      rw [out vs q, List.set_set]
theorem wipe_wipe {σ : L2.St} {vs : List Nat} : ∀ {us : List Nat}, (∀ i ∈ us, i ∈ vs) → wipe (wipe σ us) vs = wipe σ vs
  | [], _ => rfl
  | u :: us, h => by
    show wipe ((wipe σ us).set u none) vs = _
    rw [wipe_get (j := 0) (h u List.mem_cons_self)]
    exact wipe_wipe fun i hi => h i (List.mem_cons_of_mem _ hi)
theorem g_names {K : PySem.W.Frag} {w : Wd} : ∀ {l : List (Nat × Str × Pos)} {rs : List R} {ρ ρ' : MP.Env} {vs : List V} {σ : L2.St} {Q : L2.St → Hp → Prop}, setM l rs ρ = some ρ' → Rels K w rs vs → EnvR K xr w σ ρ →
    (∀ σ', EnvR K xr w σ' ρ' → (∀ us, (∀ i ∈ l.map (·.1), i ∈ us) → wipe σ' us = wipe σ us) → Q σ' w.H) → gNames l vs σ w.H Q ∧ vs.length = l.length
  | [], [], ρ, ρ', vs, σ, Q, h, r, er, k => by
    cases (show some ρ = some ρ' from h)
    have e : vs = [] := r
    subst e
    exact ⟨⟨rfl, k σ er fun us _ => rfl⟩, rfl⟩
  | [], r :: rs, ρ, ρ', vs, σ, Q, h, _, er, k => by cases h
  | q :: l, [], ρ, ρ', vs, σ, Q, h, _, er, k => by cases h
  | q :: l, r :: rs, ρ, ρ', vs, σ, Q, h, ⟨v, vr, e, h1, h2⟩, er, k => by
    subst e
    have er2 := er.set (i := q.1) h1.toX
    obtain ⟨g, hl⟩ := g_names (l := l) (rs := rs) (Q := Q) (show setM l rs (ρ.set q.1 (some r)) = some ρ' from h) h2 er2 fun σ' e3 hw => k σ' e3 fun us hu => by
      rw [hw us fun i hi => hu i (List.mem_cons_of_mem _ hi)]
      exact wipe_get (j := 0) (hu q.1 List.mem_cons_self)
    exact ⟨⟨v, vr, rfl, g⟩, by rw [List.length_cons, hl]; rfl⟩
theorem g_ok {K : PySem.W.Frag} {w : Wd} {S : Store} {t : IT} {x : Itm} {ρ ρ' : MP.Env} {v : V} {σ : L2.St} {Q : L2.St → Hp → Prop} (hb : bindT t x ρ S = some ρ') (er : EnvR K xr w σ ρ) (sr : SR K w S) (hi : ItmR K w x v)
    (k : ∀ σ', EnvR K xr w σ' ρ' → (∀ us, (∀ i ∈ t.ix, i ∈ us) → wipe σ' us = wipe σ us) → Q σ' w.H) : gT K t v σ w.H Q := by
  cases t with
  | one i y p =>
    cases x with
    | tup rs => cases hb
    | one r =>
      cases (show some (ρ.set i (some r)) = some ρ' from hb)
      exact k _ (er.set (Rel.toX hi)) fun us hu => wipe_get (j := 0) (hu i List.mem_cons_self)
  | many l kk p =>
    cases x with
    | tup rs =>
      obtain ⟨T, vs, e, hT, hr⟩ := hi
      obtain ⟨g, hl⟩ := g_names (Q := Q) (show setM l rs ρ = some ρ' from hb) hr er k
      exact ⟨T, vs, e, .of hT, hl, g⟩
    | one r =>
      cases r with
      | exc c ns l => cases hb
      | dat d =>
        cases d with
        | tup ds =>
          obtain ⟨T, vs, e, _, hT, _, hr⟩ := hi
          obtain ⟨g, hl⟩ := g_names (Q := Q) (show setM l (ds.map .dat) ρ = some ρ' from hb) hr.dat er k
          exact ⟨T, vs, e, .of hT, hl, g⟩
        | _ => cases hb
      | own j =>
        obtain ⟨hj, e⟩ := hi
        obtain ⟨c, hc, hr⟩ := sr.get hj
        unfold bindT at hb
        cases c with
        | lst rs => simp only [hc] at hb; cases hb
        | obj c ns rs => simp only [hc] at hb; cases hb
        | tup rs =>
          simp only [hc] at hb
          obtain ⟨vs, hT, _, hr⟩ := hr
          obtain ⟨g, hl⟩ := g_names (Q := Q) hb hr er k
          exact ⟨w.p j, vs, e, .of hT, hl, g⟩
end
end MP
set_option Elab.async false
set_option linter.all false
set_option maxRecDepth 100000
set_option maxHeartbeats 4000000
/-! MPComp: comprehensions. -/
namespace MP
open PySem PySem.Spec PyProof.Rows L2
/-! ### readings that do not hang on the context -/
def rdE (K : PySem.W.Frag) (xr : XR) (W : WX) (m : MP.Env → M R) : TE := fun σ H Q => ∃ w S ρ, w.H = H ∧ EnvR K xr w σ ρ ∧ SR K w S ∧ Hop K (Rel K) (WE W σ) w Q (m ρ S)
def rdT (K : PySem.W.Frag) (xr : XR) (W : WX) (m : MP.Env → M Bool) : TT := fun σ H Q => ∃ w S ρ, w.H = H ∧ EnvR K xr w σ ρ ∧ SR K w S ∧ Hop K (fun _ b v => b = v) (WE W σ) w Q (m ρ S)
def rdI (K : PySem.W.Frag) (xr : XR) (W : WX) (m : MP.Env → M (List Itm × Gd)) : TI := fun σ H Q => ∃ w S ρ, w.H = H ∧ EnvR K xr w σ ρ ∧ SR K w S ∧ Hop K (fun w a J => WalkR K w J a.1 a.2) (WE W σ) w Q (m ρ S)
section
variable {X : Cx} {xr : XR} {W : WX} {e tg iter : Expr} {ifs : List Expr} {m : MP.Env → M R} {mt : MP.Env → M Bool} {mi : MP.Env → M (List Itm × Gd)}
theorem EOk.rd (h : EOk X xr W e m) : PE X e (rdE X.K xr W m) := by
  obtain ⟨t, p, q⟩ := h
  exact ⟨fun pins s σ H Q I ⟨w, S, ρ, e, er, sr, h⟩ => p.run pins s σ H Q I (e ▸ q σ w S ρ Q er sr h)⟩
theorem TOk.rd (h : TOk X xr W e mt) : PT X e (rdT X.K xr W mt) := by
  obtain ⟨t, p, q⟩ := h
  exact ⟨fun pins s σ H Q I ⟨w, S, ρ, e, er, sr, h⟩ => p.run pins s σ H Q I (e ▸ q σ w S ρ Q er sr h)⟩
theorem IOk.rd (h : IOk X xr W tg iter mi) : PI X tg iter (rdI X.K xr W mi) := by
  obtain ⟨t, p, q⟩ := h
  exact ⟨fun pins s σ H Q I ⟨w, S, ρ, e, er, sr, h⟩ => p.run pins s σ H Q I (e ▸ q σ w S ρ Q er sr h)⟩
/-- the ifs of a comprehension -/
def TsOk (X : Cx) (xr : XR) (W : WX) (ifs : List Expr) (m : MP.Env → M Bool) : Prop := PTs X ifs (rdT X.K xr W m)
theorem ts_nil : TsOk X xr W [] (fun _ => M.pure true) := ⟨fun pins s σ H Q I ⟨w, S, ρ, e, er, sr, h⟩ => pts_nil.run pins s σ H Q I (e ▸ h w true (Ext.refl _) sr rfl)⟩
theorem ts_one (h : TOk X xr W e mt) : TsOk X xr W [e] mt := pts_one h.rd
end
abbrev W0 : WX := fun _ _ _ _ => False
theorem takes0 {X : Cx} : L2N.Takes X W0 := fun u s' ⟨_, _, _, _, _, _, _, _, _, _, _, _, _, _, _, _, z⟩ => z.elim
/-! ### a loop -/
theorem lp {J : It} {n : Nat} {G : Hp → Prop} {Y : Nat → Hp → V → Hp → Prop} (w : Walk J n G Y) {body : V → Hp → (Hp → Prop) → Prop} {Qd : Hp → Prop} {H0 : Hp} (Pv : Nat → Hp → Prop) (h0 : Pv 0 H0) (hG : ∀ i H, i ≤ n → Pv i H → G H)
    (hs : ∀ i x H H', i < n → Pv i H → Y i H x H' → body x H' (Pv (i + 1))) (hd : ∀ H, Pv n H → Qd H) :
    ∃ W : Nat → Nat → Hp → Prop, (∃ m, W 0 m H0) ∧ ∀ i m H, W i m H → (J.stop i H ∧ Qd H) ∨ (J.go i H ∧ ∃ Nx : Hp → Prop, (∀ H', Nx H' → ∃ m', m' < m ∧ W (i + 1) m' H') ∧ ∀ x H', J.yld i H x H' → body x H' Nx) := by
  refine ⟨fun i m H => m = n - i ∧ i ≤ n ∧ Pv i H, ⟨n, by simp, Nat.zero_le _, h0⟩, ?_⟩
  rintro i m H ⟨rfl, hi, p⟩
  have q := hG i H hi p
  by_cases hlt : i < n
  · exact .inr ⟨w.goes i H hlt q, Pv (i + 1), fun H' p' => ⟨n - (i + 1), by omega, rfl, hlt, p'⟩, fun x H' y => hs i x H H' hlt p (w.yields i H x H' hlt q y)⟩
  · have e : i = n := by omega
    subst e
    exact .inl ⟨w.stops H q, hd H p⟩
/-! ### results without exceptions -/
def Res.Sure {α : Type} (r : Res α) : Prop := ∃ a S, r = .ok a S
theorem noX_sure {α : Type} {m : M α} {S : Store} : (∃ a S', M.noX m S = .ok a S' ∧ m S = .ok a S') ∨ M.noX m S = .stuck := by
  unfold M.noX
  cases m S with
  | ok a S' => exact .inl ⟨a, S', rfl, rfl⟩
  | exc c ns l S' => exact .inr rfl
  | stuck => exact .inr rfl
theorem bind_ok {α β : Type} {m : M α} {f : α → M β} {S S' : Store} {b : β} (h : M.bind m f S = .ok b S') : ∃ a S1, m S = .ok a S1 ∧ f a S1 = .ok b S' := by
  unfold M.bind at h
  cases e : m S with
  | ok a S1 => rw [e] at h; exact ⟨a, S1, rfl, h⟩
  | exc c ns l S1 => rw [e] at h; cases h
  | stuck => rw [e] at h; cases h
theorem bind_at {α β : Type} {m : M α} {f : α → M β} {S S1 : Store} {a : α} (h : m S = .ok a S1) : M.bind m f S = f a S1 := by
  unfold M.bind
  rw [h]
/-- turns that let no exception out -/
def NoExc {α β : Type} (f : α → M β) : Prop := ∀ x S, (∃ a S', f x S = .ok a S') ∨ f x S = .stuck
theorem turn_noexc {t : IT} {g : Gd} {c : MP.Env → M Bool} {el : MP.Env → M (List R)} {ρ : MP.Env} : NoExc (lcTurn t g c el ρ) := fun x S => by
  unfold lcTurn
  by_cases h : gdOk S g = true
  · simp only [if_pos h]
    cases e : bindT t x ρ S with
    | none => exact .inr rfl
    | some ρ' =>
      rcases noX_sure (m := M.bind (c ρ') fun b => if b = true then el ρ' else M.pure []) (S := S) with ⟨a, S', h1, _⟩ | h1
      · exact .inl ⟨a, S', h1⟩
      · exact .inr h1
  · exact .inr (by simp only [if_neg h])
theorem loop_noexc {g : Gd} {f : Itm → M (List R)} (hf : NoExc f) : NoExc (lcLoop g f) := fun xs => by
  induction xs with
  | nil =>
    intro S
    by_cases h : gdOk S g = true
    · exact .inl ⟨[], S, by show (if gdOk S g = true then _ else _) = _; rw [if_pos h]⟩
    · exact .inr (by show (if gdOk S g = true then _ else _) = _; rw [if_neg h])
  | cons x xs ih =>
    intro S
    rcases hf x S with ⟨a, S1, h1⟩ | h1
    · rcases ih S1 with ⟨b, S2, h2⟩ | h2
      · exact .inl ⟨a ++ b, S2, by show M.bind _ _ S = _; rw [bind_at h1, bind_at h2]; rfl⟩
      · refine .inr ?_
        show M.bind _ _ S = _
        rw [bind_at h1]
        unfold M.bind
        rw [h2]
    · refine .inr ?_
      show M.bind _ _ S = _
      unfold M.bind
      rw [h1]
theorem hop_noexc {α β : Type} {K : PySem.W.Frag} {rel : Wd → R → V → Prop} {E : XK} {w : Wd} {Q : VK} {f : α → M β} {k : β → M R} {x : α} {S : Store} (hf : NoExc f) (h : Hop K rel E w Q (M.bind (f x) k S)) : ∃ a S', f x S = .ok a S' ∧ Hop K rel E w Q (k a S') := by
  rcases hf x S with ⟨a, S1, h1⟩ | h1
  · rw [bind_at h1] at h
    exact ⟨a, S1, h1, h⟩
  · unfold M.bind at h
    rw [h1] at h
    exact h.elim
/-! ### the list that grows -/
structure Acc (K : PySem.W.Frag) (D : Addr) (w1 w2 : Wd) (S2 : Store) (out : List R) : Prop where
  x : Ext w1 w2
  h : D ∈ w2.hid
  s : SR K w2 S2
  o : ∃ vs, w2.H D = some (.lst vs) ∧ Rels K w2 out vs
theorem Acc.ext {K : PySem.W.Frag} {D : Addr} {w1 w2 w3 : Wd} {S2 S3 : Store} {out : List R} (a : Acc K D w1 w2 S2 out) (x : Ext w2 w3) (s : SR K w3 S3) : Acc K D w1 w3 S3 out := by
  obtain ⟨vs, h1, h2⟩ := a.o
  exact ⟨a.x.trans x, (x.hk _ a.h).1, s, vs, (x.hk _ a.h).2.trans h1, h2.ext x⟩
section
variable {K : PySem.W.Frag} {D : Addr} {w1 w2 : Wd} {S1 S2 : Store} {out : List R} {r : R} {y : V}
theorem Acc.add (a : Acc K D w1 w2 S2 out) (s1 : SR K w1 S1) (hD : w1.H D = none) (hr : Rel K w2 r y) (hl : out.length < sizeLine) : ∃ acc, w2.H D = some (.lst acc) ∧ acc.length < sizeLine ∧ ∃ w3, w3.H = upd w2.H D (.lst (acc ++ [y])) ∧ Acc K D w1 w3 S2 (out ++ [r]) ∧ Mono w2 w3 := by
  obtain ⟨vs, h1, h2⟩ := a.o
  refine ⟨vs, h1, by rw [← h2.length]; exact hl, w2.poke D (.lst (vs ++ [y])), rfl, ⟨a.x.poke (fun b hb => (s1.hid b hb).1) hD, a.h, a.s.poke a.h, vs ++ [y], upd_same, ?_⟩, mono_poke a.h⟩
  exact (h2.mono (mono_poke a.h)).append (.one (hr.mono (mono_poke a.h)))
theorem Acc.fin {m : Bool} {E : XK} {Q : VK} (a : Acc K D w1 w2 S2 out) (s1 : SR K w1 S1) (hD : w1.H D = none) (h : Hop K (Rel K) E w1 Q (lcOut m out S2)) : Q (.ref D) w2.H := by
  obtain ⟨vs, h1, h2⟩ := a.o
  unfold lcOut at h
  by_cases hz : small out.length = true
  · rw [if_pos hz] at h
    have hl : vs.length ≤ sizeLine := by
      have l1 := line_small hz
      have l2 := line_eq
      rw [← h2.length]
      omega
    have s0 : ∀ b, b ∈ w1.hid → w1.H b ≠ none := fun b hb => (s1.hid b hb).1
    have viaOwn : Hop K (Rel K) E w1 Q (.ok (.own S2.length) (S2 ++ [.lst out])) → Q (.ref D) w2.H := fun h => by
      have hc : CellR K (w2.own D) D (.lst out) := ⟨vs, h1, hl, h2.mono (mono_own a.h)⟩
      exact h (w2.own D) (.ref D) (a.x.own s0 hD) (a.s.own a.h hc) ⟨by rw [← a.s.n]; exact Nat.lt_succ_self _, by rw [← a.s.n, own_p]⟩
    unfold mkL at h
    cases m with
    | true => exact viaOwn h
    | false =>
      cases ed : datsR out with
      | none => simp only [ed] at h; exact viaOwn h
      | some ds =>
        simp only [ed] at h
        exact h (w2.show D) (.ref D) (a.x.show s0 hD) a.s.show ⟨D, vs, rfl, nlive_show a.s a.h, h1, hl, Reps.imp mono_show.keep _ _ (Rels.dats ed h2)⟩
  · rw [if_neg hz] at h
    exact h.elim
end
theorem small_of {m : Bool} {K : PySem.W.Frag} {rel : Wd → R → V → Prop} {E : XK} {w : Wd} {Q : VK} {l : List R} {S : Store} (h : Hop K rel E w Q (lcOut m l S)) : l.length ≤ 1000000 := by
  unfold lcOut at h
  by_cases hz : small l.length = true
  · exact line_small hz
  · rw [if_neg hz] at h
    exact h.elim
/-- one turn of a comprehension -/
theorem turn_at {t : IT} {g : Gd} {c : MP.Env → M Bool} {el : MP.Env → M (List R)} {ρ : MP.Env} {x : Itm} {S S' : Store} {a : List R} (h : lcTurn t g c el ρ x S = .ok a S') :
    gdOk S g = true ∧ ∃ ρ', bindT t x ρ S = some ρ' ∧ ∃ b S1, c ρ' S = .ok b S1 ∧ ((b = true ∧ el ρ' S1 = .ok a S') ∨ (b = false ∧ a = [] ∧ S' = S1)) := by
  unfold lcTurn at h
  by_cases z : gdOk S g = true
  · simp only [if_pos z] at h
    refine ⟨z, ?_⟩
    cases e : bindT t x ρ S with
    | none => rw [e] at h; cases h
    | some ρ' =>
      simp only [e] at h
      refine ⟨ρ', rfl, ?_⟩
      rcases noX_sure (m := M.bind (c ρ') fun b => if b = true then el ρ' else M.pure []) (S := S) with ⟨a', S1, h1, h2⟩ | h1
      · rw [h1] at h
        cases h
        obtain ⟨b, S1, h3, h4⟩ := bind_ok h2
        cases b with
        | true => exact ⟨true, S1, h3, .inl ⟨rfl, h4⟩⟩
        | false =>
          cases (show Res.ok [] S1 = Res.ok a S' from h4)
          exact ⟨false, S', h3, .inr ⟨rfl, rfl, rfl⟩⟩
      · rw [h1] at h
        cases h
  · rw [if_neg z] at h
    cases h
theorem loop_nil {g : Gd} {f : Itm → M (List R)} {S S' : Store} {a : List R} (h : lcLoop g f [] S = .ok a S') : gdOk S g = true ∧ a = [] ∧ S' = S := by
  by_cases z : gdOk S g = true
  · have h : (if gdOk S g = true then Res.ok ([] : List R) S else .stuck) = .ok a S' := h
    rw [if_pos z] at h
    cases h
    exact ⟨z, rfl, rfl⟩
  · have h : (if gdOk S g = true then Res.ok ([] : List R) S else .stuck) = .ok a S' := h
    rw [if_neg z] at h
    cases h
/-- the rest of a loop with what is behind it -/
theorem loop_step {α : Type} {g : Gd} {f : Itm → M (List R)} {x : Itm} {xs : List Itm} {out : List R} {k : List R → M α} {S S1 : Store} {a : List R} (h1 : f x S = .ok a S1) :
    M.bind (lcLoop g f (x :: xs)) (fun b => k (out ++ b)) S = M.bind (lcLoop g f xs) (fun b => k ((out ++ a) ++ b)) S1 := by
  show M.bind (M.bind (f x) fun a => M.bind (lcLoop g f xs) fun b => M.pure (a ++ b)) _ S = _
  rw [bind_assoc, bind_at h1, bind_assoc]
  have e : (fun b => M.bind (M.pure (a ++ b)) fun b => k (out ++ b)) = fun b => k ((out ++ a) ++ b) := by
    funext b
    rw [pure_bind, List.append_assoc]
  rw [e]
section
variable {X : Cx} {xr : XR} {W : WX} {elt iter : Expr} {ifs : List Expr} {sc : Scope} {own : List (Str × Nat)} {pos : Pos} {t : IT} {me : MP.Env → M R} {mc : MP.Env → M Bool} {mi : MP.Env → M (List Itm × Gd)} {m : Bool}
theorem lc_rd (hx : xr.Ok) (hown : ∀ i ∈ t.ix, i ∈ own.map (·.2)) : ∀ σ w S ρ Q, EnvR X.K xr w σ ρ → SR X.K w S →
    Hop X.K (Rel X.K) (WE W σ) w Q (M.bind (mi ρ) (fun q => M.bind (lcLoop q.2 (lcTurn t q.2 mc (fun ρ' => M.bind (me ρ') fun r => M.pure [r]) (wipeE ρ (own.map (·.2)))) q.1) (lcOut m)) S) →
    tLc (rdI X.K xr W mi) (gT X.K t) (rdT X.K xr W0 mc) (rdE X.K xr W0 me) (own.map (·.2)) σ w.H Q := by
  intro σ w S ρ Q er sr h
  refine ⟨w, S, ρ, rfl, er, sr, h.bind fun w1 a J S1 e1 s1 wk h1 D hD => ?_⟩
  obtain ⟨xs, gd⟩ := a
  obtain ⟨G, Y, hw, hG, hY⟩ := wk
  dsimp only at h1 hw hG hY
  have hf := turn_noexc (t := t) (g := gd) (c := mc) (el := fun ρ' => M.bind (me ρ') fun r => M.pure [r]) (ρ := wipeE ρ (own.map (·.2)))
  generalize hF : lcTurn t gd mc (fun ρ' => M.bind (me ρ') fun r => M.pure [r]) (wipeE ρ (own.map (·.2))) = F at h1 hf
  refine lp hw (fun i H => ∃ w2 S2 out, w2.H = H ∧ Acc X.K D w1 w2 S2 out ∧ Hop X.K (Rel X.K) (WE W σ) w1 Q (M.bind (lcLoop gd F (xs.drop i)) (fun b => lcOut m (out ++ b)) S2)) ?_ ?_ ?_ ?_
  · exact ⟨w1.hide D (.lst []), S1, [], rfl, ⟨ext_hide s1 hD, List.mem_cons_self, s1.hide hD, [], upd_same, rfl⟩, h1⟩
  · intro i H hi ⟨w2, S2, out, eH, ac, h2⟩
    subst eH
    refine hG w2 S2 ac.x.mono ac.s ?_
    obtain ⟨a, S', h3, _⟩ := hop_noexc (loop_noexc hf) h2
    by_cases hlt : i < xs.length
    · rw [List.drop_eq_getElem_cons hlt] at h3
      obtain ⟨a', S3, h4, _⟩ := bind_ok (show M.bind _ _ S2 = _ from h3)
      rw [← hF] at h4
      exact (turn_at h4).1
    · rw [List.drop_eq_nil_of_le (by omega)] at h3
      exact (loop_nil h3).1
  · intro i v H H' hi ⟨w2, S2, out, eH, ac, h2⟩ hy
    subst eH
    rw [List.drop_eq_getElem_cons hi] at h2
    obtain ⟨a, S', h3, _⟩ := hop_noexc (loop_noexc hf) h2
    obtain ⟨a', S3, h4, _⟩ := bind_ok (show M.bind _ _ S2 = _ from h3)
    rw [loop_step h4] at h2
    obtain ⟨b, S'', h5, h6⟩ := hop_noexc (loop_noexc hf) h2
    have hsz := small_of h6
    rw [← hF] at h4
    obtain ⟨g2, ρ', hb, c, S4, hc, hor⟩ := turn_at h4
    obtain ⟨w3, eH, x3, s3, it⟩ := hY i xs[i] v H' w2 S2 ac.x.mono ac.s g2 (List.getElem?_eq_getElem hi) hy
    subst eH
    have er3 : EnvR X.K xr w3 (wipe σ (own.map (·.2))) (wipeE ρ (own.map (·.2))) := (((er.ext hx e1).ext hx ac.x).ext hx x3).wipe _
    refine g_ok hb er3 s3 it fun σ' er4 hw' => ⟨?_, ?_⟩
    · rw [hw' _ hown, wipe_wipe fun i hi => hi]
    · refine ⟨w3, S2, ρ', rfl, er4, s3, ?_⟩
      rw [hc]
      intro w4 b4 x4 s4 e4
      have e4' : c = b4 := e4
      subst e4'
      have ac4 := ac.ext (x3.trans x4) s4
      rcases hor with ⟨e5, hel⟩ | ⟨e5, e6, e7⟩
      · subst e5
        rw [if_pos rfl]
        obtain ⟨r, S5, hr, e8⟩ := bind_ok hel
        cases (show Res.ok [r] S5 = Res.ok a' S3 from e8)
        refine ⟨w4, S4, ρ', rfl, er4.ext hx x4, s4, ?_⟩
        rw [hr]
        intro w5 y x5 s5 ry
        obtain ⟨acc, q1, q2, w6, e6, ac6, _⟩ := (ac4.ext x5 s5).add s1 hD ry (by
          have l2 := line_eq
          rw [List.length_append, List.length_append] at hsz
          simp at hsz
          omega)
        exact ⟨acc, q1, q2, w6, S3, out ++ [r], e6, ac6, h2⟩
      · subst e5 e6 e7
        rw [if_neg Bool.false_ne_true]
        rw [List.append_nil] at h2
        exact ⟨w4, S3, out, rfl, ac4, h2⟩
  · intro H ⟨w2, S2, out, eH, ac, h2⟩
    subst eH
    rw [List.drop_eq_nil_of_le (Nat.le_refl _)] at h2
    obtain ⟨a, S', h3, h4⟩ := hop_noexc (loop_noexc hf) h2
    obtain ⟨_, e2, e3⟩ := loop_nil h3
    subst e2 e3
    rw [List.append_nil] at h4
    exact ac.fin s1 hD h4
abbrev Blks (X : Cx) (sc : Scope) (P : Cx → Prop) : Prop := ∀ (s : Shared) (H : Hp) (C : Addr) (cl : List (Str × Addr)) (fp : List Addr), P (X.blk s H sc (compEnvC sc cl C X.env) fp)
theorem e_lc (hx : xr.Ok) (hc : X.calm = true) (hN : X.N.Nodup) (hi : IOk X xr W t.e iter mi) (ok : BlkOk X.N X.env.scope sc own) (hown : ∀ i ∈ t.ix, i ∈ own.map (·.2)) (hg : Blks X sc fun Y => ITOk Y t)
    (ht : Blks X sc fun Y => TsOk Y xr W0 ifs mc) (he : Blks X sc fun Y => EOk Y xr W0 elt me) (hs : ∀ x, foldedSetIterable iter X.env x = pure x) :
    EOk X xr W (.ListComp elt [⟨t.e, iter, ifs, 0⟩] sc pos) (fun ρ => M.bind (mi ρ) fun q => M.bind (lcLoop q.2 (lcTurn t q.2 mc (fun ρ' => M.bind (me ρ') fun r => M.pure [r]) (wipeE ρ (own.map (·.2)))) q.1) (lcOut m)) :=
  ⟨_, pe_lc (tt := rdT X.K xr W0 mc) (te := rdE X.K xr W0 me) hc hN hi.rd ok (fun s H C cl fp => pg_T (X := X.blk s H sc (compEnvC sc cl C X.env) fp) hN t (hg s H C cl fp)) (fun s H C cl fp => ht s H C cl fp) (fun s H C cl fp => (he s H C cl fp).rd) hs, lc_rd hx hown⟩
variable {elt2 iter2 : Expr} {ifs2 : List Expr} {t2 : IT} {vs2 : List Nat} {mc2 : MP.Env → M Bool} {mi2 : MP.Env → M (List Itm × Gd)}
theorem lc2_rd (hx : xr.Ok) (hown : ∀ i ∈ t.ix, i ∈ own.map (·.2)) (hown2 : ∀ i ∈ t2.ix, i ∈ vs2) : ∀ σ w S ρ Q, EnvR X.K xr w σ ρ → SR X.K w S →
    Hop X.K (Rel X.K) (WE W σ) w Q (M.bind (mi ρ) (fun q => M.bind (lcLoop q.2 (lcTurn t q.2 mc (fun ρ' => M.bind (mi2 ρ') fun q2 =>
      lcLoop q2.2 (lcTurn t2 q2.2 mc2 (fun ρ2 => M.bind (me ρ2) fun r => M.pure [r]) (wipeE ρ' vs2)) q2.1) (wipeE ρ (own.map (·.2)))) q.1) (lcOut m)) S) →
    tLc2 (rdI X.K xr W mi) (gT X.K t) (rdT X.K xr W0 mc) (rdI X.K xr W0 mi2) (gT X.K t2) (rdT X.K xr W0 mc2) (rdE X.K xr W0 me) (own.map (·.2)) vs2 σ w.H Q := by
  intro σ w S ρ Q er sr h
  refine ⟨w, S, ρ, rfl, er, sr, h.bind fun w1 a J S1 e1 s1 wk h1 D hD => ?_⟩
  obtain ⟨xs, gd⟩ := a
  obtain ⟨G, Y, hw, hG, hY⟩ := wk
  dsimp only at h1 hw hG hY
  have hf := turn_noexc (t := t) (g := gd) (c := mc) (el := fun ρ' => M.bind (mi2 ρ') fun q2 => lcLoop q2.2 (lcTurn t2 q2.2 mc2 (fun ρ2 => M.bind (me ρ2) fun r => M.pure [r]) (wipeE ρ' vs2)) q2.1) (ρ := wipeE ρ (own.map (·.2)))
  generalize hF : lcTurn t gd mc (fun ρ' => M.bind (mi2 ρ') fun q2 => lcLoop q2.2 (lcTurn t2 q2.2 mc2 (fun ρ2 => M.bind (me ρ2) fun r => M.pure [r]) (wipeE ρ' vs2)) q2.1) (wipeE ρ (own.map (·.2))) = F at h1 hf
  refine lp hw (fun i H => ∃ w2 S2 out, w2.H = H ∧ Acc X.K D w1 w2 S2 out ∧ Hop X.K (Rel X.K) (WE W σ) w1 Q (M.bind (lcLoop gd F (xs.drop i)) (fun b => lcOut m (out ++ b)) S2)) ?_ ?_ ?_ ?_
  · exact ⟨w1.hide D (.lst []), S1, [], rfl, ⟨ext_hide s1 hD, List.mem_cons_self, s1.hide hD, [], upd_same, rfl⟩, h1⟩
  · intro i H hi ⟨w2, S2, out, eH, ac, h2⟩
    subst eH
    refine hG w2 S2 ac.x.mono ac.s ?_
    obtain ⟨a, S', h3, _⟩ := hop_noexc (loop_noexc hf) h2
    by_cases hlt : i < xs.length
    · rw [List.drop_eq_getElem_cons hlt] at h3
      obtain ⟨a', S3, h4, _⟩ := bind_ok (show M.bind _ _ S2 = _ from h3)
      rw [← hF] at h4
      exact (turn_at h4).1
    · rw [List.drop_eq_nil_of_le (by omega)] at h3
      exact (loop_nil h3).1
  · intro i v H H' hi ⟨w2, S2, out, eH, ac, h2⟩ hy
    subst eH
    rw [List.drop_eq_getElem_cons hi] at h2
    obtain ⟨a, S', h3, _⟩ := hop_noexc (loop_noexc hf) h2
    obtain ⟨a', S3, h4, _⟩ := bind_ok (show M.bind _ _ S2 = _ from h3)
    rw [loop_step h4] at h2
    obtain ⟨b, S'', h5, h6⟩ := hop_noexc (loop_noexc hf) h2
    have hsz := small_of h6
    rw [← hF] at h4
    obtain ⟨g2, ρ', hb, c, S4, hc, hor⟩ := turn_at h4
    obtain ⟨w3, eH, x3, s3, it⟩ := hY i xs[i] v H' w2 S2 ac.x.mono ac.s g2 (List.getElem?_eq_getElem hi) hy
    subst eH
    have er3 : EnvR X.K xr w3 (wipe σ (own.map (·.2))) (wipeE ρ (own.map (·.2))) := (((er.ext hx e1).ext hx ac.x).ext hx x3).wipe _
    refine g_ok hb er3 s3 it fun σ' er4 hw' => ⟨?_, ?_⟩
    · rw [hw' _ hown, wipe_wipe fun i hi => hi]
    · refine ⟨w3, S2, ρ', rfl, er4, s3, ?_⟩
      rw [hc]
      intro w4 b4 x4 s4 e4
      have e4' : c = b4 := e4
      subst e4'
      have ac4 := ac.ext (x3.trans x4) s4
      rcases hor with ⟨e5, hel⟩ | ⟨e5, e6, e7⟩
      · subst e5
        rw [if_pos rfl]
        obtain ⟨q2, S5, hq2, hl2⟩ := bind_ok hel
        obtain ⟨xs2, gd2⟩ := q2
        dsimp only at hl2
        have er4' := er4.ext hx x4
        refine ⟨w4, S4, ρ', rfl, er4', s4, ?_⟩
        rw [hq2]
        intro w5 J5 x5 s5 wk5
        obtain ⟨G5, Y5, hw5, hG5, hY5⟩ := wk5
        dsimp only at hw5 hG5 hY5
        have ac5 := ac4.ext x5 s5
        have er5 := er4'.ext hx x5
        generalize hF2 : lcTurn t2 gd2 mc2 (fun ρ2 => M.bind (me ρ2) fun r => M.pure [r]) (wipeE ρ' vs2) = F2 at hl2
        refine lp hw5 (fun j H => ∃ w6 S6 out6 c6, w6.H = H ∧ Mono w5 w6 ∧ Acc X.K D w1 w6 S6 out6 ∧ lcLoop gd2 F2 (xs2.drop j) S6 = .ok c6 S3 ∧ out6 ++ c6 = out ++ a') ?_ ?_ ?_ ?_
        · exact ⟨w5, S5, out, a', rfl, (Ext.refl _).mono, ac5, hl2, rfl⟩
        · intro j H hj ⟨w6, S6, out6, c6, eH, x6, ac6, hl6, ho6⟩
          subst eH
          refine hG5 w6 S6 x6 ac6.s ?_
          by_cases hlt : j < xs2.length
          · rw [List.drop_eq_getElem_cons hlt] at hl6
            obtain ⟨a7, S7, h7, _⟩ := bind_ok (show M.bind _ _ S6 = _ from hl6)
            rw [← hF2] at h7
            exact (turn_at h7).1
          · rw [List.drop_eq_nil_of_le (by omega)] at hl6
            exact (loop_nil hl6).1
        · intro j v6 H6 H7 hj ⟨w6, S6, out6, c6, eH, x6, ac6, hl6, ho6⟩ hy6
          subst eH
          rw [List.drop_eq_getElem_cons hj] at hl6
          obtain ⟨a7, S7, h7, h8⟩ := bind_ok (show M.bind _ _ S6 = _ from hl6)
          obtain ⟨c7, S8, h9, h10⟩ := bind_ok h8
          cases (show Res.ok (a7 ++ c7) S8 = Res.ok c6 S3 from h10)
          rw [← List.append_assoc] at ho6
          have hz7 : (out6 ++ a7).length ≤ 1000000 := by
            have q := congrArg List.length ho6
            rw [List.length_append] at q
            rw [List.length_append] at hsz
            omega
          rw [← hF2] at h7
          obtain ⟨g7, ρ7, hb7, d7, S9, hc7, hor7⟩ := turn_at h7
          obtain ⟨w7, eH7, x7, s7, it7⟩ := hY5 j xs2[j] v6 H7 w6 S6 x6 ac6.s g7 (List.getElem?_eq_getElem hj) hy6
          subst eH7
          have er7 : EnvR X.K xr w7 (wipe σ' vs2) (wipeE ρ' vs2) := ((er5.mono hx x6).ext hx x7).wipe _
          refine g_ok hb7 er7 s7 it7 fun σ7 er8 hw7 => ⟨?_, ?_⟩
          · rw [hw7 _ hown2, wipe_wipe fun i hi => hi]
          · refine ⟨w7, S6, ρ7, rfl, er8, s7, ?_⟩
            rw [hc7]
            intro w8 b8 x8 s8 e8
            have e8' : d7 = b8 := e8
            subst e8'
            have ac8 := ac6.ext (x7.trans x8) s8
            rcases hor7 with ⟨e9, hel9⟩ | ⟨e9, e10, e11⟩
            · subst e9
              rw [if_pos rfl]
              obtain ⟨r, S10, hr, e12⟩ := bind_ok hel9
              cases (show Res.ok [r] S10 = Res.ok a7 S7 from e12)
              refine ⟨w8, S9, ρ7, rfl, er8.ext hx x8, s8, ?_⟩
              rw [hr]
              intro w9 y x9 s9 ry
              obtain ⟨acc, q1, q2, w10, e13, ac10, m10⟩ := (ac8.ext x9 s9).add s1 hD ry (by
                have l2 := line_eq
                rw [List.length_append] at hz7
                simp at hz7
                omega)
              exact ⟨acc, q1, q2, w10, S7, out6 ++ [r], c7, e13, x6.trans ((x7.trans (x8.trans x9)).mono.trans m10), ac10, h9, ho6⟩
            · subst e9 e10 e11
              rw [if_neg Bool.false_ne_true]
              rw [List.append_nil] at ho6
              exact ⟨w8, S7, out6, c7, rfl, x6.trans (x7.trans x8).mono, ac8, h9, ho6⟩
        · intro H6 ⟨w6, S6, out6, c6, eH, x6, ac6, hl6, ho6⟩
          subst eH
          rw [List.drop_eq_nil_of_le (Nat.le_refl _)] at hl6
          obtain ⟨_, e2, e3⟩ := loop_nil hl6
          subst e2 e3
          rw [List.append_nil] at ho6
          subst ho6
          exact ⟨w6, S3, _, rfl, ac6, h2⟩
      · subst e5 e6 e7
        rw [if_neg Bool.false_ne_true]
        rw [List.append_nil] at h2
        exact ⟨w4, S3, out, rfl, ac4, h2⟩
  · intro H ⟨w2, S2, out, eH, ac, h2⟩
    subst eH
    rw [List.drop_eq_nil_of_le (Nat.le_refl _)] at h2
    obtain ⟨a, S', h3, h4⟩ := hop_noexc (loop_noexc hf) h2
    obtain ⟨_, e2, e3⟩ := loop_nil h3
    subst e2 e3
    rw [List.append_nil] at h4
    exact ac.fin s1 hD h4
end
end MP
set_option Elab.async false
set_option linter.all false
set_option maxRecDepth 100000
set_option maxHeartbeats 4000000
/-! MPStmt: statements. -/
namespace MP
open PySem PySem.Spec PyProof.Rows L2
def HopS (K : PySem.W.Frag) (xr : XR) (W : WX) (w : Wd) (D : Ends) : SRes → Prop
  | .go .next ρ S => ∀ w' σ, Ext w w' → SR K w' S → EnvR K xr w' σ ρ → D.nx σ w'.H
  | .go .brk ρ S => ∀ w' σ, Ext w w' → SR K w' S → EnvR K xr w' σ ρ → D.bk σ w'.H
  | .go .cont ρ S => ∀ w' σ, Ext w w' → SR K w' S → EnvR K xr w' σ ρ → D.ct σ w'.H
  | .go (.ret r) _ S => ∀ w' v, Ext w w' → SR K w' S → Rel K w' r v → D.rt v w'.H
  | .exc c ns l ρ S => ∀ w' σ d, Ext w w' → SR K w' S → EnvR K xr w' σ ρ → ExcD K w' ns l d → W (.ref (He.ga K c)) d σ w'.H
  | .stuck => False
theorem HopS.ext {K : PySem.W.Frag} {xr : XR} {W : WX} {w w1 : Wd} {D : Ends} {r : SRes} (x : Ext w w1) (h : HopS K xr W w D r) : HopS K xr W w1 D r := by
  match r, h with
  | .go .next ρ S, h => exact fun w' σ e s er => h w' σ (x.trans e) s er
  | .go .brk ρ S, h => exact fun w' σ e s er => h w' σ (x.trans e) s er
  | .go .cont ρ S, h => exact fun w' σ e s er => h w' σ (x.trans e) s er
  | .go (.ret q) ρ S, h => exact fun w' v e s er => h w' v (x.trans e) s er
  | .exc c ns l ρ S, h => exact fun w' σ d e s er hd => h w' σ d (x.trans e) s er hd
  | .stuck, h => exact h
def SOk (X : Cx) (xr : XR) (W : WX) (st : Stmt) (f : MP.Env → Store → SRes) : Prop :=
  ∃ t, PS X st t ∧ ∀ σ w S ρ D, EnvR X.K xr w σ ρ → SR X.K w S → HopS X.K xr W w D (f ρ S) → t D σ w.H
def SsOk (X : Cx) (xr : XR) (W : WX) (st : List Stmt) (f : MP.Env → Store → SRes) : Prop :=
  ∃ t, PSs X st t ∧ ∀ σ w S ρ D, EnvR X.K xr w σ ρ → SR X.K w S → HopS X.K xr W w D (f ρ S) → t D σ w.H
def rdS (K : PySem.W.Frag) (xr : XR) (W : WX) (f : MP.Env → Store → SRes) : TS := fun D σ H => ∃ w S ρ, w.H = H ∧ EnvR K xr w σ ρ ∧ SR K w S ∧ HopS K xr W w D (f ρ S)
theorem hopS_of {α β : Type} {K : PySem.W.Frag} {xr : XR} {W : WX} {rel : Wd → α → β → Prop} {w : Wd} {D : Ends} {Q : β → Hp → Prop} {σ : L2.St} {ρ : MP.Env} {r : Res α} {k : α → Store → SRes} (hx : xr.Ok) (er : EnvR K xr w σ ρ) (h : HopS K xr W w D (SRes.of ρ r k))
    (hk : ∀ w1 a v S1, Ext w w1 → SR K w1 S1 → rel w1 a v → HopS K xr W w1 D (k a S1) → Q v w1.H) : Hop K rel (WE W σ) w Q r := by
  cases r with
  | ok a S => exact fun w1 v x s r => hk w1 a v S x s r (HopS.ext x h)
  | exc c ns l S => exact fun w1 d x s hd => h w1 σ d x s (er.ext hx x) hd
  | stuck => exact h
section
variable {X : Cx} {xr : XR} {W : WX} {e o iter tg : Expr} {st : Stmt} {sts body a b : List Stmt} {f g : MP.Env → Store → SRes} {m mo mi : MP.Env → M R} {mt : MP.Env → M Bool} {pos p' ps : Pos}
theorem SsOk.rd (h : SsOk X xr W sts f) : PSs X sts (rdS X.K xr W f) := by
  obtain ⟨t, p, q⟩ := h
  exact ⟨fun pins s σ H D I ⟨w, S, ρ, e, er, sr, h⟩ => p.run pins s σ H D I (e ▸ q σ w S ρ D er sr h)⟩
theorem ss_nil : SsOk X xr W [] (fun ρ S => .go .next ρ S) := ⟨_, pss_nil, fun σ w S ρ D er sr h => h w σ (Ext.refl _) sr er⟩
theorem ss_cons (h1 : SOk X xr W st f) (h2 : SsOk X xr W sts g) : SsOk X xr W (st :: sts) (fun ρ S => match f ρ S with
    | .go .next ρ1 S1 => g ρ1 S1
    | x => x) := by
  obtain ⟨t, p1, q1⟩ := h1
  obtain ⟨u, p2, q2⟩ := h2
  refine ⟨_, pss_cons p1 p2, fun σ w S ρ D er sr h => q1 σ w S ρ _ er sr ?_⟩
  dsimp only at h
  match hf : f ρ S with
  | .go .next ρ1 S1 =>
    rw [hf] at h
    exact fun w' σ' x s er' => q2 σ' w' S1 ρ1 D er' s (HopS.ext x h)
  | .go .brk ρ1 S1 => rw [hf] at h; exact h
  | .go .cont ρ1 S1 => rw [hf] at h; exact h
  | .go (.ret q) ρ1 S1 => rw [hf] at h; exact h
  | .exc c ns l ρ1 S1 => rw [hf] at h; exact h
  | .stuck => rw [hf] at h; exact h
theorem s_pass : SOk X xr W (.Pass pos) (fun ρ S => .go .next ρ S) := ⟨_, ps_pass, fun σ w S ρ D er sr h => h w σ (Ext.refl _) sr er⟩
theorem s_expr (hx : xr.Ok) (hs : swapsWith e none pos.line X.env = pure false) (he : EOk X xr W e m) : SOk X xr W (.Expr e pos) (fun ρ S => SRes.of ρ (m ρ S) fun _ S1 => .go .next ρ S1) := by
  obtain ⟨t, p, q⟩ := he
  exact ⟨_, ps_expr p hs, fun σ w S ρ D er sr h => q σ w S ρ _ er sr (hopS_of hx er h fun w1 r v S1 x s rr h1 => h1 w1 σ (Ext.refl _) s (er.ext hx x))⟩
theorem s_ret (hx : xr.Ok) (he : EOk X xr W e m) : SOk X xr W (.Return (some e) pos) (fun ρ S => SRes.of ρ (m ρ S) fun r S1 => .go (.ret r) ρ S1) := by
  obtain ⟨t, p, q⟩ := he
  exact ⟨_, ps_ret p, fun σ w S ρ D er sr h => q σ w S ρ _ er sr (hopS_of hx er h fun w1 r v S1 x s rr h1 => h1 w1 v (Ext.refl _) s rr)⟩
theorem s_if (hx : xr.Ok) (hc : TOk X xr W e mt) (ha : SsOk X xr W a f) (hb : SsOk X xr W b g) : SOk X xr W (.If e a b pos) (fun ρ S => SRes.of ρ (mt ρ S) fun t S1 => if t = true then f ρ S1 else g ρ S1) := by
  obtain ⟨t, p, q⟩ := hc
  obtain ⟨ta, pa, qa⟩ := ha
  obtain ⟨tb, pb, qb⟩ := hb
  refine ⟨_, ps_if p pa pb, fun σ w S ρ D er sr h => q σ w S ρ _ er sr (hopS_of hx er h fun w1 c v S1 x s rr h1 => ?_)⟩
  have e : c = v := rr
  subst e
  cases c with
  | true => exact qa σ w1 S1 ρ D (er.ext hx x) s h1
  | false => exact qb σ w1 S1 ρ D (er.ext hx x) s h1
/-- a target is set: the reading of the value, the rule -/
theorem s_set {t : IT} {te : TE} (hx : xr.Ok) (hp : PS X st (tAsg te (gT X.K t))) (hq : ∀ σ w S ρ Q, EnvR X.K xr w σ ρ → SR X.K w S → Hop X.K (Rel X.K) (WE W σ) w Q (m ρ S) → te σ w.H Q) :
    SOk X xr W st (fun ρ S => SRes.of ρ (m ρ S) fun r S1 => (match bindT t (.one r) ρ S1 with
      | some ρ1 => .go .next ρ1 S1
      | none => .stuck)) := by
  refine ⟨_, hp, fun σ w S ρ D er sr h => hq σ w S ρ _ er sr (hopS_of hx er h fun w1 r v S1 x s rr h1 => ?_)⟩
  cases e : bindT t (.one r) ρ S1 with
  | none => rw [e] at h1; exact h1.elim
  | some ρ1 =>
    rw [e] at h1
    exact g_ok e (er.ext hx x) s rr fun σ' er' _ => h1 w1 σ' (Ext.refl _) s er'
theorem s_setIx {i : Expr} (hx : xr.Ok) (hs : swapsWith e (some (.Subscript o i ps)) pos.line X.env = pure false)
    (ha : ∀ v, assign (.Subscript o i ps) X.env v = (do
      let ov ← holding [v] (eval o X.env)
      let iv ← holding [v, ov] (eval i X.env)
      standAt ps
      holding [v, ov, iv] (setItem ov iv v)
      release [v, ov, iv] [])) (he : EOk X xr W e m) (ho : EOk X xr W o mo) (hi : EOk X xr W i mi) :
    SOk X xr W (.Assign [.Subscript o i ps] e pos) (fun ρ S => SRes.of ρ ((M.bind (m ρ) fun v => M.bind (mo ρ) fun x => M.bind (mi ρ) fun y => setIxR x y v) S) fun _ S1 => .go .next ρ S1) := by
  obtain ⟨t, p, q⟩ := he
  obtain ⟨to, po, qo⟩ := ho
  obtain ⟨ti, pi, qi⟩ := hi
  refine ⟨_, ps_asg p (pg_sub po pi set_list ha) hs rfl rfl, fun σ w S ρ D er sr h => ?_⟩
  have h : Hop X.K (fun _ (_ : Unit) (_ : Unit) => True) (WE W σ) w (fun _ H => D.nx σ H) ((M.bind (m ρ) fun v => M.bind (mo ρ) fun x => M.bind (mi ρ) fun y => setIxR x y v) S) := hopS_of hx er h fun w1 r v S1 x s rr h1 => h1 w1 σ (Ext.refl _) s (er.ext hx x)
  refine q σ w S ρ _ er sr (h.bind fun w1 v vv S1 e1 s1 rv h1 => qo σ w1 S1 ρ _ (er.ext hx e1) s1 (h1.bind fun w2 x xv S2 e2 s2 rx h2 => qi σ w2 S2 ρ _ ((er.ext hx e1).ext hx e2) s2 (h2.bind fun w3 y yv S3 e3 s3 ry h3 => ?_)))
  have rv := rv.ext (e2.trans e3)
  have rx := rx.ext e3
  unfold setIxR at h3
  cases x with
  | dat d => exact h3.elim
  | exc c ns l => exact h3.elim
  | own k =>
    cases y with
    | own k => exact h3.elim
    | exc c ns l => exact h3.elim
    | dat d =>
      cases d with
      | int j =>
        obtain ⟨hk, eu⟩ := rx
        obtain ⟨c, hc, hr⟩ := s3.get hk
        cases c with
        | tup rs => simp only [hc] at h3; exact h3.elim
        | obj c ns rs => simp only [hc] at h3; exact h3.elim
        | lst rs =>
          simp only [hc] at h3
          obtain ⟨vs, hv, hz, hrs⟩ := hr
          cases ej : ixN rs.length j with
          | none => simp only [ej] at h3; exact h3.elim
          | some i =>
            simp only [ej] at h3
            cases (show yv = .int j from ry)
            refine ⟨w3.p k, vs, j, i, eu, rfl, hv, by rw [← hrs.length]; exact ej, ?_⟩
            exact h3 (w3.put k (.lst (vs.set i vv))) () (ext_put s3 hk) (put_lst s3 hk (by rw [List.length_set]; exact hz) (Rels.set rv i hrs)) trivial
      | _ => exact h3.elim
/-! ### fields -/
theorem putN_rel {K : PySem.W.Frag} {w : Wd} {f : Str} {v : R} {y : V} (hv : Rel K w v y) : ∀ {ns : List Str} {rs : List R} {fs : List (Str × V)}, fs.map (·.1) = ns → Rels K w rs (fs.map (·.2)) →
    (putF f y fs).map (·.1) = (putN f v ns rs).1 ∧ Rels K w (putN f v ns rs).2 ((putF f y fs).map (·.2))
  | [], [], fs, h, r => by
    cases fs with
    | nil => exact ⟨rfl, .one hv⟩
    | cons q fs => cases h
  | [], x :: rs, fs, h, r => by
    cases fs with
    | nil =>
      obtain ⟨_, _, e, _⟩ := r
      cases e
    | cons q fs => cases h
  | n :: ns, [], fs, h, r => by
    cases fs with
    | nil => cases h
    | cons q fs =>
      have r' : (q :: fs).map (·.2) = [] := r
      cases r'
  | n :: ns, x :: rs, fs, h, r => by
    cases fs with
    | nil => cases h
    | cons q fs =>
      obtain ⟨g, z⟩ := q
      rw [List.map_cons] at h r
      injection h with h1 h2
      obtain ⟨v', u, e3, r1, r2⟩ := r
      injection e3 with e4 e5
      subst h1 e4 e5
      obtain ⟨i1, i2⟩ := putN_rel hv (ns := ns) (rs := rs) (fs := fs) h2 r2
      show (List.map (·.1) (if g = f then (g, y) :: fs else (g, z) :: putF f y fs)) = (if g = f then (g :: ns, v :: rs) else (g :: (putN f v ns rs).1, x :: (putN f v ns rs).2)).1 ∧ Rels K w (if g = f then (g :: ns, v :: rs) else (g :: (putN f v ns rs).1, x :: (putN f v ns rs).2)).2 (List.map (·.2) (if g = f then (g, y) :: fs else (g, z) :: putF f y fs))
      by_cases q : g = f
      · rw [if_pos q, if_pos q]
        exact ⟨by rw [List.map_cons, h2], y, _, rfl, hv, r2⟩
      · rw [if_neg q, if_neg q]
        exact ⟨by rw [List.map_cons, i1], z, _, rfl, r1, i2⟩
theorem s_setAt {c fn : Str} (hx : xr.Ok) (cl : Cls X.K (He.ga X.K c)) (na : NoAttr X.K (He.ga X.K c) fn) (hs : swapsWith e (some (.Attribute o fn ps)) pos.line X.env = pure false) (he : EOk X xr W e m) (ho : EOk X xr W o mo) :
    SOk X xr W (.Assign [.Attribute o fn ps] e pos) (fun ρ S => SRes.of ρ ((M.bind (m ρ) fun v => M.bind (mo ρ) fun x => setAtR x c fn v) S) fun _ S1 => .go .next ρ S1) := by
  obtain ⟨t, p, q⟩ := he
  obtain ⟨to, po, qo⟩ := ho
  refine ⟨_, ps_fld po p hs, fun σ w S ρ D er sr h => ?_⟩
  have h : Hop X.K (fun _ (_ : Unit) (_ : Unit) => True) (WE W σ) w (fun _ H => D.nx σ H) ((M.bind (m ρ) fun v => M.bind (mo ρ) fun x => setAtR x c fn v) S) := hopS_of hx er h fun w1 r v S1 x s rr h1 => h1 w1 σ (Ext.refl _) s (er.ext hx x)
  refine q σ w S ρ _ er sr (h.bind fun w1 v vv S1 e1 s1 rv h1 => qo σ w1 S1 ρ _ (er.ext hx e1) s1 (h1.bind fun w2 x xv S2 e2 s2 rx h2 => ?_))
  have rv := rv.ext e2
  unfold setAtR at h2
  cases x with
  | dat d => exact h2.elim
  | exc c ns l => exact h2.elim
  | own k =>
    obtain ⟨hk, eu⟩ := rx
    obtain ⟨cc, hc, hr⟩ := s2.get hk
    cases cc with
    | lst rs => simp only [hc] at h2; exact h2.elim
    | tup rs => simp only [hc] at h2; exact h2.elim
    | obj c' ns rs =>
      simp only [hc] at h2
      obtain ⟨dx, fs, hv, hn, hrs⟩ := hr
      by_cases z : c' = c ∧ ns.length < 900
      · rw [if_pos z] at h2
        obtain ⟨z1, z2⟩ := z
        subst z1
        refine ⟨w2.p k, _, dx, fs, eu, hv, cl, na, ?_, ?_⟩
        · have l := congrArg List.length hn
          rw [List.length_map] at l
          omega
        · have x3 := ext_put (o := .ins (He.ga X.K c') dx (putF fn vv fs)) s2 hk
          obtain ⟨i1, i2⟩ := putN_rel (rv.ext x3) (ns := ns) (rs := rs) (fs := fs) hn (hrs.ext x3)
          exact h2 (w2.put k (.ins (He.ga X.K c') dx (putF fn vv fs))) () x3 (s2.put hk ⟨dx, _, upd_same, i1, i2⟩) trivial
      · rw [if_neg z] at h2
        exact h2.elim
end
end MP
set_option Elab.async false
set_option linter.all false
set_option maxRecDepth 100000
set_option maxHeartbeats 4000000
/-! MPStmt2: for, try. -/
namespace MP
open PySem PySem.Spec PyProof.Rows L2
section
variable {X : Cx} {xr : XR} {W : WX} {e o iter tg : Expr} {st : Stmt} {sts body a b : List Stmt} {f g : MP.Env → Store → SRes} {mi : MP.Env → M (List Itm × Gd)} {pos p' ps : Pos} {t : IT}
theorem s_for (hx : xr.Ok) (hp : PassesOwn (model X.prog X.w) X.A X.env X.xe) (hc : X.calm = true) (hN : X.N.Nodup) (ht : ITOk X t) (hs : ∀ x, foldedSetIterable iter X.env x = pure x) (hi : IOk X xr W t.e iter mi) (hb : SsOk X xr W body f) :
    SOk X xr W (.For t.e iter body [] pos) (fun ρ S => SRes.of ρ (mi ρ S) fun q S1 => forL t q.2 f q.1 ρ S1) := by
  obtain ⟨ti, pi, qi⟩ := hi
  obtain ⟨tb, pb, qb⟩ := hb
  refine ⟨_, ps_for hp hc pi (pg_T hN t ht) pb hs, fun σ w S ρ D er sr h => qi σ w S ρ _ er sr (hopS_of hx er h fun w1 a J S1 x1 s1 wk h1 => ?_)⟩
  obtain ⟨xs, gd⟩ := a
  obtain ⟨G, Y, hw, hG, hY⟩ := wk
  dsimp only at h1 hw hG hY
  refine for_it hw (fun i σ' H => ∃ w2 S2 ρ2, w2.H = H ∧ Ext w1 w2 ∧ SR X.K w2 S2 ∧ EnvR X.K xr w2 σ' ρ2 ∧ HopS X.K xr W w1 D (forL t gd f (xs.drop i) ρ2 S2)) ⟨w1, S1, ρ, rfl, Ext.refl _, s1, er.ext hx x1, h1⟩ ?_ ?_ ?_
  · intro i σ' H hi ⟨w2, S2, ρ2, eH, x2, s2, er2, h2⟩
    subst eH
    refine hG w2 S2 x2.mono s2 ?_
    by_cases z : gdOk S2 gd = true
    · exact z
    · exfalso
      by_cases hlt : i < xs.length
      · rw [List.drop_eq_getElem_cons hlt] at h2
        unfold forL at h2
        rw [if_neg z] at h2
        exact h2
      · rw [List.drop_eq_nil_of_le (by omega)] at h2
        unfold forL at h2
        rw [if_neg z] at h2
        exact h2
  · intro i v σ' H H' hi ⟨w2, S2, ρ2, eH, x2, s2, er2, h2⟩ hy
    subst eH
    rw [List.drop_eq_getElem_cons hi] at h2
    unfold forL at h2
    by_cases z : gdOk S2 gd = true
    · rw [if_pos z] at h2
      obtain ⟨w3, eH, x3, s3, it⟩ := hY i xs[i] v H' w2 S2 x2.mono s2 z (List.getElem?_eq_getElem hi) hy
      subst eH
      cases eb : bindT t xs[i] ρ2 S2 with
      | none => simp only [eb] at h2; exact h2.elim
      | some ρ' =>
        simp only [eb] at h2
        refine g_ok eb (er2.ext hx x3) s3 it fun σ3 er3 _ => qb σ3 w3 S2 ρ' _ er3 s3 ?_
        have x13 := x2.trans x3
        match hf : f ρ' S2 with
        | .go .next ρ4 S4 =>
          rw [hf] at h2
          exact fun w' σ4 x4 s4 er4 => ⟨w', S4, ρ4, rfl, x13.trans x4, s4, er4, h2⟩
        | .go .cont ρ4 S4 =>
          rw [hf] at h2
          exact fun w' σ4 x4 s4 er4 => ⟨w', S4, ρ4, rfl, x13.trans x4, s4, er4, h2⟩
        | .go .brk ρ4 S4 =>
          rw [hf] at h2
          exact fun w' σ4 x4 s4 er4 => h2 w' σ4 (x13.trans x4) s4 er4
        | .go (.ret q) ρ4 S4 =>
          rw [hf] at h2
          exact fun w' v4 x4 s4 r4 => h2 w' v4 (x13.trans x4) s4 r4
        | .exc c ns l ρ4 S4 =>
          rw [hf] at h2
          exact fun w' σ4 d x4 s4 er4 hd => h2 w' σ4 d (x13.trans x4) s4 er4 hd
        | .stuck =>
          rw [hf] at h2
          exact h2
    · rw [if_neg z] at h2
      exact h2.elim
  · intro σ' H ⟨w2, S2, ρ2, eH, x2, s2, er2, h2⟩
    subst eH
    rw [List.drop_eq_nil_of_le (Nat.le_refl _)] at h2
    unfold forL at h2
    by_cases z : gdOk S2 gd = true
    · rw [if_pos z] at h2
      exact h2 w2 σ' x2 s2 er2
    · rw [if_neg z] at h2
      exact h2.elim
end
/-! ### try -/
/-- what the suite knows of the exception -/
def xrS (K : PySem.W.Frag) (a : Addr) (cls : Value) (d : Option Addr) : XR := fun w c ns l v => v = .ref a ∧ cls = .ref (He.ga K c) ∧ ExcD K w ns l d
theorem xrS_ok {K : PySem.W.Frag} {a : Addr} {cls : Value} {d : Option Addr} : (xrS K a cls d).Ok := fun w w' c ns l v x h => ⟨h.1, h.2.1, h.2.2.mono x⟩
abbrev xr0 : XR := fun _ _ _ _ _ => False
theorem xr0_ok : XR.Ok xr0 := fun _ _ _ _ _ _ _ h => h
theorem EnvR.xr {K : PySem.W.Frag} {xr : XR} {w : Wd} {σ : L2.St} {ρ : MP.Env} (e : EnvR K xr0 w σ ρ) : EnvR K xr w σ ρ :=
  ⟨e.len, fun i r h => by
    obtain ⟨v, h1, h2⟩ := e.get i r h
    refine ⟨v, h1, ?_⟩
    cases r with
    | dat d => exact h2
    | own k => exact h2
    | exc c ns l => exact h2.elim⟩
theorem EnvR.drop {K : PySem.W.Frag} {xr : XR} {w : Wd} {σ : L2.St} {ρ : MP.Env} (e : EnvR K xr w σ ρ) : EnvR K xr0 w σ (dropX ρ) :=
  ⟨by unfold dropX; rw [List.length_map]; exact e.len, fun i r h => by
    unfold dropX at h
    rw [List.getElem?_map] at h
    cases e1 : ρ[i]? with
    | none => rw [e1] at h; cases h
    | some o =>
      rw [e1] at h
      cases o with
      | none => cases h
      | some q =>
        obtain ⟨v, h1, h2⟩ := e.get i q e1
        cases q with
        | dat d => cases h; exact ⟨v, h1, h2⟩
        | own k => cases h; exact ⟨v, h1, h2⟩
        | exc c ns l => cases h⟩
section
variable {X : Cx} {x n : Str} {c : Value} {i : Nat} {body suite : List Stmt} {b₀ : Stmt} {np pos pos' : Pos} {tb : WX → TS} {ts : Addr → Value → Option Addr → TS} {hds : List ExceptHandler}
/-- what the first clause wishes: the others are never asked -/
def wAs1 (K : PySem.W.Frag) (c : Value) (i : Nat) (ts : Addr → Value → Option Addr → TS) (D : Ends) : WX := fun cls d σ H =>
  PySem.W.exmOne K cls c = some true ∧ ∀ a, H a = none → ts a cls d { nx := fun σ' H' => D.nx (σ'.set i none) H', rt := D.rt, bk := fun σ' H' => D.bk (σ'.set i none) H', ct := fun σ' H' => D.ct (σ'.set i none) H' } (σ.set i (some (.ref a))) H
theorem ps_try1 (hs : X.stack = X.env :: X.outer) (hf : X.env.frame = some X.env.locals) (hN : X.N.Nodup) (hi : X.N[i]? = some n) (hln : X.env.kindOf n = some .local) (hc : Names X x c)
    (hb : ∀ (W : WX) (pn : List (Addr × Obj)) (xe : Value → Shared → Prop), L2N.Takes (X.tr pn xe) W → PassesOwn (model X.prog X.w) X.A X.env xe → PSs (X.tr pn xe) body (tb W))
    (hsu : ∀ (a : Addr) (oe : Obj) (cls : Value) (d : Option Addr) (pn : List (Addr × Obj)), L2N.Zn cls d oe → (∃ vs, oe.data = .fields vs) → PSs (X.suite a ((a, oe) :: pn)) (b₀ :: suite) (ts a cls d)) :
    PS X (.Try body (.ExceptHandler (some (.Name x np)) (some n) (b₀ :: suite) pos' :: hds) [] [] pos) (fun D σ H => tb (wAs1 X.K c i ts D) D σ H) := by
  refine ⟨fun pins s σ H D I h => ?_⟩
  have ok := I.ok
  have hfr : X.A.frames = some (X.env :: X.outer) := by rw [ok.frames, hs]
  refine wpAny_Try_except ?_
  refine wpAny_mono ((hb (wAs1 X.K c i ts D) (X.pn ++ pins) (fun e s₁ => wpAny (model X.prog X.w) X.A (noteFrame e X.env) (fun _ s₂ => wpAny (model X.prog X.w) X.A (setFlight e none) (fun _ s₃ =>
    wpAny (model X.prog X.w) X.A (handleBy e X.env (.ExceptHandler (some (.Name x np)) (some n) (b₀ :: suite) pos' :: hds)) (SP X pins D) X.xe s₃) X.xe s₂) X.xe s₁) (fun u s' xx => ?_) PassesOwn.looking).run [] s σ H D (I.toTry _) h) (fun f s1 hsp => ?_) (fun e s1 he => he)
  · obtain ⟨a, B, sI, pins', σ', H', cls, d, rfl, J', nb, up, sky, na, os, ag, hb1, hyes⟩ := xx
    have J : Inv X pins σ' H' sI := J'.ofTry ok
    have sky' : Sky B (X.env :: X.outer) a (L2N.Zn cls d) X.env.locals s'.heap := by rw [← hs]; exact sky
    show wpAny (model X.prog X.w) X.A (noteFrame (.ref a) X.env) _ _ _
    refine L2N.Sky.land L2N.Zn.steady hfr hf sky' fun h3 fl3 up3 => ?_
    have J3 : Inv X pins σ' H' { s' with heap := h3 } := J.landed nb fl3.1 (up.trans up3) os ag
    obtain ⟨oe3, vs3, he3, hz3, hd3⟩ := fl3.there
    have nfr : a ∉ frs (X.env :: X.outer) := fun hm => by
      obtain ⟨_, o', e', hnf⟩ := fl3.2.2.1.mem hm
      rw [he3] at e'
      cases e'
      exact hnf _ hd3
    have nL : a ≠ X.env.locals := fun z => nfr (List.mem_filterMap.mpr ⟨X.env, List.mem_cons_self, by rw [hf, z]⟩)
    have nF : a ∉ X.fs := fun hm => by
      obtain ⟨e, he, q⟩ := List.mem_filterMap.mp hm
      exact nfr (List.mem_filterMap.mpr ⟨e, List.mem_cons_of_mem _ he, q⟩)
    have S3 := J3.suite he3 hd3 na nL nF
    refine wpAny_handleBy_cons (codeAny_handlers_test ?_) (by intro q; cases q)
    have LT : PySem.W.Looks (model X.prog X.w) h3 (typeOf (.ref a)) cls := fun A Q E s k q => wpAny_typeOf_ref (k _ _ he3) (by rw [hz3.1]; exact q)
    have LM := PySem.W.exm_one (M := model X.prog X.w) (J3.kIn) LT hb1
    have test : ∀ {Q : Value → Shared → Prop} {E : Value → Shared → Prop}, Q c { s' with heap := h3 } → wpAny (model X.prog X.w) (X.A.mark (some (.ref a))) (eval (.Name x np) X.env) Q E { s' with heap := h3 } := fun {Q E} q => by
      obtain ⟨hg, hdbg, hm | ⟨hm, hv, hnn⟩⟩ := hc
      · exact ld_glob (X := X.suite a ((a, oe3) :: (X.pn ++ pins))) S3 hg hm q hdbg
      · exact ld_blt (X := X.suite a ((a, oe3) :: (X.pn ++ pins))) S3 hg hm hv q hnn hdbg
    refine test (LM.here ?_)
    refine codeAny_handlers_suite_as ?_
    refine HandSPX.lands_againZ fl3 fun h4 fl4 up4 => ?_
    have J4 : Inv X pins σ' H' { s' with heap := h4 } := J.landed nb fl4.1 ((up.trans up3).trans up4) os ag
    obtain ⟨oe4, vs4, he4, hz4, hd4⟩ := fl4.there
    have S4 := J4.suite he4 hd4 na nL nF
    refine store_ok (X := X.suite a ((a, oe4) :: (X.pn ++ pins))) (v := .ref a) S4 hN hi (.inl hln) rfl (fun s5 S5 => ?_) (.inr hln)
    refine wpAny_mono ((hsu a oe4 cls d (X.pn ++ pins) hz4 ⟨_, hd4⟩).run [] s5 _ H' _ S5 (hyes a na)) (fun f s6 hsp => ?_) (fun _ _ z => False.elim z)
    have fin : ∀ {σ6 : L2.St} {H6 : Hp} {Q : Shared → Prop}, Inv (X.suite a ((a, oe4) :: (X.pn ++ pins))) [] σ6 H6 s6 → (∀ s7, Inv X pins (σ6.set i none) H6 s7 → Q s7) →
        wpAny (model X.prog X.w) X.A (do bindName X.env n .none; unbindBehindTheSuite X.env n pos') (fun _ s7 => Q s7) X.xe s6 := fun {σ6 H6 Q} S6 hq => gone_ok (S6.unsuite ok) hN hi hln hq
    match f, hsp with
    | .next, ⟨σ6, H6, S6, q6⟩ => exact fin S6 fun s7 J7 => ⟨_, _, J7, q6⟩
    | .brk, ⟨σ6, H6, S6, q6⟩ => exact fin S6 fun s7 J7 => ⟨_, _, J7, q6⟩
    | .cont, ⟨σ6, H6, S6, q6⟩ => exact fin S6 fun s7 J7 => ⟨_, _, J7, q6⟩
    | .ret u, ⟨v6, σ6, H6, S6, r6, q6⟩ => exact fin S6 fun s7 J7 => ⟨_, _, _, J7, r6, q6⟩
  · match f, hsp with
    | .next, ⟨σ', H', J', q⟩ => exact wpAny_execs_nil ⟨σ', H', J'.ofTry ok, q⟩
    | .brk, ⟨σ', H', J', q⟩ => exact ⟨σ', H', J'.ofTry ok, q⟩
    | .cont, ⟨σ', H', J', q⟩ => exact ⟨σ', H', J'.ofTry ok, q⟩
    | .ret u, ⟨v, σ', H', J', r, q⟩ => exact ⟨v, σ', H', J'.ofTry ok, r, q⟩
/-- what is known of two classes -/
def SubE (K : PySem.W.Frag) (sub : Str → Str → Option Bool) : Prop := ∀ c' c, sub c' c = some true → PySem.W.exmOne K (.ref (He.ga K c')) (.ref (He.ga K c)) = some true
variable {W : WX} {cn : Str} {sub : Str → Str → Option Bool} {f g : MP.Env → Store → SRes}
theorem s_try (hs : X.stack = X.env :: X.outer) (hf : X.env.frame = some X.env.locals) (hN : X.N.Nodup) (hi : X.N[i]? = some n) (hln : X.env.kindOf n = some .local) (hc : Names X x (.ref (He.ga X.K x))) (hsub : SubE X.K sub)
    (hb : ∀ (W : WX) (pn : List (Addr × Obj)) (xe : Value → Shared → Prop), L2N.Takes (X.tr pn xe) W → PassesOwn (model X.prog X.w) X.A X.env xe → SsOk (X.tr pn xe) xr0 W body f)
    (hsu : ∀ (a : Addr) (oe : Obj) (cls : Value) (d : Option Addr) (pn : List (Addr × Obj)), L2N.Zn cls d oe → (∃ vs, oe.data = .fields vs) → SsOk (X.suite a ((a, oe) :: pn)) (xrS X.K a cls d) W0 (b₀ :: suite) g) :
    SOk X xr0 W (.Try body (.ExceptHandler (some (.Name x np)) (some n) (b₀ :: suite) pos' :: hds) [] [] pos) (fun ρ S => match f ρ S with
      | .exc c' ns l ρ1 S1 => (match sub c' x with
        | some true => (match g (ρ1.set i (some (.exc c' ns l))) S1 with
          | .go f ρ2 S2 => .go f ((dropX ρ2).set i none) S2
          | _ => .stuck)
        | _ => .stuck)
      | r => r) := by
  refine ⟨_, ps_try1 (tb := fun W => rdS X.K xr0 W f) (ts := fun a cls d => rdS X.K (xrS X.K a cls d) W0 g) (hds := hds) hs hf hN hi hln hc (fun W pn xe h1 h2 => (hb W pn xe h1 h2).rd) (fun a oe cls d pn h1 h2 => (hsu a oe cls d pn h1 h2).rd), fun σ w S ρ D er sr h => ?_⟩
  refine ⟨w, S, ρ, rfl, er, sr, ?_⟩
  dsimp only at h
  match hf : f ρ S with
  | .go .next ρ1 S1 => rw [hf] at h; exact h
  | .go .brk ρ1 S1 => rw [hf] at h; exact h
  | .go .cont ρ1 S1 => rw [hf] at h; exact h
  | .go (.ret q) ρ1 S1 => rw [hf] at h; exact h
  | .stuck => rw [hf] at h; exact h
  | .exc c' ns l ρ1 S1 =>
    rw [hf] at h
    dsimp only at h
    intro w1 σ1 d x1 s1 er1 hd
    cases es : sub c' x with
    | none => simp only [es] at h; exact h.elim
    | some b =>
      cases b with
      | false => simp only [es] at h; exact h.elim
      | true =>
        simp only [es] at h
        refine ⟨hsub _ _ es, fun a ha => ⟨w1, S1, ρ1.set i (some (.exc c' ns l)), rfl, (er1.xr (xr := xrS X.K a (.ref (He.ga X.K c')) d)).set (show RelX X.K _ w1 (.exc c' ns l) (.ref a) from ⟨rfl, rfl, hd⟩), s1, ?_⟩⟩
        have back : ∀ {w' : Wd} {σ' : L2.St} {ρ2 : MP.Env}, EnvR X.K (xrS X.K a (.ref (He.ga X.K c')) d) w' σ' ρ2 → EnvR X.K xr0 w' (σ'.set i none) ((dropX ρ2).set i none) := fun e => e.drop.unset
        match hg : g (ρ1.set i (some (.exc c' ns l))) S1 with
        | .go .next ρ2 S2 => rw [hg] at h; exact fun w' σ' x' s' e' => h w' _ (x1.trans x') s' (back e')
        | .go .brk ρ2 S2 => rw [hg] at h; exact fun w' σ' x' s' e' => h w' _ (x1.trans x') s' (back e')
        | .go .cont ρ2 S2 => rw [hg] at h; exact fun w' σ' x' s' e' => h w' _ (x1.trans x') s' (back e')
        | .go (.ret q) ρ2 S2 => rw [hg] at h; exact fun w' v x' s' e' => h w' v (x1.trans x') s' e'
        | .exc c2 ns2 l2 ρ2 S2 => rw [hg] at h; exact h.elim
        | .stuck => rw [hg] at h; exact h.elim
end
end MP
set_option Elab.async false
set_option linter.all false
set_option maxRecDepth 100000
set_option maxHeartbeats 4000000
/-! MPRaise: raise of own exceptions with fields. -/
namespace MP
open PySem PySem.Spec PyProof.Rows L2
def Flds (fs : List Str) (ys : List V) (k : Nat) (gs : List (Str × V)) : Prop := gs.length = k ∧ ∀ i f y, i < k → fs[i]? = some f → ys[i]? = some y → gs.lookup f = some y
/-- the promise of such an __init__ -/
def spO (C : Addr) (fs : List Str) : Sp := fun vs H Q E => ∃ a ys, vs = .ref a :: ys ∧ ys.length = fs.length ∧ fs ≠ [] ∧ H a = some (exo a C none) ∧
  ∀ d H2 gs, H d = none → d ≠ a → H2 a = some (exo a C (some d)) → H2 d = some (exd d gs) → Flds fs ys fs.length gs → (∀ b, b ≠ a → b ≠ d → H2 b = H b) → Q .non H2
/-- self.f = f, .. from the k-th on -/
inductive InitB (s : Str) (fs : List Str) : Nat → List Stmt → Prop
  | nil {k : Nat} (h : k = fs.length) : InitB s fs k []
  | cons {k : Nat} {f : Str} {p1 p2 p3 p4 : Pos} {r : List Stmt} (h : fs[k]? = some f) (hr : InitB s fs (k + 1) r) : InitB s fs k (.Assign [.Attribute (.Name s p1) f p2] (.Name f p3) p4 :: r)
theorem flds_put {fs : List Str} {ys : List V} {k : Nat} {gs : List (Str × V)} {f : Str} {y : V} (nd : fs.Nodup) (h : Flds fs ys k gs) (hf : fs[k]? = some f) (hy : ys[k]? = some y) : Flds fs ys (k + 1) ((f, y) :: gs) := by
  refine ⟨by rw [List.length_cons, h.1], fun i g z hi hg hz => ?_⟩
  rw [lookup_put]
  by_cases q : i = k
  · subst q
    rw [hf] at hg
    rw [hy] at hz
    cases hg
    cases hz
    rw [if_pos rfl]
  · have ne : g ≠ f := fun e => q (by
      subst e
      exact (List.getElem?_inj (List.getElem?_eq_some_iff.mp hg).1 nd).mp (hg.trans hf.symm))
    rw [if_neg ne]
    exact h.2 i g z (by omega) hg hz
section
variable {X : Cx} {C : Addr} {fs : List Str} {s : Str}
/-- behind the first field -/
def tRest (C : Addr) (fs : List Str) (k : Nat) : TS := fun D σ H => ∃ a d ys gs, σ = some (.ref a) :: ys.map some ∧ ys.length = fs.length ∧ d ≠ a ∧ H a = some (exo a C (some d)) ∧ H d = some (exd d gs) ∧ Flds fs ys k gs ∧
  ∀ H2 gs2, H2 a = some (exo a C (some d)) → H2 d = some (exd d gs2) → Flds fs ys fs.length gs2 → (∀ b, b ≠ a → b ≠ d → H2 b = H b) → D.nx σ H2
theorem init_rest (hN : X.N = s :: fs) (T : OexC X.K C) (nd : fs.Nodup) (hl : fs.length ≤ 900) (hv : ∀ x ∈ X.N, Vis X.env.scope x ∧ (x == ("__debug__" : Str)) = false ∧ (x == ("__classdict__" : Str)) = false) (hno : ∀ f ∈ fs, PySem.W.findIn X.K (.ref C) f = some none) :
    ∀ {body : List Stmt} {k : Nat}, InitB s fs k body → PSs X body (tRest C fs k)
  | _, k, .nil h => by
    refine ⟨fun pins st σ H D I ⟨a, d, ys, gs, e, l, hda, ha, hd, hf, q⟩ => pss_nil.run pins st σ H D I ?_⟩
    subst h
    exact q H gs ha hd hf fun _ _ _ => rfl
  | _, k, .cons (f := f) (p1 := p1) (p2 := p2) (p3 := p3) (p4 := p4) (r := r) h hr => by
    have ih := init_rest hN T nd hl hv hno hr
    have h0 : X.N[0]? = some s := by rw [hN]; rfl
    have h1 : X.N[k + 1]? = some f := by rw [hN]; exact h
    have v0 := hv s (List.mem_of_getElem? h0)
    have v1 := hv f (List.mem_of_getElem? h1)
    have ps := ps_ost (X := X) (f := f) (p' := p2) (pos := p4) (pe_var (pos := p1) h0 v0.1 v0.2.1 v0.2.2) (pe_var (pos := p3) h1 v1.1 v1.2.1 v1.2.2) rfl
    refine ⟨fun pins st σ H D I ⟨a, d, ys, gs, e, l, hda, ha, hd, hf, q⟩ => (pss_cons ps ih).run pins st σ H D I ?_⟩
    have hk : k < ys.length := by rw [l]; exact (List.getElem?_eq_some_iff.mp h).1
    have hy : ys[k]? = some ys[k] := List.getElem?_eq_getElem hk
    have eσ : σ[k + 1]? = some (some ys[k]) := by
      rw [e, List.getElem?_cons_succ, List.getElem?_map, hy]
      rfl
    refine ⟨ys[k], eσ, .ref a, by rw [e]; rfl, a, C, rfl, T, hno f (List.mem_of_getElem? h), .inr ⟨d, gs, ha, hd, ?_, ?_⟩⟩
    · rw [hf.1]
      have : k < fs.length := (List.getElem?_eq_some_iff.mp h).1
      omega
    · refine ⟨a, d, ys, _, e, l, hda, by rw [upd_ne (Ne.symm hda)]; exact ha, upd_same, flds_put nd hf h hy, fun H2 gs2 h1 h2 h3 h4 => q H2 gs2 h1 h2 h3 fun b hb hb2 => ?_⟩
      rw [h4 b hb hb2, upd_ne hb2]
theorem init_all (hN : X.N = s :: fs) (T : OexC X.K C) (nd : fs.Nodup) (hl : fs.length ≤ 900) (hv : ∀ x ∈ X.N, Vis X.env.scope x ∧ (x == ("__debug__" : Str)) = false ∧ (x == ("__classdict__" : Str)) = false) (hno : ∀ f ∈ fs, PySem.W.findIn X.K (.ref C) f = some none)
    {body : List Stmt} (hb : InitB s fs 0 body) (hne : fs ≠ []) : PSs X body (fun D σ H => ∃ a ys, σ = some (.ref a) :: ys.map some ∧ ys.length = fs.length ∧ H a = some (exo a C none) ∧
      ∀ d H2 gs, H d = none → d ≠ a → H2 a = some (exo a C (some d)) → H2 d = some (exd d gs) → Flds fs ys fs.length gs → (∀ b, b ≠ a → b ≠ d → H2 b = H b) → D.nx σ H2) := by
  cases hb with
  | nil h => exact absurd (List.length_eq_zero_iff.mp h.symm) hne
  | @cons _ f p1 p2 p3 p4 r h hr =>
    have ih := init_rest hN T nd hl hv hno hr
    have h0 : X.N[0]? = some s := by rw [hN]; rfl
    have h1 : X.N[0 + 1]? = some f := by rw [hN]; exact h
    have v0 := hv s (List.mem_of_getElem? h0)
    have v1 := hv f (List.mem_of_getElem? h1)
    have ps := ps_ost (X := X) (f := f) (p' := p2) (pos := p4) (pe_var (pos := p1) h0 v0.1 v0.2.1 v0.2.2) (pe_var (pos := p3) h1 v1.1 v1.2.1 v1.2.2) rfl
    refine ⟨fun pins st σ H D I ⟨a, ys, e, l, ha, q⟩ => (pss_cons ps ih).run pins st σ H D I ?_⟩
    have hk : 0 < ys.length := by rw [l]; exact (List.getElem?_eq_some_iff.mp h).1
    have hy : ys[0]? = some ys[0] := List.getElem?_eq_getElem hk
    have eσ : σ[0 + 1]? = some (some ys[0]) := by
      rw [e, List.getElem?_cons_succ, List.getElem?_map, hy]
      rfl
    refine ⟨ys[0], eσ, .ref a, by rw [e]; rfl, a, C, rfl, T, hno f (List.mem_of_getElem? h), .inl ⟨ha, fun d hd hda => ?_⟩⟩
    refine ⟨a, d, ys, _, e, l, hda, upd_same, by rw [upd_ne hda, upd_same], flds_put nd ⟨rfl, fun i f y hi => absurd hi (Nat.not_lt_zero _)⟩ h hy, fun H2 gs2 h1 h2 h3 h4 => q d H2 gs2 hd hda h1 h2 h3 fun b hb hb2 => ?_⟩
    rw [h4 b hb hb2, upd_ne hb, upd_ne hb2]
variable {e : Expr} {es : List Expr} {ta : TA} {k : Nat} {fI : Addr} {fd : FuncData} {ps : List Str} {x : Str} {p pos : Pos}
/-- C(e, ..) as it is raised -/
def tMkF (C : Addr) (fs : List Str) (ta : TA) : St → Hp → XK → Prop := fun σ H Q => ta σ H fun vs H1 => vs.length = fs.length ∧ ∀ d gs, H1 d = none → Flds fs vs fs.length gs → Q (.ref C) (some d) (upd H1 d (.xd gs))
theorem pmk_flds (T : OexC X.K C) (iC : PySem.W.findIn X.K (.ref C) "__init__" = some (some (.ref fI))) (tI : PySem.W.typeIn X.K (.ref fI) = some (.type "function")) (hne : fs ≠ []) (hl : fs.length ≤ 900)
    (F1 : FnOk X.prog X.w X.K X.mg X.base (L2N.CX X.prog X.w) k fI fd ps (spO C fs)) (hr : Room (k + 1) X.A) (hb : Binds X.K fd ps []) (hx : Passes (L2N.CX X.prog X.w) X (fun _ _ _ => False)) (hg : Gl X x) (hm : X.mg x = some (.ref C)) (ha : PA X (e :: es) ta)
    (hdb : (x == ("__debug__" : Str)) = false) (he : starEach (e :: es) X.env = (false, eval e X.env) :: starEach es X.env) (hpl : (backTo pos (starEach es X.env)).any (·.1) = false) :
    L2N.PMk X (.Call (.Name x p) (e :: es) [] pos) (tMkF C fs ta) := by
  intro pins s σ H Q I h
  obtain ⟨nm, q, N, bs, bm, sn, sub, ab, col, dd, k0, k1, k2, k3, k5, hC, hbm⟩ := T.cls
  refine wpAny_Call_Name_kw (ld_glob I hg hm ?_ hdb)
  refine PySem.W.callWith_K (h₀ := X.base) I.ok.mod.kin T.kC (thn (ha.run pos pins s σ H _ I h) fun us s1 ⟨vs, H1, I1, r1, hz, q1⟩ => ⟨I1.kIn, ?_⟩) he hpl
  show wpAny _ _ (call (.ref C) us) _ _ _
  obtain ⟨hp, g, dr, tk, os⟩ := s1
  have hsz : hp.objs.size ≤ hp.objs.size + 1 := Nat.le_succ _
  have hn : H1 (hp.objs.size + 1) = none := I1.hok.fresh hsz
  have kk : ∀ b o, hp.get? b = some o → ((hp.push (PySem.W.kdv_tup us)).push (PySem.HandSPX.excO C hp.objs.size)).get? b = some o := fun b o e => Heap.get?_push_of_some _ (Heap.get?_push_of_some _ e)
  have hget : ((hp.push (PySem.W.kdv_tup us)).push (PySem.HandSPX.excO C hp.objs.size)).get? (hp.objs.size + 1) = some (PySem.HandSPX.excO C hp.objs.size) := by heap_get
  have I2 : Inv X pins σ (upd H1 (hp.objs.size + 1) (exo (hp.objs.size + 1) C none)) ⟨(hp.push (PySem.W.kdv_tup us)).push (PySem.HandSPX.excO C hp.objs.size), g, dr, tk, os⟩ :=
    I1.laid (t' := tk) (a := hp.objs.size + 1) (o := exo (hp.objs.size + 1) C none) (h' := (hp.push (PySem.W.kdv_tup us)).push (PySem.HandSPX.excO C hp.objs.size)) kk hsz (exo_ok hget)
  have r2 : Vals (V.ref (hp.objs.size + 1) :: vs) (Value.ref (hp.objs.size + 1) :: us) := .cons rfl r1
  have hq : spO C fs (V.ref (hp.objs.size + 1) :: vs) (upd H1 (hp.objs.size + 1) (exo (hp.objs.size + 1) C none)) (fun v H2 => v = .non ∧ ∃ d gs, H2 (hp.objs.size + 1) = some (exo (hp.objs.size + 1) C (some d)) ∧ H2 d = some (exd d gs) ∧ H1 d = none ∧ Q (.ref C) (some d) (upd (del H2 (hp.objs.size + 1)) d (.xd gs))) (fun _ _ _ => False) := by
    refine ⟨hp.objs.size + 1, vs, rfl, hz, hne, upd_same, fun d H2 gs hd hda h1 h2 h3 h4 => ⟨rfl, d, gs, h1, h2, ?_, ?_⟩⟩
    · rw [upd_ne hda] at hd
      exact hd
    · rw [upd_ne hda] at hd
      have e : upd (del H2 (hp.objs.size + 1)) d (.xd gs) = upd H1 d (.xd gs) := by
        funext b
        by_cases q1 : b = d
        · rw [q1, upd_same, upd_same]
        · rw [upd_ne q1, upd_ne q1]
          by_cases q2 : b = hp.objs.size + 1
          · rw [q2, del_same]
            exact hn.symm
          · rw [del_ne q2, h4 b q2 q1, upd_ne q2]
      rw [e]
      exact q1 d gs hd h3
  have hlen : (Value.ref (hp.objs.size + 1) :: us).length = ps.length := by rw [← r2.length]; exact F1.len _ _ _ _ hq
  have b := hb _ (Value.ref (hp.objs.size + 1) :: us) I2.kIn (by rw [List.append_nil]; exact hlen)
  rw [List.append_nil] at b
  have hus : us.length ≤ sizeLine := by
    have l2 := line_eq
    rw [← r1.length]
    omega
  refine wpAny_call (PySem.HandSPX.call_own F.excBase_ValueError (fun Y => PySem.HandSPX.refsVE_contains Y bm hbm) (I1.kIn _ _ hC) (PySem.W.looks_findIn I1.kIn iC) (fun self => PySem.W.bind_fn I1.kIn self tI) hus
    (codeAny_mono (F1.run _ X.stack _ _ ⟨Value.ref (hp.objs.size + 1) :: us, []⟩ _ _ _ (fun _ _ _ => False) (hr.make C us []) (I2.env0.make C us []) b r2 hq) fun r s' hq' => ?_))
  match r, hq' with
  | .error er, hq' => exact hx pins σ _ _ er s' I2 hq'
  | .ok (.ret u), hq' =>
    obtain ⟨v, H2, os2, bare2, un2, hok2, rv, ev, d, gs, ea, ed, hd1, q2⟩ := hq'
    subst ev
    obtain ⟨h2, g2, d2, t2, os'⟩ := s'
    obtain ⟨t0, G, J, kG, ge, hoe, na⟩ := mk_end0 (d2 := d2) (t2 := t2) I1 hsz kk un2 hok2 os2 bare2 ea ed hd1
    exact ⟨rv, ⟨hp.objs.size + 1, _, _, ⟨G, g2, d2, t2, os'⟩, _, .ref C, some d, rfl, J, kG, ge, hoe, ⟨rfl, rfl, fun vs e => by cases e; rfl⟩, rfl, rfl, na, rfl, bare2, raises_own T.exC T.tyC, q2⟩⟩
  | .ok .next, hq' => exact False.elim hq'
  | .ok .brk, hq' => exact False.elim hq'
  | .ok .cont, hq' => exact False.elim hq'
end
theorem look_at {α : Type} {f : Str} : ∀ {ns : List Str} {l : List α} {x : α}, lookA f ns l = some x → ∃ i : Nat, ns[i]? = some f ∧ l[i]? = some x
  | [], l, x, h => by cases l <;> cases h
  | n :: ns, [], x, h => by cases h
  | n :: ns, y :: l, x, h => by
    have h' : (if n = f then some y else lookA f ns l) = some x := h
    by_cases z : n = f
    · rw [if_pos z] at h'
      cases h'
      exact ⟨0, by rw [z]; rfl, rfl⟩
    · rw [if_neg z] at h'
      obtain ⟨i, h1, h2⟩ := look_at h'
      exact ⟨i + 1, h1, h2⟩
theorem kept_plain {C : Calls} : ∀ {fs : List Str} {rs : List R} {S : Store}, (∃ ds, keptAll C (fs.map fun f => (f, none)) rs S = .ok ds S ∧ rs = ds.map .dat ∧ ds.length = fs.length) ∨ keptAll C (fs.map fun f => (f, none)) rs S = .stuck
  | [], [], S => .inl ⟨[], rfl, rfl, rfl⟩
  | [], r :: rs, S => .inr rfl
  | f :: fs, [], S => .inr rfl
  | f :: fs, r :: rs, S => by
    cases r with
    | own k => exact .inr rfl
    | exc c ns l => exact .inr rfl
    | dat d =>
      rcases kept_plain (C := C) (fs := fs) (rs := rs) (S := S) with ⟨ds, h1, h2, h3⟩ | h1
      · refine .inl ⟨d :: ds, ?_, by rw [h2]; rfl, by rw [List.length_cons, h3]; rfl⟩
        show M.bind (keptAll C (fs.map fun f => (f, none)) rs) (fun ds => M.pure (d :: ds)) S = _
        rw [bind_at h1]
        rfl
      · refine .inr ?_
        show M.bind (keptAll C (fs.map fun f => (f, none)) rs) (fun ds => M.pure (d :: ds)) S = _
        unfold M.bind
        rw [h1]
section
variable {X : Cx} {xr : XR} {W : WX} {C : CallsX} {c : Str} {es : List Expr} {ms : MP.Env → M (List R)} {fs : List Str} {p pc pos : Pos}
theorem s_raise (hx : xr.Ok) (hc : X.calm = true) (tk : L2N.Takes X W) (hxc : C.xc c = some ⟨fs.map fun f => (f, none)⟩) (hm : ∀ ta, PA X es ta → L2N.PMk X (.Call (.Name c p) es [] pc) (tMkF (He.ga X.K c) fs ta)) (he : AOk X xr W es ms) :
    SOk X xr W (.Raise (some (.Call (.Name c p) es [] pc)) none pos) (fun ρ S => SRes.of ρ ((M.bind (ms ρ) fun rs => raiseR C c rs) S) fun _ _ => .stuck) := by
  obtain ⟨t, pt, q⟩ := he
  refine ⟨_, L2N.ps_raise hc tk (hm t pt), fun σ w S ρ D er sr h => q σ w S ρ _ er sr ?_⟩
  cases e : ms ρ S with
  | stuck =>
    unfold M.bind at h
    simp only [e] at h
    exact h.elim
  | exc c' ns l S1 =>
    unfold M.bind at h
    simp only [e] at h
    exact fun w1 d x s hd => h w1 σ d x s (er.ext hx x) hd
  | ok rs S1 =>
    dsimp only at h
    rw [bind_at e] at h
    intro w1 vs x1 s1 rr
    unfold raiseR at h
    simp only [hxc] at h
    rcases kept_plain (C := C.toCalls) (fs := fs) (rs := rs) (S := S1) with ⟨ds, h1, h2, h3⟩ | h1
    · rw [bind_at h1] at h
      refine ⟨by rw [← rr.length, h2, List.length_map]; exact h3, fun d gs hd hf => ?_⟩
      have er1 := (er.ext hx x1).ext hx (ext_new (o := .xd gs) s1 hd)
      refine h (w1.new d (.xd gs)) σ (some d) (x1.trans (ext_new s1 hd)) (s1.new hd) er1 (.inr ⟨d, gs, rfl, nlive_new s1 hd, new_same, fun f y hy => ?_⟩)
      have e1 : (fs.map fun f => (f, (none : Option Nat))).map (·.1) = fs := by
        rw [List.map_map]
        exact List.map_id fs
      rw [e1] at hy
      obtain ⟨i, h4, h5⟩ := look_at hy
      have h6 : rs[i]? = some (.dat y) := by rw [h2, List.getElem?_map, h5]; rfl
      obtain ⟨v, h7, h8⟩ := rr.get h6
      exact ⟨v, hf.2 i f v (List.getElem?_eq_some_iff.mp h4).1 h4 h7, Rel.ext (r := .dat y) (ext_new s1 hd) h8⟩
    · unfold M.bind at h
      rw [h1] at h
      exact h.elim
theorem s_never {st : Stmt} {f : MP.Env → Store → SRes} (h : ∀ ρ S, f ρ S = .stuck) : SOk X xr W st f := ⟨_, ps_never, fun σ w S ρ D er sr hh => by rw [h] at hh; exact hh⟩
end
end MP
set_option Elab.async false
set_option linter.all false
set_option maxRecDepth 100000
set_option maxHeartbeats 4000000
/-! MPSide: what holds of the code's form. -/
namespace MP
open PySem PySem.Spec PyProof.Rows L2
theorem star_e (e : IE) (r : List Expr) (env : PySem.Env) : starEach (e.e :: r) env = (false, eval e.e env) :: starEach r env := by
  cases e <;> rfl
theorem star_nil (env : PySem.Env) : starEach [] env = [] := rfl
theorem plain_es (pos : Pos) (env : PySem.Env) : ∀ es : IEs, (backTo pos (starEach es.es env)).any (·.1) = false
  | .nil => rfl
  | .cons e r => by
    show (backTo pos (starEach (e.e :: r.es) env)).any (·.1) = false
    rw [star_e]
    show (false || (backTo pos (starEach r.es env)).any (·.1)) = false
    rw [plain_es pos env r]
    rfl
theorem allp_es (pos : Pos) (env : PySem.Env) : ∀ es : IEs, (backTo pos (starEach es.es env)).all (fun x => !x.1) = true
  | .nil => rfl
  | .cons e r => by
    show (backTo pos (starEach (e.e :: r.es) env)).all (fun x => !x.1) = true
    rw [star_e]
    show (true && (backTo pos (starEach r.es env)).all (fun x => !x.1)) = true
    rw [allp_es pos env r]
    rfl
def IEs.len : IEs → Nat
  | .nil => 0
  | .cons _ r => r.len + 1
def IKs.nms : IKs → List Str
  | .nil => []
  | .cons n _ _ r => n :: r.nms
theorem len_es : ∀ es : IEs, es.es.length = es.len
  | .nil => rfl
  | .cons e r => by
    show r.es.length + 1 = _
    rw [len_es r]
    rfl
theorem kw_all (pos : Pos) (env : PySem.Env) : ∀ ks : IKs, (backToKw pos (keywordEach ks.ks env)).all (·.1.isSome) = true ∧ (backToKw pos (keywordEach ks.ks env)).filterMap (·.1) = ks.nms ∧ (backToKw pos (keywordEach ks.ks env)).any (·.1.isNone) = false
  | .nil => ⟨rfl, rfl, rfl⟩
  | .cons n e p r => by
    obtain ⟨h1, h2, h3⟩ := kw_all pos env r
    refine ⟨?_, ?_, ?_⟩
    · show (true && (backToKw pos (keywordEach r.ks env)).all (·.1.isSome)) = true
      rw [h1]
      rfl
    · show n :: (backToKw pos (keywordEach r.ks env)).filterMap (·.1) = _
      rw [h2]
      rfl
    · show (false || (backToKw pos (keywordEach r.ks env)).any (·.1.isNone)) = false
      rw [h3]
      rfl
theorem behind_ok (op : Cop) (e : IE) : behindInMarks op.o e.e = false := by
  cases e <;> rfl
/-- an attribute's base -/
def plainB : IE → Bool
  | .callKK _ _ _ _ _ _ => false
  | _ => true
theorem base_ok (e : IE) (f : Str) (env : PySem.Env) (h : plainB e = true) : attributeBase e.e f env (eval e.e env) = eval e.e env := by
  cases e with
  | callKK => cases h
  | _ => rfl
theorem folded_ok (it : II) (env : PySem.Env) (x : Value) : foldedSetIterable it.e env x = pure x := by
  cases it with
  | of e => cases e <;> rfl
  | _ => rfl
def plainI : IE → Bool
  | .tup _ _ _ => false
  | _ => true
theorem plainIx (e : IE) (h : plainI e = true) : PlainIx e.e := by
  cases e with
  | tup => cases h
  | _ => intro o i; rfl
/-- a test that is an expression's value -/
def tstV : IE → Bool
  | .cmp _ _ _ _ => false
  | .isN _ _ _ _ _ => false
  | .not _ _ => false
  | .and _ _ _ => false
  | .or _ _ _ => false
  | .ifx _ _ _ _ => false
  | _ => true
theorem tst_ok (e : IE) (env : PySem.Env) (h : tstV e = true) : ∀ whole, isTrue e.e env whole = (do let v ← whole; standAt e.e.pos; holding [v] (truthy v)) := by
  cases e <;> first | (cases h; done) | (intro w; rfl)
def noLc : IE → Bool
  | .lc _ _ _ _ _ _ _ _ => false
  | .lc2 _ _ _ _ _ _ _ _ _ _ _ _ => false
  | _ => true
theorem swap_ok (e : IE) (t : Option Expr) (line : Nat) (env : PySem.Env) (h : noLc e = true) : swapsWith e.e t line env = pure false := by
  cases e <;> first | (cases h; done) | rfl
theorem ev_len (C : Calls) : ∀ (es : IEs) (ρ : MP.Env) (S : Store) (rs : List R) (S' : Store), evEs C es ρ S = .ok rs S' → rs.length = es.len
  | .nil, ρ, S, rs, S', h => by
    cases (show Res.ok [] S = Res.ok rs S' from h)
    rfl
  | .cons e r, ρ, S, rs, S', h => by
    obtain ⟨x, S1, _, h2⟩ := bind_ok (show M.bind _ _ S = _ from h)
    obtain ⟨xs, S2, h3, h4⟩ := bind_ok h2
    cases (show Res.ok (x :: xs) S2 = Res.ok rs S' from h4)
    show xs.length + 1 = r.len + 1
    rw [ev_len C r ρ S1 xs S' h3]
theorem ek_len (C : Calls) : ∀ (ks : IKs) (ρ : MP.Env) (S : Store) (rs : List R) (S' : Store), evKs C ks ρ S = .ok rs S' → rs.length = ks.nms.length
  | .nil, ρ, S, rs, S', h => by
    cases (show Res.ok [] S = Res.ok rs S' from h)
    rfl
  | .cons n e p r, ρ, S, rs, S', h => by
    obtain ⟨x, S1, _, h2⟩ := bind_ok (show M.bind _ _ S = _ from h)
    obtain ⟨xs, S2, h3, h4⟩ := bind_ok h2
    cases (show Res.ok (x :: xs) S2 = Res.ok rs S' from h4)
    show xs.length + 1 = r.nms.length + 1
    rw [ek_len C r ρ S1 xs S' h3]
/-! ### the static tables -/
structure SC where
  N : List Str
  sc : Scope
  calm : Bool
structure ST where
  T : Tab
  tops : List (Nat × Str)
  hots : List (Nat × Str)
  cls : List (Str × Nat)
  attrs : List (Str × Str)
  xcs : List (Str × List Str)
  blt : List Str
  gis : List (Str × Int)
  exn : List Str
  kws : List (Nat × Nat × List Str × List Nat)
  math : List (Str × String)
def okV (Γ : SC) (i : Nat) (x : Str) : Bool := decide (Γ.N[i]? = some x) && (match Γ.sc.names.lookup x with | some .local => true | some .cell => true | some .free => true | _ => false) && !(x == ("__debug__" : Str)) && !(x == ("__classdict__" : Str))
def okG (Γ : SC) (x : Str) : Bool := decide (Γ.sc.names.lookup x = some .globalImplicit)
def okN (Γ : SC) (i : Nat) (x : Str) : Bool := decide (Γ.N[i]? = some x) && (match Γ.sc.names.lookup x with | some .local => true | some .cell => true | _ => false)
def okT (Γ : SC) : IT → Bool
  | .one i x _ => okN Γ i x
  | .many l _ _ => Γ.calm && l.all fun q => okN Γ q.1 q.2.1
def IT.many? : IT → Bool
  | .one _ _ _ => false
  | .many _ _ _ => true
def Cop.isEq : Cop → Bool
  | .eq => true
  | .ne => true
  | _ => false
def Bf.calm : Bf → Bool
  | .max => true
  | .min => true
  | .sum => true
  | .all => true
  | .tuple => true
  | .list => true
  | _ => false
mutual
def okE (s : ST) (Γ : SC) : IE → Bool
  | .var i x _ => okV Γ i x
  | .int _ _ _ => true
  | .bl _ _ _ => true
  | .non _ _ => true
  | .str _ _ _ => true
  | .gint i x _ => okG Γ x && decide ((x, i) ∈ s.gis) && !(x == ("__debug__" : Str))
  | .bin _ _ a b _ => okE s Γ a && okE s Γ b
  | .neg a _ => okE s Γ a
  | .cmp _ a b _ => okE s Γ a && okE s Γ b
  | .isN _ a _ _ _ => okE s Γ a
  | .not a _ => okE s Γ a && okTst a
  | .and a r _ => okE s Γ a && okTst a && okEs s Γ r && okTsts r
  | .or a r _ => okE s Γ a && okTst a && okEs s Γ r && okTsts r
  | .ifx c a b _ => okE s Γ c && okTst c && okE s Γ a && okE s Γ b
  | .lst _ es _ => okEs s Γ es && decide (es.len ≤ 1000)
  | .tup es _ _ => okEs s Γ es && decide (es.len ≤ 1000)
  | .ix a i _ => okE s Γ a && okE s Γ i && plainI i
  | .sl _ a lo hi _ _ => okE s Γ a && okEs s Γ lo && decide (lo.len ≤ 1) && okEs s Γ hi && decide (hi.len ≤ 1)
  | .attr a c f _ => okE s Γ a && decide ((c, f) ∈ s.attrs) && plainB a
  | .call f x a es _ _ => okG Γ x && (if Γ.calm then decide ((f, x) ∈ s.tops) else decide ((f, x) ∈ s.hots)) && okE s Γ a && okEs s Γ es
  | .callK f x a es kw pm _ _ => Γ.calm && okG Γ x && decide ((f, x) ∈ s.tops) && decide ((f, es.len + 1, kw.nms, pm) ∈ s.kws) && okE s Γ a && okEs s Γ es && okKs s Γ kw
  | .callKK f x kw pm _ _ => Γ.calm && okG Γ x && decide ((f, x) ∈ s.tops) && decide ((f, 0, kw.nms, pm) ∈ s.kws) && okKs s Γ kw
  | .bi _ f a es _ _ => (Γ.calm || !f.calm) && okG Γ f.x && decide (f.x ∈ s.blt) && okE s Γ a && okEs s Γ es
  | .gcd l a b _ _ => okG Γ (if l then "lcm" else "gcd") && decide (((if l then "lcm" else "gcd" : Str), (if l then "math.lcm" else "math.gcd")) ∈ s.math) && okE s Γ a && okE s Γ b
  | .make _ f c a es _ _ => Γ.calm && okG Γ c && decide ((c, f) ∈ s.cls) && okE s Γ a && okEs s Γ es
  | .meth _ _ _ _ _ _ _ => false
  | .lmeth o n es p1 p => okE s Γ o && okEs s Γ es && plainB o && decide (es.len < 20) && (p1.endLine == p.line) && (match n, es with
    | .append, .nil => false
    | _, _ => true)
  | .isT a T _ _ _ => okG Γ "isinstance" && decide (("isinstance" : Str) ∈ s.blt) && okG Γ T.x && decide (T.x ∈ s.blt) && okE s Γ a
  | .isC _ _ _ _ _ => false
  | .xIs i x c _ _ _ _ => okV Γ i x && okG Γ "isinstance" && decide (("isinstance" : Str) ∈ s.blt) && okG Γ c && decide (c ∈ s.exn)
  | .xAt i x _ _ _ => okV Γ i x
  | .lc _ e t it cs own sc _ => Γ.calm && okII s Γ t.many? it && blkC Γ.N Γ.sc sc own && okT ⟨Γ.N, sc, true⟩ t && (t.ix.all fun i => decide (i ∈ own.map (·.2))) && okEs s ⟨Γ.N, sc, true⟩ cs && okTsts cs && decide (cs.len ≤ 1) && okE s ⟨Γ.N, sc, true⟩ e
  | .lc2 _ e t it cs t2 it2 cs2 own vs2 sc _ => Γ.calm && okII s Γ t.many? it && blkC Γ.N Γ.sc sc own && okT ⟨Γ.N, sc, true⟩ t && (t.ix.all fun i => decide (i ∈ own.map (·.2))) && okEs s ⟨Γ.N, sc, true⟩ cs && okTsts cs && decide (cs.len ≤ 1) &&
      okII s ⟨Γ.N, sc, true⟩ t2.many? it2 && okT ⟨Γ.N, sc, true⟩ t2 && (t2.ix.all fun i => decide (i ∈ vs2)) && (vs2.all fun i => decide (i ∈ own.map (·.2))) && okEs s ⟨Γ.N, sc, true⟩ cs2 && okTsts cs2 && decide (cs2.len ≤ 1) && okE s ⟨Γ.N, sc, true⟩ e
def okEs (s : ST) (Γ : SC) : IEs → Bool
  | .nil => true
  | .cons e r => okE s Γ e && okEs s Γ r
def okKs (s : ST) (Γ : SC) : IKs → Bool
  | .nil => true
  | .cons _ e _ r => okE s Γ e && okKs s Γ r
def okII (s : ST) (Γ : SC) (m : Bool) : II → Bool
  | .of e => okE s Γ e
  | .rng1 a _ _ => okG Γ "range" && decide (("range" : Str) ∈ s.blt) && okE s Γ a
  | .rng2 a b _ _ => okG Γ "range" && decide (("range" : Str) ∈ s.blt) && okE s Γ a && okE s Γ b
  | .enum a _ _ => m && okG Γ "enumerate" && decide (("enumerate" : Str) ∈ s.blt) && okE s Γ a
  | .zip a b _ _ => m && okG Γ "zip" && decide (("zip" : Str) ∈ s.blt) && okE s Γ a && okE s Γ b
  | .zip3 _ _ _ _ _ => false
/-- fit to be a test -/
def okTst : IE → Bool
  | .ifx _ _ _ _ => false
  | _ => true
def okTsts : IEs → Bool
  | .nil => true
  | .cons e r => okTst e && okTsts r
end
end MP
set_option Elab.async false
set_option linter.all false
set_option maxRecDepth 100000
set_option maxHeartbeats 4000000
/-! MPSound: what is sound of expressions. -/
namespace MP
open PySem PySem.Spec PyProof.Rows L2
/-- where the defs and the classes stand -/
structure FA where
  adr : Nat → Addr
  fd : Nat → FuncData
  ps : Nat → List Str
/-- the promise of the n-th evaluation -/
def spF (K : PySem.W.Frag) (T : Tab) (n f : Nat) : Sp := fun vs H Q E => ∃ w S rs, w.H = H ∧ SR K w S ∧ Rels K w rs vs ∧ Hop K (Rel K) E w Q (callN T n f rs S)
structure GF (P : Program) (w : World) (K : PySem.W.Frag) (mg : Str → Option Value) (base : Heap) (s : ST) (a : FA) : Prop where
  top : ∀ q ∈ s.tops, mg q.2 = some (.ref (a.adr q.1)) ∧ PySem.W.keepIn K (.ref (a.adr q.1)) = true ∧ Binds K (a.fd q.1) (a.ps q.1) [] ∧ (q.2 == ("__debug__" : Str)) = false ∧ ∃ F, s.T.fns[q.1]? = some F
  hot : ∀ q ∈ s.hots, q ∈ s.tops
  cls : ∀ q ∈ s.cls, Mk K (He.ga K q.1) (a.adr q.2) ∧ mg q.1 = some (.ref (He.ga K q.1)) ∧ Binds K (a.fd q.2) (a.ps q.2) [] ∧ (q.1 == ("__debug__" : Str)) = false ∧ ∃ F, s.T.fns[q.2]? = some F
  attrs : ∀ q ∈ s.attrs, Cls K (He.ga K q.1) ∧ NoAttr K (He.ga K q.1) q.2
  blt : ∀ x ∈ s.blt, mg x = none
  gis : ∀ q ∈ s.gis, ∃ t, mg q.1 = some (.int q.2 t)
  exn : ∀ x ∈ s.exn, mg x = some (.ref (He.ga K x)) ∧ (x == ("__debug__" : Str)) = false
  kws : ∀ q ∈ s.kws, KwB (a.fd q.1) (a.ps q.1) q.2.1 q.2.2.1 q.2.2.2
  math : ∀ q ∈ s.math, mg q.1 = some (.builtin q.2)
  sub : ∀ c' c b, s.T.sub c' c = some b → c ∈ s.exn → ExcC K (He.ga K c') ∧ PySem.W.kitOne K (.ref (He.ga K c')) (.ref (He.ga K c)) = some b
  subE : SubE K s.T.sub
  xf : ∀ c f, s.T.xf c f = true → XfC K (He.ga K c) ∧ PySem.W.findIn K (.ref (He.ga K c)) f = some none
  xcs : ∀ q ∈ s.xcs, ∃ fI fd ps, OexC K (He.ga K q.1) ∧ PySem.W.findIn K (.ref (He.ga K q.1)) "__init__" = some (some (.ref fI)) ∧ PySem.W.typeIn K (.ref fI) = some (.type "function") ∧ q.2 ≠ [] ∧ q.2.length ≤ 900 ∧
    FnOk P w K mg base (L2N.CX P w) 1 fI fd ps (spO (He.ga K q.1) q.2) ∧ Binds K fd ps [] ∧ mg q.1 = some (.ref (He.ga K q.1)) ∧ (q.1 == ("__debug__" : Str)) = false
/-- the defs keep their promises at level n -/
structure FL (P : Program) (w : World) (K : PySem.W.Frag) (mg : Str → Option Value) (base : Heap) (s : ST) (a : FA) (n : Nat) : Prop where
  calm : ∀ f F, s.T.fns[f]? = some F → FnOk P w K mg base (L2N.CX P w) (3 * n) (a.adr f) (a.fd f) (a.ps f) (spF K s.T n f)
  hot : ∀ q ∈ s.hots, L2H.FnH P w K mg base (L2N.CX P w) (3 * n) (a.adr q.1) (a.fd q.1) (a.ps q.1) (spF K s.T n q.1)
structure XF (s : ST) (a : FA) (n : Nat) (Γ : SC) (X : Cx) (xr : XR) (W : WX) : Prop where
  gf : GF X.prog X.w X.K X.mg X.base s a
  fl : FL X.prog X.w X.K X.mg X.base s a n
  N : X.N = Γ.N
  nd : X.N.Nodup
  sc : ∀ x k, Γ.sc.names.lookup x = some k → X.env.scope.names.lookup x = some k ∨ (k = .free ∧ X.env.scope.names.lookup x = some .cell)
  fnc : ∀ x, Γ.sc.names.lookup x = some .cell → X.fn x = true
  calm : Γ.calm = true → X.calm = true ∧ Room (3 * n + 2) X.A ∧ xr = xr0
  hot : Γ.calm = false → L2H.RoomH (3 * n + 2) X.A ∧ L2H.HotC X ∧ XAt X xr
  tk : L2N.Takes X W
  xok : xr.Ok
section
variable {s : ST} {a : FA} {n : Nat} {Γ : SC} {X : Cx} {xr : XR} {W : WX}
theorem XF.units (x : XF s a n Γ X xr W) : X.A.units + 64 < cLine := by
  cases h : Γ.calm with
  | true => exact (x.calm h).2.1.units
  | false =>
    have := (x.hot h).1.un
    omega
theorem XF.xat (x : XF s a n Γ X xr W) : XAt X xr := by
  cases h : Γ.calm with
  | true =>
    have e := (x.calm h).2.2
    subst e
    exact fun _ _ _ _ _ z => z.elim
  | false => exact (x.hot h).2.2
theorem XF.gl (x : XF s a n Γ X xr W) {y : Str} (h : okG Γ y = true) : Gl X y := by
  rcases x.sc y _ (of_decide_eq_true h) with q | q
  · exact q
  · cases q.1
theorem XF.vis (x : XF s a n Γ X xr W) {i : Nat} {y : Str} (h : okV Γ i y = true) : X.N[i]? = some y ∧ Vis X.env.scope y ∧ (y == ("__debug__" : Str)) = false ∧ (y == ("__classdict__" : Str)) = false := by
  unfold okV at h
  rw [Bool.and_eq_true, Bool.and_eq_true, Bool.and_eq_true] at h
  obtain ⟨⟨⟨h1, h2⟩, h3⟩, h4⟩ := h
  refine ⟨by rw [x.N]; exact of_decide_eq_true h1, ?_, by simpa using h3, by simpa using h4⟩
  cases e : Γ.sc.names.lookup y with
  | none => rw [e] at h2; cases h2
  | some k =>
    rcases x.sc y k e with q | ⟨q1, q2⟩
    · cases k with
      | «local» => exact .inl q
      | cell => exact .inr (.inl q)
      | free => exact .inr (.inr q)
      | _ => rw [e] at h2; cases h2
    · exact .inr (.inl q2)
theorem XF.nm (x : XF s a n Γ X xr W) {i : Nat} {y : Str} (h : okN Γ i y = true) : NmOk X i y := by
  unfold okN at h
  rw [Bool.and_eq_true] at h
  obtain ⟨h1, h2⟩ := h
  have e1 : X.N[i]? = some y := by rw [x.N]; exact of_decide_eq_true h1
  cases e : Γ.sc.names.lookup y with
  | none => rw [e] at h2; cases h2
  | some k =>
    rcases x.sc y k e with q | ⟨q1, q2⟩
    · cases k with
      | «local» => exact ⟨e1, .inl q, .inr q⟩
      | cell => exact ⟨e1, .inr q, .inl (x.fnc y e)⟩
      | _ => rw [e] at h2; cases h2
    · subst q1
      rw [e] at h2
      cases h2
theorem XF.tg (x : XF s a n Γ X xr W) {t : IT} (h : okT Γ t = true) : ITOk X t := by
  cases t with
  | one i y p => exact x.nm h
  | many l k p =>
    have h : (Γ.calm && l.all fun q => okN Γ q.1 q.2.1) = true := h
    rw [Bool.and_eq_true] at h
    exact ⟨(x.calm h.1).1, fun q hq => x.nm (List.all_eq_true.mp h.2 q hq)⟩
/-- within a comprehension -/
theorem XF.blk (x : XF s a n Γ X xr W) (hc : Γ.calm = true) (sc : Scope) : Blks X sc fun Y => XF s a n ⟨Γ.N, sc, true⟩ Y xr W0 := fun st H C cl fp =>
  { gf := x.gf
    fl := x.fl
    N := x.N
    nd := x.nd
    sc := fun y k h => by
      have e : ∀ (names : List (Str × NameKind)) (k : NameKind), names.lookup y = some k → (names.map fun (n, k) => if (k == NameKind.free && X.env.scope.kind == .function && X.env.kindOf n == some .cell) then (n, NameKind.cell) else (n, k)).lookup y = some k ∨ (k = .free ∧ (names.map fun (n, k) => if (k == NameKind.free && X.env.scope.kind == .function && X.env.kindOf n == some .cell) then (n, NameKind.cell) else (n, k)).lookup y = some .cell) := by
        intro names
        induction names with
        | nil => intro k h; cases h
        | cons q r ih =>
          intro k h
          obtain ⟨z, kz⟩ := q
          rw [List.lookup_cons] at h
          rw [List.map_cons]
          by_cases hz : y == z
          · rw [hz] at h
            cases h
            by_cases hk : (k == NameKind.free && X.env.scope.kind == .function && X.env.kindOf z == some .cell) = true
            · right
              refine ⟨?_, ?_⟩
              · rw [Bool.and_eq_true, Bool.and_eq_true] at hk
                exact eq_of_beq hk.1.1
              · simp only [if_pos hk]
                rw [List.lookup_cons, hz]
            · left
              simp only [if_neg hk]
              rw [List.lookup_cons, hz]
          · have hz' : (y == z) = false := by simpa using hz
            rw [hz'] at h
            have q := ih k h
            have lk : ∀ (w : Str × NameKind) (l : List (Str × NameKind)), w.1 = z → (w :: l).lookup y = l.lookup y := fun w l hw => by
              obtain ⟨w1, w2⟩ := w
              have hw' : w1 = z := hw
              subst hw'
              rw [List.lookup_cons, hz']
            have one : (if (kz == NameKind.free && X.env.scope.kind == .function && X.env.kindOf z == some .cell) = true then (z, NameKind.cell) else (z, kz)).1 = z := by split <;> rfl
            rw [lk _ _ one]
            exact q
      exact e sc.names k h
    fnc := fun y h => by
      show (sc.names.lookup y == some .cell) = true
      have h : sc.names.lookup y = some .cell := h
      rw [h]
      rfl
    calm := fun _ => x.calm hc
    hot := fun h => Bool.noConfusion h
    tk := takes0
    xok := x.xok }
theorem spF_ok {K : PySem.W.Frag} {T : Tab} {n f : Nat} : SpOk K (spF K T n f) (fun rs => callN T n f rs) := fun w S rs vs Q E s r h => ⟨w, S, rs, rfl, s, r, h⟩
/-! ### built-in functions -/
theorem e_bif {m : Bool} {e : Expr} {es : List Expr} {ma : MP.Env → M R} {ms : MP.Env → M (List R)} {p0 pos : Pos} (f : Bf) (hx : xr.Ok) (hc : f.calm = true → X.calm = true) (hg : Gl X f.x) (hm : X.mg f.x = none)
    (he : starEach (e :: es) X.env = (false, eval e X.env) :: starEach es X.env) (hpl : (backTo pos (starEach es X.env)).any (·.1) = false) (ha : EOk X xr W e ma) (hs : AOk X xr W es ms) :
    EOk X xr W (.Call (.Name f.x p0) (e :: es) [] pos) (fun ρ => M.bind (ma ρ) fun x => M.bind (ms ρ) fun xs => biR m f (x :: xs)) := by
  cases f with
  | len => exact e_bi hx call_len_seq hg hm (by first | rfl | decide +kernel) (by decide) (by decide) he hpl ha hs (len_ok m)
  | sum => exact e_bi hx (cr_sumAny (hc rfl)) hg hm (by first | rfl | decide +kernel) (by decide) (by decide) he hpl ha hs (sum_ok m)
  | int => exact e_biT hx call_int1 hg hm (by first | rfl | decide +kernel) (by decide) (by decide) he hpl ha hs (int_ok m)
  | abs => exact e_bi hx call_abs hg hm (by first | rfl | decide +kernel) (by decide) (by decide) he hpl ha hs (abs_ok m)
  | max => exact e_bi hx (cr_maxAny (hc rfl)) hg hm (by first | rfl | decide +kernel) (by decide) (by decide) he hpl ha hs (max_ok m)
  | min => exact e_bi hx (cr_minAny (hc rfl)) hg hm (by first | rfl | decide +kernel) (by decide) (by decide) he hpl ha hs (min_ok m)
  | all => exact e_bi hx (cr_all (hc rfl)) hg hm (by first | rfl | decide +kernel) (by decide) (by decide) he hpl ha hs (all_ok m)
  | list => exact e_biT hx call_list_of hg hm (by first | rfl | decide +kernel) (by decide) (by decide) he hpl ha hs (list_ok m)
  | tuple => exact e_biT hx call_tuple_of hg hm (by first | rfl | decide +kernel) (by decide) (by decide) he hpl ha hs (tuple_ok m)
end
end MP
set_option Elab.async false
set_option linter.all false
set_option maxRecDepth 100000
set_option maxHeartbeats 4000000
/-! MPSound2: expressions are sound. -/
namespace MP
open PySem PySem.Spec PyProof.Rows L2
section
variable {X : Cx} {xr : XR} {W : WX} {a b : IE} {ma mb : MP.Env → M R} {p : Pos}
theorem b_op (hx : xr.Ok) (m : Bool) (op : Bop) (ha : EOk X xr W a.e ma) (hb : EOk X xr W b.e mb) : EOk X xr W (.BinOp a.e op.o b.e p) (fun ρ => M.bind (ma ρ) fun x => M.bind (mb ρ) fun y => binR m op x y) := by
  cases op with
  | add => exact e_bin2 hx op_addAny (binadd_ok m) ha hb
  | sub => exact e_bin2 hx op_sub (fun w S x y u v E Q s r1 r2 h => rI_I0 (binsub_ok m w S x y u v E Q s r1 r2 h)) ha hb
  | mul => exact e_bin2 hx op_mulAny (binmul_ok m) ha hb
  | fdiv => exact e_bin2 hx op_fdivW (bindiv_ok m) ha hb
  | mod => exact e_bin2 hx op_mod (binmod_ok m) ha hb
  | pow => exact e_bin2 hx op_powW (binpow_ok m) ha hb
theorem b_cmp (hx : xr.Ok) (hu : X.A.units + 64 < cLine) (op : Cop) (ha : EOk X xr W a.e ma) (hb : EOk X xr W b.e mb) : EOk X xr W (.Compare a.e [op.o] [b.e] p) (fun ρ => M.bind (ma ρ) fun x => M.bind (mb ρ) fun y => cmpR op x y) ∧
    TOk X xr W (.Compare a.e [op.o] [b.e] p) (fun ρ => M.bind (M.bind (ma ρ) fun x => M.bind (mb ρ) fun y => cmpR op x y) truB) := by
  have hm := behind_ok op b
  cases op with
  | lt =>
    have k := cmp_int (X := X) (op := .lt) (g := fun i j => decide (i < j)) (fun x y S h => cmpR_n .lt (fun z => nomatch z) (fun z => nomatch z) x y S h) (fun _ _ _ => rfl)
    exact ⟨e_cmp2 hx op_lt hm k ha hb, t_cmp2 hx op_lt hm k ha hb⟩
  | le =>
    have k := cmp_int (X := X) (op := .le) (g := fun i j => decide (i ≤ j)) (fun x y S h => cmpR_n .le (fun z => nomatch z) (fun z => nomatch z) x y S h) (fun _ _ _ => rfl)
    exact ⟨e_cmp2 hx op_le hm k ha hb, t_cmp2 hx op_le hm k ha hb⟩
  | gt =>
    have k := cmp_int (X := X) (op := .gt) (g := fun i j => decide (j < i)) (fun x y S h => cmpR_n .gt (fun z => nomatch z) (fun z => nomatch z) x y S h) (fun _ _ _ => rfl)
    exact ⟨e_cmp2 hx op_gt hm k ha hb, t_cmp2 hx op_gt hm k ha hb⟩
  | ge =>
    have k := cmp_int (X := X) (op := .ge) (g := fun i j => decide (j ≤ i)) (fun x y S h => cmpR_n .ge (fun z => nomatch z) (fun z => nomatch z) x y S h) (fun _ _ _ => rfl)
    exact ⟨e_cmp2 hx op_ge hm k ha hb, t_cmp2 hx op_ge hm k ha hb⟩
  | eq => exact ⟨e_cmp2 hx (op_eqAny hu) hm cmpeq_ok ha hb, t_cmp2 hx (op_eqAny hu) hm cmpeq_ok ha hb⟩
  | ne => exact ⟨e_cmp2 hx (op_neAny hu) hm cmpne_ok ha hb, t_cmp2 hx (op_neAny hu) hm cmpne_ok ha hb⟩
/-- both, for an expression that is tested by its value -/
theorem both {e : IE} {m : MP.Env → M R} (h : EOk X xr W e.e m) (hv : tstV e = true) : EOk X xr W e.e m ∧ (okTst e = true → TOk X xr W e.e (fun ρ => M.bind (m ρ) truB)) := ⟨h, fun _ => t_val h (tst_ok e X.env hv)⟩
end
abbrev SE (s : ST) (a : FA) (n : Nat) (e : IE) : Prop := ∀ (Γ : SC) (X : Cx) (xr : XR) (W : WX), XF s a n Γ X xr W → okE s Γ e = true → EOk X xr W e.e (evE (s.T.C n).toCalls e) ∧ (okTst e = true → TOk X xr W e.e (fun ρ => M.bind (evE (s.T.C n).toCalls e ρ) truB))
structure SEs' (s : ST) (n : Nat) (X : Cx) (xr : XR) (W : WX) (es : IEs) : Prop where
  all : AOk X xr W es.es (evEs (s.T.C n).toCalls es)
  bool : okTsts es = true → es ≠ .nil → ∀ p, (EOk X xr W (.BoolOp .And es.es p) (evAnd (s.T.C n).toCalls es) ∧ WOk X xr W (.BoolOp .And es.es p) (fun ρ => M.bind (evAnd (s.T.C n).toCalls es ρ) truB)) ∧
    (EOk X xr W (.BoolOp .Or es.es p) (evOr (s.T.C n).toCalls es) ∧ WOk X xr W (.BoolOp .Or es.es p) (fun ρ => M.bind (evOr (s.T.C n).toCalls es ρ) truB))
  ifs : okTsts es = true → es.len ≤ 1 → TsOk X xr W es.es (evTs (s.T.C n).toCalls es)
  opt : es.len ≤ 1 → POk X xr W es.o (fun ρ => M.bind (evEs (s.T.C n).toCalls es ρ) optI)
abbrev SEs (s : ST) (a : FA) (n : Nat) (es : IEs) : Prop := ∀ (Γ : SC) (X : Cx) (xr : XR) (W : WX), XF s a n Γ X xr W → okEs s Γ es = true → SEs' s n X xr W es
abbrev SKs (s : ST) (a : FA) (n : Nat) (es : IKs) : Prop := ∀ (Γ : SC) (X : Cx) (xr : XR) (W : WX), XF s a n Γ X xr W → okKs s Γ es = true → KOk X xr W es.ks (evKs (s.T.C n).toCalls es)
abbrev SII (s : ST) (a : FA) (n : Nat) (it : II) : Prop := ∀ (Γ : SC) (X : Cx) (xr : XR) (W : WX), XF s a n Γ X xr W → ∀ t : IT, okII s Γ t.many? it = true → IOk X xr W t.e it.e (evII (s.T.C n).toCalls it)
section
variable {s : ST} {a : FA} {n : Nat} {Γ : SC} {X : Cx} {xr : XR} {W : WX}
theorem c_nil : SEs' s n X xr W .nil where
  all := a_nil
  bool := fun _ h => absurd rfl h
  ifs := fun _ _ => ts_nil
  opt := fun _ => o_none
theorem c_cons {e : IE} {r : IEs} (x : XF s a n Γ X xr W) (he : EOk X xr W e.e (evE (s.T.C n).toCalls e) ∧ (okTst e = true → TOk X xr W e.e (fun ρ => M.bind (evE (s.T.C n).toCalls e ρ) truB))) (hr : SEs' s n X xr W r) : SEs' s n X xr W (.cons e r) where
  all := a_cons x.xok he.1 hr.all (star_e e _ _)
  bool := fun ht _ p => by
    have ht : (okTst e && okTsts r) = true := by simpa only [okTsts] using ht
    rw [Bool.and_eq_true] at ht
    cases r with
    | nil => exact ⟨⟨e_one he.1, w_one (he.2 ht.1)⟩, ⟨e_one he.1, w_one (he.2 ht.1)⟩⟩
    | cons e2 r2 =>
      have q := hr.bool ht.2 (fun z => nomatch z) p
      exact ⟨⟨e_and x.xok he.1 q.1.1, w_and x.xok (he.2 ht.1) q.1.2⟩, ⟨e_or x.xok he.1 q.2.1, w_or x.xok (he.2 ht.1) q.2.2⟩⟩
  ifs := fun ht hl => by
    have ht : (okTst e && okTsts r) = true := by simpa only [okTsts] using ht
    rw [Bool.and_eq_true] at ht
    cases r with
    | nil => exact ts_one (he.2 ht.1)
    | cons e2 r2 => exact absurd hl (by simp [IEs.len])
  opt := fun hl => by
    cases r with
    | nil =>
      have q := o_some he.1
      have e9 : (fun ρ => M.bind (evEs (s.T.C n).toCalls (.cons e .nil) ρ) optI) = fun ρ => M.bind (evE (s.T.C n).toCalls e ρ) fun x => optI [x] := by
        funext ρ
        show M.bind (M.bind _ fun x => M.bind (M.pure []) fun xs => M.pure (x :: xs)) optI = _
        rw [bind_assoc]
        rfl
      rw [e9]
      exact q
    | cons e2 r2 => exact absurd hl (by simp [IEs.len])
end
section
variable {s : ST} {a : FA} {n : Nat}
/-! ### the cases -/
theorem k_var {i x p} : SE s a n (.var i x p) := fun Γ X xr W x h => by
  simp only [okE] at h
  have v := x.vis h
  exact both (e := .var _ _ _) (e_var v.1 v.2.1 v.2.2.1 v.2.2.2) rfl
theorem k_int {i k p} : SE s a n (.int i k p) := fun Γ X xr W x h => both (e := .int _ _ _) e_int rfl
theorem k_bl {i k p} : SE s a n (.bl i k p) := fun Γ X xr W x h => both (e := .bl _ _ _) e_bl rfl
theorem k_non {k p} : SE s a n (.non k p) := fun Γ X xr W x h => both (e := .non _ _) e_non rfl
theorem k_str {z k p} : SE s a n (.str z k p) := fun Γ X xr W x h => both (e := .str _ _ _) e_str rfl
theorem k_gint {i y p} : SE s a n (.gint i y p) := fun Γ X xr W x h => by
  simp only [okE, Bool.and_eq_true, decide_eq_true_eq] at h
  exact both (e := .gint _ _ _) (e_gint (x.gl h.1.1) (x.gf.gis _ h.1.2) (by simpa using h.2)) rfl
theorem k_bin {m op e1 e2 p} (h1 : SE s a n e1) (h2 : SE s a n e2) : SE s a n (.bin m op e1 e2 p) := fun Γ X xr W x h => by
  simp only [okE, Bool.and_eq_true] at h
  exact both (e := .bin m op e1 e2 p) (b_op x.xok m op (h1 Γ X xr W x h.1).1 (h2 Γ X xr W x h.2).1) rfl
theorem k_neg {e1 p} (h1 : SE s a n e1) : SE s a n (.neg e1 p) := fun Γ X xr W x h => by
  simp only [okE] at h
  exact both (e := .neg e1 p) (e_neg (h1 Γ X xr W x h).1) rfl
theorem k_cmp {op e1 e2 p} (h1 : SE s a n e1) (h2 : SE s a n e2) : SE s a n (.cmp op e1 e2 p) := fun Γ X xr W x h => by
  simp only [okE, Bool.and_eq_true] at h
  have q := b_cmp (p := p) x.xok x.units op (h1 Γ X xr W x h.1).1 (h2 Γ X xr W x h.2).1
  exact ⟨q.1, fun _ => q.2⟩
theorem k_isN {b e1 k p1 p} (h1 : SE s a n e1) : SE s a n (.isN b e1 k p1 p) := fun Γ X xr W x h => by
  simp only [okE] at h
  have q := (h1 Γ X xr W x h).1
  exact ⟨e_isN q, fun _ => t_isN q⟩
theorem k_not {e1 p} (h1 : SE s a n e1) : SE s a n (.not e1 p) := fun Γ X xr W x h => by
  simp only [okE, Bool.and_eq_true] at h
  have q := h1 Γ X xr W x h.1
  exact ⟨e_not q.1, fun _ => t_not (q.2 h.2)⟩
theorem k_and {e1 r p} (h1 : SE s a n e1) (h2 : SEs s a n r) : SE s a n (.and e1 r p) := fun Γ X xr W x h => by
  simp only [okE, Bool.and_eq_true] at h
  have q := h1 Γ X xr W x h.1.1.1
  have c := c_cons x q (h2 Γ X xr W x h.1.2)
  have ht : okTsts (.cons e1 r) = true := by simp only [okTsts, Bool.and_eq_true]; exact ⟨h.1.1.2, h.2⟩
  have z := (c.bool ht (fun z => nomatch z) p).1
  cases r with
  | nil => exact ⟨z.1, fun _ => z.2.t⟩
  | cons e2 r2 => exact ⟨z.1, fun _ => z.2.t⟩
theorem k_or {e1 r p} (h1 : SE s a n e1) (h2 : SEs s a n r) : SE s a n (.or e1 r p) := fun Γ X xr W x h => by
  simp only [okE, Bool.and_eq_true] at h
  have q := h1 Γ X xr W x h.1.1.1
  have c := c_cons x q (h2 Γ X xr W x h.1.2)
  have ht : okTsts (.cons e1 r) = true := by simp only [okTsts, Bool.and_eq_true]; exact ⟨h.1.1.2, h.2⟩
  have z := (c.bool ht (fun z => nomatch z) p).2
  cases r with
  | nil => exact ⟨z.1, fun _ => z.2.t⟩
  | cons e2 r2 => exact ⟨z.1, fun _ => z.2.t⟩
theorem k_ifx {c e1 e2 p} (h0 : SE s a n c) (h1 : SE s a n e1) (h2 : SE s a n e2) : SE s a n (.ifx c e1 e2 p) := fun Γ X xr W x h => by
  simp only [okE, Bool.and_eq_true] at h
  exact ⟨e_ifx x.xok ((h0 Γ X xr W x h.1.1.1).2 h.1.1.2) (h1 Γ X xr W x h.1.2).1 (h2 Γ X xr W x h.2).1, fun z => by simp [okTst] at z⟩
theorem k_lst {m es p} (h1 : SEs s a n es) : SE s a n (.lst m es p) := fun Γ X xr W x h => by
  simp only [okE, Bool.and_eq_true, decide_eq_true_eq] at h
  exact both (e := .lst m es p) (e_lst m (h1 Γ X xr W x h.1).all fun ρ S rs S' e => by rw [ev_len _ _ _ _ _ _ e]; exact h.2) rfl
theorem k_tup {es k p} (h1 : SEs s a n es) : SE s a n (.tup es k p) := fun Γ X xr W x h => by
  simp only [okE, Bool.and_eq_true, decide_eq_true_eq] at h
  exact both (e := .tup es k p) (e_tup (h1 Γ X xr W x h.1).all fun ρ S rs S' e => by rw [ev_len _ _ _ _ _ _ e]; exact h.2) rfl
theorem k_ix {e1 e2 p} (h1 : SE s a n e1) (h2 : SE s a n e2) : SE s a n (.ix e1 e2 p) := fun Γ X xr W x h => by
  simp only [okE, Bool.and_eq_true] at h
  exact both (e := .ix e1 e2 p) (e_ix x.xok (plainIx e2 h.2) (h1 Γ X xr W x h.1.1).1 (h2 Γ X xr W x h.1.2).1) rfl
theorem k_sl {m e1 lo hi p2 p} (h1 : SE s a n e1) (h2 : SEs s a n lo) (h3 : SEs s a n hi) : SE s a n (.sl m e1 lo hi p2 p) := fun Γ X xr W x h => by
  simp only [okE, Bool.and_eq_true, decide_eq_true_eq] at h
  exact both (e := .sl m e1 lo hi p2 p) (e_sl m x.xok (h1 Γ X xr W x h.1.1.1.1).1 ((h2 Γ X xr W x h.1.1.1.2).opt h.1.1.2) ((h3 Γ X xr W x h.1.2).opt h.2)) rfl
theorem k_attr {e1 c f p} (h1 : SE s a n e1) : SE s a n (.attr e1 c f p) := fun Γ X xr W x h => by
  simp only [okE, Bool.and_eq_true, decide_eq_true_eq] at h
  have q := x.gf.attrs _ h.1.2
  exact both (e := .attr e1 c f p) (e_attr q.1 q.2 (base_ok e1 f _ h.2) (h1 Γ X xr W x h.1.1).1) rfl
theorem k_call {f y e1 es p0 p} (h1 : SE s a n e1) (h2 : SEs s a n es) : SE s a n (.call f y e1 es p0 p) := fun Γ X xr W x h => by
  simp only [okE, Bool.and_eq_true] at h
  obtain ⟨⟨⟨hg, hf⟩, he⟩, hes⟩ := h
  refine both (e := .call f y e1 es p0 p) ?_ rfl
  cases hc : Γ.calm with
  | true =>
    rw [hc, if_pos rfl] at hf
    obtain ⟨g1, g2, g3, g4, F, g5⟩ := x.gf.top _ (of_decide_eq_true hf)
    exact e_call x.xok (x.fl.calm f F g5) spF_ok ((x.calm hc).2.1.mono (by omega)) (x.gl hg) g1 g2 g3 x.tk g4 (star_e e1 _ _) (plain_es p _ es) (h1 Γ X xr W x he).1 (h2 Γ X xr W x hes).all
  | false =>
    rw [hc, if_neg Bool.false_ne_true] at hf
    have hf := of_decide_eq_true hf
    obtain ⟨g1, g2, g3, g4, F, g5⟩ := x.gf.top _ (x.gf.hot _ hf)
    exact e_callH x.xok (x.fl.hot _ hf) spF_ok ((x.hot hc).1.mono (by omega)) (x.hot hc).2.1 (x.gl hg) g1 g2 g3 x.tk g4 (star_e e1 _ _) (plain_es p _ es) (h1 Γ X xr W x he).1 (h2 Γ X xr W x hes).all
theorem k_callK {f y e1 es kw pm p0 p} (h1 : SE s a n e1) (h2 : SEs s a n es) (h3 : SKs s a n kw) : SE s a n (.callK f y e1 es kw pm p0 p) := fun Γ X xr W x h => by
  simp only [okE, Bool.and_eq_true, decide_eq_true_eq] at h
  obtain ⟨⟨⟨⟨⟨⟨hc, hg⟩, hf⟩, hk⟩, he⟩, hes⟩, hkw⟩ := h
  obtain ⟨g1, g2, g3, g4, F, g5⟩ := x.gf.top _ hf
  obtain ⟨k1, k2, k3⟩ := kw_all p X.env kw
  refine both (e := .callK f y e1 es kw pm p0 p) (e_callK x.xok (x.fl.calm f F g5) spF_ok ((x.calm hc).2.1.mono (by omega)) (x.gl hg) g1 g2 (x.gf.kws _ hk) x.tk g4 (star_e e1 _ _) k1 k2 ?_ (h1 Γ X xr W x he).1 (h2 Γ X xr W x hes).all (h3 Γ X xr W x hkw)
    (fun ρ S xs S' e => by rw [ev_len _ _ _ _ _ _ e]) (fun ρ S xs S' e => ek_len _ _ _ _ _ _ e)) rfl
  rw [k3, show (backTo p (starEach (e1.e :: es.es) X.env)).any (·.1) = false from plain_es p X.env (.cons e1 es)]
  rfl
theorem k_callKK {f y kw pm p0 p} (h3 : SKs s a n kw) : SE s a n (.callKK f y kw pm p0 p) := fun Γ X xr W x h => by
  simp only [okE, Bool.and_eq_true, decide_eq_true_eq] at h
  obtain ⟨⟨⟨⟨hc, hg⟩, hf⟩, hk⟩, hkw⟩ := h
  obtain ⟨g1, g2, g3, g4, F, g5⟩ := x.gf.top _ hf
  obtain ⟨k1, k2, k3⟩ := kw_all p X.env kw
  refine both (e := .callKK f y kw pm p0 p) (e_callKK x.xok (x.fl.calm f F g5) spF_ok ((x.calm hc).2.1.mono (by omega)) (x.gl hg) g1 g2 (x.gf.kws _ hk) x.tk g4 k1 k2 ?_ (h3 Γ X xr W x hkw) (fun ρ S xs S' e => ek_len _ _ _ _ _ _ e)) rfl
  rw [k3]
  rfl
theorem k_bi {m f e1 es p0 p} (h1 : SE s a n e1) (h2 : SEs s a n es) : SE s a n (.bi m f e1 es p0 p) := fun Γ X xr W x h => by
  simp only [okE, Bool.and_eq_true, decide_eq_true_eq] at h
  obtain ⟨⟨⟨⟨hc, hg⟩, hb⟩, he⟩, hes⟩ := h
  refine both (e := .bi m f e1 es p0 p) (e_bif f x.xok (fun z => ?_) (x.gl hg) (x.gf.blt _ hb) (star_e e1 _ _) (plain_es p _ es) (h1 Γ X xr W x he).1 (h2 Γ X xr W x hes).all) rfl
  rw [z] at hc
  have hc' : Γ.calm = true := by simpa using hc
  exact (x.calm hc').1
theorem k_gcd {l e1 e2 p0 p} (h1 : SE s a n e1) (h2 : SE s a n e2) : SE s a n (.gcd l e1 e2 p0 p) := fun Γ X xr W x h => by
  simp only [okE, Bool.and_eq_true, decide_eq_true_eq] at h
  obtain ⟨⟨⟨hg, hm⟩, ha⟩, hb⟩ := h
  have q := x.gf.math _ hm
  have s2 : starEach [e2.e] X.env = (false, eval e2.e X.env) :: starEach [] X.env := star_e e2 _ _
  have pl : (backTo p (starEach [e2.e] X.env)).any (·.1) = false := plain_es p _ (.cons e2 .nil)
  refine both (e := .gcd l e1 e2 p0 p) ?_ rfl
  cases l with
  | true => exact e_lcm x.xok (x.gl hg) q (by decide) (star_e e1 _ _) s2 pl (h1 Γ X xr W x ha).1 (h2 Γ X xr W x hb).1
  | false => exact e_gcd x.xok (x.gl hg) q (by decide) (star_e e1 _ _) s2 pl (h1 Γ X xr W x ha).1 (h2 Γ X xr W x hb).1
theorem k_make {m f c e1 es p0 p} (h1 : SE s a n e1) (h2 : SEs s a n es) : SE s a n (.make m f c e1 es p0 p) := fun Γ X xr W x h => by
  simp only [okE, Bool.and_eq_true, decide_eq_true_eq] at h
  obtain ⟨⟨⟨⟨hc, hg⟩, hf⟩, he⟩, hes⟩ := h
  obtain ⟨g1, g2, g3, g4, F, g5⟩ := x.gf.cls _ hf
  exact both (e := .make m f c e1 es p0 p) (e_make (CC := (s.T.C n).toCalls) (fi := f) x.xok g1 (x.fl.calm f F g5) spF_ok ((x.calm hc).2.1.mono (by omega)) (x.gl hg) g2 g3 x.tk g4 (star_e e1 _ _) (plain_es p _ es) (h1 Γ X xr W x he).1 (h2 Γ X xr W x hes).all) rfl
theorem k_lmeth {o nm es p1 p} (h1 : SE s a n o) (h2 : SEs s a n es) : SE s a n (.lmeth o nm es p1 p) := fun Γ X xr W x h => by
  simp only [okE, Bool.and_eq_true, decide_eq_true_eq] at h
  obtain ⟨⟨⟨⟨⟨ho, hes⟩, hb⟩, hl⟩, hp⟩, hn⟩ := h
  refine both (e := .lmeth o nm es p1 p) ?_ rfl
  have qo := (h1 Γ X xr W x ho).1
  have qs := h2 Γ X xr W x hes
  cases es with
  | nil =>
    cases nm with
    | append => cases hn
    | pop => exact e_lm0 PySem.F.slot_list_pop PySem.F.type_list_pop (mt_pop) pop_ok (base_ok o _ _ hb) hp qo
  | cons e1 r =>
    have few : ((backTo p (starEach (e1.e :: r.es) X.env)).all (fun x => !x.1) && (backToKw p (keywordEach [] X.env)).all (fun x => x.1.isSome) && decide ((e1.e :: r.es).length + ([] : List Keyword).length + (if ([] : List Keyword).isEmpty then 0 else 1) < 30)) = true := by
      have q1 := allp_es p X.env (.cons e1 r)
      have q2 : (e1.e :: r.es).length = (IEs.cons e1 r).len := len_es (.cons e1 r)
      rw [Bool.and_eq_true, Bool.and_eq_true]
      refine ⟨⟨q1, rfl⟩, decide_eq_true ?_⟩
      rw [q2]
      show (IEs.cons e1 r).len + 0 + 0 < 30
      omega
    have ne : ∀ ρ S rs S', evEs (s.T.C n).toCalls (.cons e1 r) ρ S = .ok rs S' → rs ≠ [] := fun ρ S rs S' e z => by
      have q := ev_len _ _ _ _ _ _ e
      rw [z] at q
      cases q
    cases nm with
    | append => exact e_lm x.xok PySem.F.slot_list_append PySem.F.type_list_append (mt_append) (fun w S y u rs vs E Q s1 r1 _ r2 h => append_ok w S y u rs vs E Q s1 r1 r2 h) ne (base_ok o _ _ hb) few hp (star_e e1 _ _) (plain_es p _ r) qo qs.all
    | pop => exact e_lm x.xok PySem.F.slot_list_pop PySem.F.type_list_pop (mt_popAt) popAt_ok ne (base_ok o _ _ hb) few hp (star_e e1 _ _) (plain_es p _ r) qo qs.all
theorem k_isT {e1 T p1 p0 p} (h1 : SE s a n e1) : SE s a n (.isT e1 T p1 p0 p) := fun Γ X xr W x h => by
  simp only [okE, Bool.and_eq_true, decide_eq_true_eq] at h
  obtain ⟨⟨⟨⟨hg, hb⟩, hgT⟩, hbT⟩, ha⟩ := h
  exact both (e := .isT e1 T p1 p0 p) (e_isT T (x.gl hg) (x.gf.blt _ hb) (x.gl hgT) (x.gf.blt _ hbT) (star_e e1 _ _) rfl rfl (h1 Γ X xr W x ha).1) rfl
theorem k_xIs {i y c px p1 p0 p} : SE s a n (.xIs i y c px p1 p0 p) := fun Γ X xr W x h => by
  simp only [okE, Bool.and_eq_true, decide_eq_true_eq] at h
  obtain ⟨⟨⟨⟨hv, hg⟩, hb⟩, hgc⟩, hc⟩ := h
  have v := x.vis hv
  have q := x.gf.exn _ hc
  exact both (e := .xIs i y c px p1 p0 p) (x_is x.xat v.1 v.2.1 v.2.2.1 v.2.2.2 (x.gl hg) (x.gf.blt _ hb) (x.gl hgc) q.1 q.2 (fun c' b e => x.gf.sub c' c b e hc) rfl rfl rfl) rfl
theorem k_xAt {i y f px p} : SE s a n (.xAt i y f px p) := fun Γ X xr W x h => by
  simp only [okE] at h
  have v := x.vis h
  exact both (e := .xAt i y f px p) (x_at x.xat v.1 v.2.1 v.2.2.1 v.2.2.2 (fun c e => x.gf.xf c f e) rfl) rfl
theorem k_lc {m e t it cs own sc p} (h1 : SE s a n e) (h2 : SII s a n it) (h3 : SEs s a n cs) : SE s a n (.lc m e t it cs own sc p) := fun Γ X xr W x h => by
  simp only [okE, Bool.and_eq_true, decide_eq_true_eq] at h
  obtain ⟨⟨⟨⟨⟨⟨⟨⟨hc, hi⟩, hk⟩, ht⟩, ho⟩, hcs⟩, hts⟩, hl⟩, he⟩ := h
  have own_ok : BlkOk X.N X.env.scope sc own := by
    have q := blkOk_by hk
    rw [x.N]
    refine ⟨q.kind, q.uniq, q.ix, fun y hy e => ?_, q.own⟩
    rcases q.free y hy e with z | z
    · rcases x.sc _ _ z with w | w
      · exact .inl w
      · cases w.1
    · rcases x.sc _ _ z with w | w
      · exact .inr w
      · exact .inl w.2
  have B := x.blk hc sc
  exact both (e := .lc m e t it cs own sc p) (e_lc x.xok (x.calm hc).1 x.nd (h2 Γ X xr W x t hi) own_ok (fun i hi => of_decide_eq_true (List.all_eq_true.mp ho i hi)) (fun st H C cl fp => (B st H C cl fp).tg ht)
    (fun st H C cl fp => (h3 _ _ xr W0 (B st H C cl fp) hcs).ifs hts hl) (fun st H C cl fp => (h1 _ _ xr W0 (B st H C cl fp) he).1) (folded_ok it X.env)) rfl
theorem blk_of {Γ : SC} {X : Cx} {xr : XR} {W : WX} {sc : Scope} {own : List (Str × Nat)} (x : XF s a n Γ X xr W) (hk : blkC Γ.N Γ.sc sc own = true) : BlkOk X.N X.env.scope sc own := by
  have q := blkOk_by hk
  rw [x.N]
  refine ⟨q.kind, q.uniq, q.ix, fun y hy e => ?_, q.own⟩
  rcases q.free y hy e with z | z
  · rcases x.sc _ _ z with w | w
    · exact .inl w
    · cases w.1
  · rcases x.sc _ _ z with w | w
    · exact .inr w
    · exact .inl w.2
theorem e_lc2 {X : Cx} {xr : XR} {W : WX} {elt iter iter2 : Expr} {ifs ifs2 : List Expr} {sc : Scope} {own : List (Str × Nat)} {pos : Pos} {t t2 : IT} {me : MP.Env → M R} {mc mc2 : MP.Env → M Bool} {mi mi2 : MP.Env → M (List Itm × Gd)} {m : Bool} {vs2 : List Nat}
    (hx : xr.Ok) (hc : X.calm = true) (hN : X.N.Nodup) (hi : IOk X xr W t.e iter mi) (ok : BlkOk X.N X.env.scope sc own) (hown : ∀ i ∈ t.ix, i ∈ own.map (·.2)) (hown2 : ∀ i ∈ t2.ix, i ∈ vs2) (hv : ∀ i ∈ vs2, i ∈ own.map (·.2)) (hg : Blks X sc fun Y => ITOk Y t) (hg2 : Blks X sc fun Y => ITOk Y t2)
    (ht : Blks X sc fun Y => TsOk Y xr W0 ifs mc) (ht2 : Blks X sc fun Y => TsOk Y xr W0 ifs2 mc2) (hi2 : Blks X sc fun Y => IOk Y xr W0 t2.e iter2 mi2) (he : Blks X sc fun Y => EOk Y xr W0 elt me) (hs : ∀ x, foldedSetIterable iter X.env x = pure x) (hs2 : ∀ env x, foldedSetIterable iter2 env x = pure x) :
    EOk X xr W (.ListComp elt [⟨t.e, iter, ifs, 0⟩, ⟨t2.e, iter2, ifs2, 0⟩] sc pos) (fun ρ => M.bind (mi ρ) fun q => M.bind (lcLoop q.2 (lcTurn t q.2 mc (fun ρ' => M.bind (mi2 ρ') fun q2 =>
      lcLoop q2.2 (lcTurn t2 q2.2 mc2 (fun ρ2 => M.bind (me ρ2) fun r => M.pure [r]) (wipeE ρ' vs2)) q2.1) (wipeE ρ (own.map (·.2)))) q.1) (lcOut m)) :=
  ⟨_, pe_lc2 (tt := rdT X.K xr W0 mc) (tt1 := rdT X.K xr W0 mc2) (wi1 := rdI X.K xr W0 mi2) (te := rdE X.K xr W0 me) hc hN hi.rd ok hv (fun s H C cl fp => pg_T (X := X.blk s H sc (compEnvC sc cl C X.env) fp) hN t (hg s H C cl fp)) (fun s H C cl fp => ht s H C cl fp)
    (fun s H C cl fp => (hi2 s H C cl fp).rd) (fun s H C cl fp => pg_T (X := X.blk s H sc (compEnvC sc cl C X.env) fp) hN t2 (hg2 s H C cl fp)) (fun s H C cl fp => ht2 s H C cl fp) (fun s H C cl fp => (he s H C cl fp).rd) hs hs2, lc2_rd hx hown hown2⟩
theorem k_lc2 {m e t it cs t2 it2 cs2 own vs2 sc p} (h1 : SE s a n e) (h2 : SII s a n it) (h3 : SEs s a n cs) (h4 : SII s a n it2) (h5 : SEs s a n cs2) : SE s a n (.lc2 m e t it cs t2 it2 cs2 own vs2 sc p) := fun Γ X xr W x h => by
  simp only [okE, Bool.and_eq_true, decide_eq_true_eq] at h
  obtain ⟨⟨⟨⟨⟨⟨⟨⟨⟨⟨⟨⟨⟨⟨⟨hc, hi⟩, hk⟩, ht⟩, ho⟩, hcs⟩, hts⟩, hl⟩, hi2⟩, ht2⟩, ho2⟩, hv⟩, hcs2⟩, hts2⟩, hl2⟩, he⟩ := h
  have B := x.blk hc sc
  exact both (e := .lc2 m e t it cs t2 it2 cs2 own vs2 sc p) (e_lc2 x.xok (x.calm hc).1 x.nd (h2 Γ X xr W x t hi) (blk_of x hk) (fun i hi => of_decide_eq_true (List.all_eq_true.mp ho i hi)) (fun i hi => of_decide_eq_true (List.all_eq_true.mp ho2 i hi)) (fun i hi => of_decide_eq_true (List.all_eq_true.mp hv i hi))
    (fun st H C cl fp => (B st H C cl fp).tg ht) (fun st H C cl fp => (B st H C cl fp).tg ht2)
    (fun st H C cl fp => (h3 _ _ xr W0 (B st H C cl fp) hcs).ifs hts hl) (fun st H C cl fp => (h5 _ _ xr W0 (B st H C cl fp) hcs2).ifs hts2 hl2) (fun st H C cl fp => h4 _ _ xr W0 (B st H C cl fp) t2 hi2) (fun st H C cl fp => (h1 _ _ xr W0 (B st H C cl fp) he).1) (folded_ok it X.env) (fun env => folded_ok it2 env)) rfl
theorem t_tup {t : IT} (h : t.many? = true) : ∃ elts kk tp, t.e = .Tuple elts kk tp := by
  cases t with
  | one => cases h
  | many l k p => exact ⟨_, _, _, rfl⟩
theorem k_of {e} (h1 : SE s a n e) : SII s a n (.of e) := fun Γ X xr W x t h => by
  simp only [okII] at h
  exact i_of (h1 Γ X xr W x h).1
theorem k_rng1 {e p0 p} (h1 : SE s a n e) : SII s a n (.rng1 e p0 p) := fun Γ X xr W x t h => by
  simp only [okII, Bool.and_eq_true, decide_eq_true_eq] at h
  exact i_rng1 (x.gl h.1.1) (x.gf.blt _ h.1.2) (star_e e _ _) (h1 Γ X xr W x h.2).1
theorem k_rng2 {e e2 p0 p} (h1 : SE s a n e) (h2 : SE s a n e2) : SII s a n (.rng2 e e2 p0 p) := fun Γ X xr W x t h => by
  simp only [okII, Bool.and_eq_true, decide_eq_true_eq] at h
  exact i_rng2 x.xok (x.gl h.1.1.1) (x.gf.blt _ h.1.1.2) (star_e e _ _) (star_e e2 _ _) rfl (h1 Γ X xr W x h.1.2).1 (h2 Γ X xr W x h.2).1
theorem k_enum {e p0 p} (h1 : SE s a n e) : SII s a n (.enum e p0 p) := fun Γ X xr W x t h => by
  simp only [okII, Bool.and_eq_true, decide_eq_true_eq] at h
  obtain ⟨l, k, tp, et⟩ := t_tup h.1.1.1
  rw [et]
  exact i_enum (x.gl h.1.1.2) (x.gf.blt _ h.1.2) (star_e e _ _) (h1 Γ X xr W x h.2).1
theorem k_zip {e e2 p0 p} (h1 : SE s a n e) (h2 : SE s a n e2) : SII s a n (.zip e e2 p0 p) := fun Γ X xr W x t h => by
  simp only [okII, Bool.and_eq_true, decide_eq_true_eq] at h
  obtain ⟨l, k, tp, et⟩ := t_tup h.1.1.1.1
  rw [et]
  exact i_zip x.xok (x.gl h.1.1.1.2) (x.gf.blt _ h.1.1.2) (star_e e _ _) (star_e e2 _ _) (plain_es p _ (.cons e2 .nil)) (h1 Γ X xr W x h.1.2).1 (h2 Γ X xr W x h.2).1
theorem k_no {e} (h : ∀ Γ, okE s Γ e = false) : SE s a n e := fun Γ X xr W x q => by
  rw [h] at q
  cases q
theorem k_noI {it} (h : ∀ Γ m, okII s Γ m it = false) : SII s a n it := fun Γ X xr W x t q => by
  rw [h] at q
  cases q
end
mutual
theorem sE (s : ST) (a : FA) (n : Nat) : ∀ e : IE, SE s a n e
  | .var _ _ _ => k_var
  | .int _ _ _ => k_int
  | .bl _ _ _ => k_bl
  | .non _ _ => k_non
  | .str _ _ _ => k_str
  | .gint _ _ _ => k_gint
  | .bin _ _ e1 e2 _ => k_bin (sE s a n e1) (sE s a n e2)
  | .neg e1 _ => k_neg (sE s a n e1)
  | .cmp _ e1 e2 _ => k_cmp (sE s a n e1) (sE s a n e2)
  | .isN _ e1 _ _ _ => k_isN (sE s a n e1)
  | .not e1 _ => k_not (sE s a n e1)
  | .and e1 r _ => k_and (sE s a n e1) (sEs s a n r)
  | .or e1 r _ => k_or (sE s a n e1) (sEs s a n r)
  | .ifx c e1 e2 _ => k_ifx (sE s a n c) (sE s a n e1) (sE s a n e2)
  | .lst _ es _ => k_lst (sEs s a n es)
  | .tup es _ _ => k_tup (sEs s a n es)
  | .ix e1 e2 _ => k_ix (sE s a n e1) (sE s a n e2)
  | .sl _ e1 lo hi _ _ => k_sl (sE s a n e1) (sEs s a n lo) (sEs s a n hi)
  | .attr e1 _ _ _ => k_attr (sE s a n e1)
  | .call _ _ e1 es _ _ => k_call (sE s a n e1) (sEs s a n es)
  | .callK _ _ e1 es kw _ _ _ => k_callK (sE s a n e1) (sEs s a n es) (sKs s a n kw)
  | .callKK _ _ kw _ _ _ => k_callKK (sKs s a n kw)
  | .bi _ _ e1 es _ _ => k_bi (sE s a n e1) (sEs s a n es)
  | .gcd _ e1 e2 _ _ => k_gcd (sE s a n e1) (sE s a n e2)
  | .make _ _ _ e1 es _ _ => k_make (sE s a n e1) (sEs s a n es)
  | .meth _ _ _ _ _ _ _ => k_no fun _ => by simp only [okE]
  | .lmeth o _ es _ _ => k_lmeth (sE s a n o) (sEs s a n es)
  | .isT e1 _ _ _ _ => k_isT (sE s a n e1)
  | .isC _ _ _ _ _ => k_no fun _ => by simp only [okE]
  | .xIs _ _ _ _ _ _ _ => k_xIs
  | .xAt _ _ _ _ _ => k_xAt
  | .lc _ e _ it cs _ _ _ => k_lc (sE s a n e) (sII s a n it) (sEs s a n cs)
  | .lc2 _ e _ it cs _ it2 cs2 _ _ _ _ => k_lc2 (sE s a n e) (sII s a n it) (sEs s a n cs) (sII s a n it2) (sEs s a n cs2)
theorem sEs (s : ST) (a : FA) (n : Nat) : ∀ es : IEs, SEs s a n es
  | .nil => fun _ _ _ _ _ _ => c_nil
  | .cons e r => fun Γ X xr W x h => by
    have h : (okE s Γ e && okEs s Γ r) = true := by simpa only [okEs] using h
    rw [Bool.and_eq_true] at h
    exact c_cons x (sE s a n e Γ X xr W x h.1) (sEs s a n r Γ X xr W x h.2)
theorem sKs (s : ST) (a : FA) (n : Nat) : ∀ es : IKs, SKs s a n es
  | .nil => fun _ _ _ _ _ _ => k_nil
  | .cons _ e _ r => fun Γ X xr W x h => by
    have h : (okE s Γ e && okKs s Γ r) = true := by simpa only [okKs] using h
    rw [Bool.and_eq_true] at h
    exact k_cons x.xok (sE s a n e Γ X xr W x h.1).1 (sKs s a n r Γ X xr W x h.2)
theorem sII (s : ST) (a : FA) (n : Nat) : ∀ it : II, SII s a n it
  | .of e => k_of (sE s a n e)
  | .rng1 e _ _ => k_rng1 (sE s a n e)
  | .rng2 e e2 _ _ => k_rng2 (sE s a n e) (sE s a n e2)
  | .enum e _ _ => k_enum (sE s a n e)
  | .zip e e2 _ _ => k_zip (sE s a n e) (sE s a n e2)
  | .zip3 _ _ _ _ _ => k_noI fun _ _ => by simp only [okII]
end
end MP
set_option Elab.async false
set_option linter.all false
set_option maxRecDepth 100000
set_option maxHeartbeats 4000000
/-! MPSound3: statements are sound. -/
namespace MP
open PySem PySem.Spec PyProof.Rows L2
def swB (Γ : SC) (x : Str) (px p : Pos) (sc : Scope) : Bool := (Γ.sc.names.lookup x == some .local) && (px.line == p.line) && !(sc.names.any fun (n, k) => n == x && (k == .local || k == .cell))
def isTupE : IE → Bool
  | .tup _ _ _ => true
  | _ => false
def ISs.isNil : ISs → Bool
  | .nil => true
  | _ => false
def IEs.isNil : IEs → Bool
  | .nil => true
  | _ => false
mutual
def okS (s : ST) (Γ : SC) : IS → Bool
  | .asg t e _ => okT Γ t && okE s Γ e && (match t with
    | .one _ _ _ => true
    | .many _ _ _ => !isTupE e)
  | .aug i x op e _ _ => okV Γ i x && okN Γ i x && okE s Γ e && (match op with
    | .add => true
    | .sub => true
    | _ => false)
  | .setIx a i e _ _ => okE s Γ a && okE s Γ i && okE s Γ e
  | .setAt o c f e _ _ => okE s Γ o && okE s Γ e && decide ((c, f) ∈ s.attrs)
  | .expr e _ => okE s Γ e && noLc e
  | .ret e _ => okE s Γ e
  | .ite c a b _ => okE s Γ c && okTst c && okSs s Γ a && okSs s Γ b
  | .for_ t it b _ => Γ.calm && okT Γ t && okII s Γ t.many? it && okSs s Γ b
  | .while_ _ _ _ => false
  | .raise c _ a _ _ _ => (match s.T.xc c with
    | none => true
    | some X => Γ.calm && okG Γ c && okEs s Γ a && !a.isNil && s.xcs.any fun q => decide (q.1 = c) && decide (X.fs = q.2.map fun f => (f, none)))
  | .pass _ => true
  | .try1 b c i n sss _ _ _ _ => Γ.calm && okSs s Γ b && okG Γ c && decide (c ∈ s.exn) && decide (Γ.N[i]? = some n) && decide (Γ.sc.names.lookup n = some .local) && !sss.isNil && okSs s ⟨Γ.N, Γ.sc, false⟩ sss
def okSs (s : ST) (Γ : SC) : ISs → Bool
  | .nil => true
  | .cons t r => okS s Γ t && okSs s Γ r
end
structure XS (s : ST) (a : FA) (n : Nat) (Γ : SC) (X : Cx) (xr : XR) (W : WX) : Prop extends XF s a n Γ X xr W where
  env : X.env.scope = Γ.sc
  knd : X.env.scope.kind = .function
  po : Γ.calm = true → PassesOwn (model X.prog X.w) X.A X.env X.xe
  stk : X.stack = X.env :: X.outer
  frm : X.env.frame = some X.env.locals
abbrev SS (s : ST) (a : FA) (n : Nat) (st : IS) : Prop := ∀ (Γ : SC) (X : Cx) (xr : XR) (W : WX), XS s a n Γ X xr W → okS s Γ st = true → SOk X xr W st.s (evS (s.T.C n) st)
abbrev SSs (s : ST) (a : FA) (n : Nat) (st : ISs) : Prop := ∀ (Γ : SC) (X : Cx) (xr : XR) (W : WX), XS s a n Γ X xr W → okSs s Γ st = true → SsOk X xr W st.ss (evSs (s.T.C n) st)
theorem swap_other (e : IE) (line : Nat) (env : PySem.Env) (t : Expr) (h : ∀ x p, t ≠ .Name x p) : swapsWith e.e (some t) line env = pure false := by
  cases e <;> first | rfl | (cases t <;> first | rfl | exact absurd rfl (h _ _))
theorem swap_many (e : IE) (env : PySem.Env) (ts : List Expr) (k : Nat) (p : Pos) (h : isTupE e = false) : swappedStores [.Tuple ts k p] e.e env = pure none := by
  cases e <;> first | rfl | cases h
theorem asg_sub (o i : IE) (ps : Pos) (env : PySem.Env) : ∀ v, assign (.Subscript o.e i.e ps) env v = (do
      let ov ← holding [v] (eval o.e env)
      let iv ← holding [v, ov] (eval i.e env)
      standAt ps
      holding [v, ov, iv] (setItem ov iv v)
      release [v, ov, iv] []) := by
  cases i <;> intro v <;> rfl
section
variable {s : ST} {a : FA} {n : Nat}
theorem swap_name {Γ : SC} {X : Cx} {xr : XR} {W : WX} (x : XS s a n Γ X xr W) {elt : Expr} {gs : List Comprehension} {sc : Scope} {p px : Pos} {y : Str} {line : Nat} : swapsWith (.ListComp elt gs sc p) (some (.Name y px)) line X.env = pure (swB Γ y px p sc) := by
  have bk : X.env.blockKind = .function := by
    unfold Env.blockKind
    rw [x.knd]
    rfl
  have kd : X.env.kindOf y = Γ.sc.names.lookup y := by
    unfold Env.kindOf
    rw [x.env]
  show (pure (X.env.blockKind == .function && X.env.kindOf y == some .local && px.line == p.line && !(sc.names.any fun (n, k) => n == y && (k == .local || k == .cell))) : Sem Bool) = _
  rw [bk, kd]
  unfold swB
  rfl
theorem sw_loc {Γ : SC} {X : Cx} {xr : XR} {W : WX} (x : XS s a n Γ X xr W) {sc : Scope} {p px : Pos} {y : Str} (h : swB Γ y px p sc = true) : X.env.scope.names.lookup y = some .local := by
  unfold swB at h
  rw [Bool.and_eq_true, Bool.and_eq_true] at h
  rw [x.env]
  exact eq_of_beq h.1.1
theorem z_asg {t e p} : SS s a n (.asg t e p) := fun Γ X xr W x h => by
  simp only [okS, Bool.and_eq_true] at h
  obtain ⟨⟨ht, he⟩, hm⟩ := h
  have q := (sE s a n e Γ X xr W x.toXF he).1
  have ito := x.toXF.tg ht
  cases t with
  | many l k pt =>
    obtain ⟨te, pe, qe⟩ := q
    have hm' : isTupE e = false := by simpa using hm
    exact s_set (t := .many l k pt) x.xok (ps_asg pe (pg_T x.nd (.many l k pt) ito) (swap_other e p.line X.env (.Tuple (l.map fun q => .Name q.2.1 q.2.2) k pt) (fun _ _ z => nomatch z)) (swap_many e _ _ _ _ hm') rfl) qe
  | one i y pt =>
    have viaSet : swapsWith e.e (some (.Name y pt)) p.line X.env = pure false → SOk X xr W (IS.asg (.one i y pt) e p).s (evS (s.T.C n) (.asg (.one i y pt) e p)) := fun hs => by
      obtain ⟨te, pe, qe⟩ := q
      exact s_set (t := .one i y pt) x.xok (ps_set x.nd ito.1 ito.2.1 pe hs ito.2.2) qe
    by_cases hl : noLc e = true
    · exact viaSet (swap_ok e _ _ _ hl)
    · cases e with
      | lc m e t it cs own sc pl =>
        cases hb : swB Γ y pt pl sc with
        | false => exact viaSet (by rw [← hb]; exact swap_name x)
        | true =>
          simp only [okE, Bool.and_eq_true, decide_eq_true_eq] at he
          obtain ⟨⟨⟨⟨⟨⟨⟨⟨hc, hi⟩, hk⟩, ht⟩, ho⟩, hcs⟩, hts⟩, hln⟩, he⟩ := he
          have B := x.toXF.blk hc sc
          exact s_set (t := .one i y pt) x.xok (ps_setLc (tt := rdT X.K xr W0 (fun ρ' => evTs (s.T.C n).toCalls cs ρ')) (te := rdE X.K xr W0 (evE (s.T.C n).toCalls e)) (x.calm hc).1 x.nd ito.1 (sw_loc x hb) (by rw [← hb]; exact swap_name x) (sII s a n it Γ X xr W x.toXF t hi).rd (blk_of x.toXF hk)
            (fun st H C cl fp => pg_T (X := X.blk st H sc (compEnvC sc cl C X.env) fp) x.nd t ((B st H C cl fp).tg ht)) (fun st H C cl fp => (sEs s a n cs _ _ xr W0 (B st H C cl fp) hcs).ifs hts hln) (fun st H C cl fp => (sE s a n e _ _ xr W0 (B st H C cl fp) he).1.rd) (folded_ok it X.env))
            (lc_rd (m := m) x.xok (fun i hi => of_decide_eq_true (List.all_eq_true.mp ho i hi)))
      | lc2 m e t it cs t2 it2 cs2 own vs2 sc pl =>
        cases hb : swB Γ y pt pl sc with
        | false => exact viaSet (by rw [← hb]; exact swap_name x)
        | true =>
          simp only [okE, Bool.and_eq_true, decide_eq_true_eq] at he
          obtain ⟨⟨⟨⟨⟨⟨⟨⟨⟨⟨⟨⟨⟨⟨⟨hc, hi⟩, hk⟩, ht⟩, ho⟩, hcs⟩, hts⟩, hl⟩, hi2⟩, ht2⟩, ho2⟩, hv⟩, hcs2⟩, hts2⟩, hl2⟩, he⟩ := he
          have B := x.toXF.blk hc sc
          exact s_set (t := .one i y pt) x.xok (ps_setLc2 (tt := rdT X.K xr W0 (fun ρ' => evTs (s.T.C n).toCalls cs ρ')) (tt1 := rdT X.K xr W0 (fun ρ' => evTs (s.T.C n).toCalls cs2 ρ')) (wi1 := rdI X.K xr W0 (evII (s.T.C n).toCalls it2)) (te := rdE X.K xr W0 (evE (s.T.C n).toCalls e)) (x.calm hc).1 x.nd ito.1 (sw_loc x hb) (by rw [← hb]; exact swap_name x) (sII s a n it Γ X xr W x.toXF t hi).rd (blk_of x.toXF hk) (fun i hi => of_decide_eq_true (List.all_eq_true.mp hv i hi))
            (fun st H C cl fp => pg_T (X := X.blk st H sc (compEnvC sc cl C X.env) fp) x.nd t ((B st H C cl fp).tg ht)) (fun st H C cl fp => (sEs s a n cs _ _ xr W0 (B st H C cl fp) hcs).ifs hts hl)
            (fun st H C cl fp => (sII s a n it2 _ _ xr W0 (B st H C cl fp) t2 hi2).rd) (fun st H C cl fp => pg_T (X := X.blk st H sc (compEnvC sc cl C X.env) fp) x.nd t2 ((B st H C cl fp).tg ht2)) (fun st H C cl fp => (sEs s a n cs2 _ _ xr W0 (B st H C cl fp) hcs2).ifs hts2 hl2)
            (fun st H C cl fp => (sE s a n e _ _ xr W0 (B st H C cl fp) he).1.rd) (folded_ok it X.env) (fun env => folded_ok it2 env))
            (lc2_rd (m := m) x.xok (fun i hi => of_decide_eq_true (List.all_eq_true.mp ho i hi)) (fun i hi => of_decide_eq_true (List.all_eq_true.mp ho2 i hi)))
      | _ => exact absurd rfl hl
theorem z_aug {i y op e px p} : SS s a n (.aug i y op e px p) := fun Γ X xr W x h => by
  simp only [okS, Bool.and_eq_true] at h
  obtain ⟨⟨⟨hv, hn⟩, he⟩, ho⟩ := h
  have nm := x.toXF.nm hn
  obtain ⟨te, pe, qe⟩ := (sE s a n e Γ X xr W x.toXF he).1
  have key : ∀ (f : Int → Int → Int) (hf : ∀ i j, binR false op (.dat (.int i)) (.dat (.int j)) = M.pure (.dat (.int (f i j)))), ∀ σ w S ρ D, EnvR X.K xr w σ ρ → SR X.K w S → HopS X.K xr W w D (evS (s.T.C n) (.aug i y op e px p) ρ S) → tAug i te (ipI f) D σ w.H := by
    intro f hf σ w S ρ D er sr h
    have h : HopS X.K xr W w D (SRes.of ρ ((M.bind (getV ρ i) fun x => M.bind (evE (s.T.C n).toCalls e ρ) fun y => match x, y with
      | .dat (.int _), .dat (.int _) => binR false op x y
      | _, _ => M.stuck) S) fun r S1 => .go .next (ρ.set i (some r)) S1) := h
    cases ei : ρ[i]? with
    | none =>
      have z : getV ρ i = M.stuck := by unfold getV; rw [ei]
      rw [z] at h
      exact h.elim
    | some o =>
      cases o with
      | none =>
        have z : getV ρ i = M.stuck := by unfold getV; rw [ei]
        rw [z] at h
        exact h.elim
      | some r =>
        obtain ⟨v, h1, h2⟩ := er.get i r ei
        refine ⟨v, h1, ?_⟩
        have h3 : Hop X.K (Rel X.K) (WE W σ) w (fun z H2 => D.nx (σ.set i (some z)) H2) ((M.bind (getV ρ i) fun x => M.bind (evE (s.T.C n).toCalls e ρ) fun y => match x, y with
          | .dat (.int _), .dat (.int _) => binR false op x y
          | _, _ => M.stuck) S) := hopS_of x.xok er h fun w1 a b S1 e1 s1 rr h4 => h4 w1 _ (Ext.refl _) s1 ((er.ext x.xok e1).set rr.toX)
        cases r with
        | exc c ns l =>
          have z : getV ρ i = M.stuck := by unfold getV; rw [ei]
          rw [z] at h3
          exact h3.elim
        | own k =>
          have z : getV ρ i = M.pure (.own k) := by unfold getV; rw [ei]
          rw [z, pure_bind] at h3
          refine qe σ w S ρ _ er sr (h3.bind fun w1 b bv S1 e1 s1 rb h4 => ?_)
          exact h4.elim
        | dat d =>
          have z : getV ρ i = M.pure (.dat d) := by unfold getV; rw [ei]
          rw [z, pure_bind] at h3
          refine qe σ w S ρ _ er sr (h3.bind fun w1 b bv S1 e1 s1 rb h4 => ?_)
          cases d with
          | int j =>
            cases b with
            | own k => exact h4.elim
            | exc c ns l => exact h4.elim
            | dat d2 =>
              cases d2 with
              | int j2 =>
                dsimp only at h4
                rw [hf] at h4
                exact ⟨j, j2, h2, rb, h4 w1 _ (Ext.refl _) s1 rfl⟩
              | _ => exact h4.elim
          | _ => exact h4.elim
  cases op with
  | add => exact ⟨_, ps_aug x.nd nm.1 nm.2.1 pe ip_add nm.2.2, key _ fun _ _ => rfl⟩
  | sub => exact ⟨_, ps_aug x.nd nm.1 nm.2.1 pe ip_sub nm.2.2, key _ fun _ _ => rfl⟩
  | _ => cases ho
theorem z_setIx {o i e ps p} : SS s a n (.setIx o i e ps p) := fun Γ X xr W x h => by
  simp only [okS, Bool.and_eq_true] at h
  exact s_setIx x.xok (swap_other e _ _ _ (fun _ _ z => nomatch z)) (asg_sub o i ps _) (sE s a n e Γ X xr W x.toXF h.2).1 (sE s a n o Γ X xr W x.toXF h.1.1).1 (sE s a n i Γ X xr W x.toXF h.1.2).1
theorem z_setAt {o c f e ps p} : SS s a n (.setAt o c f e ps p) := fun Γ X xr W x h => by
  simp only [okS, Bool.and_eq_true, decide_eq_true_eq] at h
  have q := x.gf.attrs _ h.2
  exact s_setAt x.xok q.1 q.2 (swap_other e _ _ _ (fun _ _ z => nomatch z)) (sE s a n e Γ X xr W x.toXF h.1.2).1 (sE s a n o Γ X xr W x.toXF h.1.1).1
theorem z_expr {e p} : SS s a n (.expr e p) := fun Γ X xr W x h => by
  simp only [okS, Bool.and_eq_true] at h
  exact s_expr x.xok (swap_ok e _ _ _ h.2) (sE s a n e Γ X xr W x.toXF h.1).1
theorem z_ret {e p} : SS s a n (.ret e p) := fun Γ X xr W x h => by
  simp only [okS] at h
  exact s_ret x.xok (sE s a n e Γ X xr W x.toXF h).1
theorem z_ite {c b1 b2 p} (h1 : SSs s a n b1) (h2 : SSs s a n b2) : SS s a n (.ite c b1 b2 p) := fun Γ X xr W x h => by
  simp only [okS, Bool.and_eq_true] at h
  exact s_if x.xok ((sE s a n c Γ X xr W x.toXF h.1.1.1).2 h.1.1.2) (h1 Γ X xr W x h.1.2) (h2 Γ X xr W x h.2)
theorem z_for {t it b p} (h1 : SSs s a n b) : SS s a n (.for_ t it b p) := fun Γ X xr W x h => by
  simp only [okS, Bool.and_eq_true] at h
  obtain ⟨⟨⟨hc, ht⟩, hi⟩, hb⟩ := h
  exact s_for x.xok (x.po hc) (x.calm hc).1 x.nd (x.toXF.tg ht) (folded_ok it X.env) (sII s a n it Γ X xr W x.toXF t hi) (h1 Γ X xr W x hb)
theorem z_pass {p} : SS s a n (.pass p) := fun Γ X xr W x h => s_pass
theorem z_raise {c f es pn pc p} : SS s a n (.raise c f es pn pc p) := fun Γ X xr W x h => by
  simp only [okS] at h
  cases ex : s.T.xc c with
  | none =>
    refine ⟨_, ps_never, fun σ w S ρ D er sr h => ?_⟩
    have h : HopS X.K xr W w D (match s.T.xc c with
      | none => .stuck
      | some _ => SRes.of ρ ((M.bind (evEs (s.T.C n).toCalls es ρ) fun rs => raiseR (s.T.C n) c rs) S) fun _ _ => .stuck) := h
    rw [ex] at h
    exact h
  | some Y =>
    simp only [ex, Bool.and_eq_true] at h
    obtain ⟨⟨⟨⟨hc, hg⟩, hes⟩, hn⟩, hx⟩ := h
    obtain ⟨q, hq, hq2⟩ := List.any_eq_true.mp hx
    rw [Bool.and_eq_true] at hq2
    have e1 := of_decide_eq_true hq2.1
    have e2 := of_decide_eq_true hq2.2
    obtain ⟨c', fs⟩ := q
    dsimp only at e1 e2
    subst e1
    obtain ⟨fI, fd, ps, T, iC, tI, hne, hl, F1, hb, hm, hd⟩ := x.gf.xcs _ hq
    cases es with
    | nil => cases hn
    | cons e r =>
      have hxc : (s.T.C n).xc c' = some ⟨fs.map fun f => (f, none)⟩ := by
        show s.T.xc c' = _
        rw [ex, ← e2]
      have ev : evS (s.T.C n) (.raise c' f (.cons e r) pn pc p) = fun ρ S => SRes.of ρ ((M.bind (evEs (s.T.C n).toCalls (.cons e r) ρ) fun rs => raiseR (s.T.C n) c' rs) S) fun _ _ => .stuck := by
        funext ρ S
        show (match (s.T.C n).xc c' with
          | none => SRes.stuck
          | some _ => SRes.of ρ ((M.bind (evEs (s.T.C n).toCalls (.cons e r) ρ) fun rs => raiseR (s.T.C n) c' rs) S) fun _ _ => .stuck) = _
        rw [hxc]
      rw [ev]
      exact s_raise (fs := fs) x.xok (x.calm hc).1 x.tk hxc (fun ta pa => pmk_flds T iC tI hne hl F1 ((x.calm hc).2.1.mono (by omega)) hb (L2N.passes_call x.tk fun _ _ _ _ z => z.elim) (x.toXF.gl hg) hm pa hd (star_e e _ _) (plain_es pc _ r)) (sEs s a n (.cons e r) Γ X xr W x.toXF hes).all
theorem z_try {b c i nm sss pc ph h p} (h1 : SSs s a n b) (h2 : SSs s a n sss) : SS s a n (.try1 b c i nm sss pc ph h p) := fun Γ X xr W x hh => by
  simp only [okS, Bool.and_eq_true, decide_eq_true_eq] at hh
  obtain ⟨⟨⟨⟨⟨⟨⟨hc, hb⟩, hg⟩, hx⟩, hN⟩, hl⟩, hn⟩, hs⟩ := hh
  have e0 := (x.calm hc).2.2
  subst e0
  have q := x.gf.exn _ hx
  cases sss with
  | nil => cases hn
  | cons s0 sr =>
    have kn : X.env.kindOf nm = some .local := by
      unfold Env.kindOf
      rw [x.env]
      exact hl
    refine s_try (b₀ := s0.s) (suite := sr.ss) (hds := h.hs) (f := evSs (s.T.C n) b) (g := evSs (s.T.C n) (.cons s0 sr)) x.stk x.frm x.nd (by rw [x.N]; exact hN) kn ⟨x.toXF.gl hg, q.2, .inl q.1⟩ x.gf.subE (fun W' pn xe tk po => ?_) fun a' oe cls d pn hz hf => ?_
    · exact h1 Γ (X.tr pn xe) xr0 W' { gf := x.gf, fl := x.fl, N := x.N, nd := x.nd, sc := x.sc, fnc := x.fnc, calm := fun _ => x.calm hc, hot := (fun z => by rw [hc] at z; cases z), tk := tk, xok := x.xok, env := x.env, knd := x.knd, po := fun _ => po, stk := x.stk, frm := x.frm } hb
    · have rm := (x.calm hc).2.1
      obtain ⟨vs, hv⟩ := hf
      obtain ⟨u, hu⟩ : ∃ u, vs[2]? = some u := ⟨.none, hz.2.2 vs hv⟩
      exact h2 ⟨Γ.N, Γ.sc, false⟩ (X.suite a' ((a', oe) :: pn)) (xrS X.K a' cls d) W0 { gf := x.gf, fl := x.fl, N := x.N, nd := x.nd, sc := x.sc, fnc := x.fnc, calm := (fun z => Bool.noConfusion z), hot := fun _ => ⟨⟨rm.dp, rm.un⟩, ⟨(a', oe), ⟨rfl, vs, hv, hz.2.2 vs hv⟩, List.mem_cons_self⟩, fun w c ns l v hxr => ⟨a', oe, d, X, pn, rfl, hxr.1, ⟨hz.1.trans hxr.2.1, hz.2.1⟩, ⟨vs, hv⟩, hxr.2.2⟩⟩, tk := takes0, xok := xrS_ok, env := x.env, knd := x.knd, po := (fun z => Bool.noConfusion z), stk := x.stk, frm := x.frm } hs
end
mutual
theorem sS (s : ST) (a : FA) (n : Nat) : ∀ st : IS, SS s a n st
  | .asg _ _ _ => z_asg
  | .aug _ _ _ _ _ _ => z_aug
  | .setIx _ _ _ _ _ => z_setIx
  | .setAt _ _ _ _ _ _ => z_setAt
  | .expr _ _ => z_expr
  | .ret _ _ => z_ret
  | .ite _ b1 b2 _ => z_ite (sSs s a n b1) (sSs s a n b2)
  | .for_ _ _ b _ => z_for (sSs s a n b)
  | .while_ _ _ _ => fun Γ X xr W x h => by
    simp only [okS] at h
    cases h
  | .raise _ _ _ _ _ _ => z_raise
  | .pass _ => z_pass
  | .try1 b _ _ _ sss _ _ _ _ => z_try (sSs s a n b) (sSs s a n sss)
theorem sSs (s : ST) (a : FA) (n : Nat) : ∀ st : ISs, SSs s a n st
  | .nil => fun _ _ _ _ _ _ => ss_nil
  | .cons t r => fun Γ X xr W x h => by
    have h : (okS s Γ t && okSs s Γ r) = true := by simpa only [okSs] using h
    rw [Bool.and_eq_true] at h
    exact ss_cons (sS s a n t Γ X xr W x h.1) (sSs s a n r Γ X xr W x h.2)
end
end MP
set_option Elab.async false
set_option linter.all false
set_option maxRecDepth 100000
set_option maxHeartbeats 4000000
/-! MPFn: the defs keep their promises. -/
namespace MP
open PySem PySem.Spec PyProof.Rows L2
theorem ExcD.keep {K : PySem.W.Frag} {w w' : Wd} {ns : List Str} {l : List D} {d : Option Addr} (x : ∀ a o, ¬ w.Live a → w.H a = some o → ¬ w'.Live a ∧ w'.H a = some o) (h : ExcD K w ns l d) : ExcD K w' ns l d := by
  rcases h with h | ⟨dd, fs, e, nl, hd, hf⟩
  · exact .inl h
  · refine .inr ⟨dd, fs, e, (x _ _ nl hd).1, (x _ _ nl hd).2, fun f y hy => ?_⟩
    obtain ⟨v, h1, h2⟩ := hf f y hy
    exact ⟨v, h1, Rep.imp x _ _ h2⟩
/-- from a body's end to a call's -/
theorem seal_ok {K : PySem.W.Frag} {xr : XR} {w : Wd} {S : Store} {E : XK} {Q : VK} (s : SR K w S) : ∀ {r : SRes}, Hop K (Rel K) E w Q (sealS S.length r) → HopS K xr (fun cls d _ H => E cls d H) w { nx := fun _ H' => Q .non H', rt := Q } r := by
  have key : ∀ (r : R) (S' : Store), Hop K (Rel K) E w Q (sealR S.length r S') → ∀ w' v, Ext w w' → SR K w' S' → Rel K w' r v → Q v w'.H := by
    intro r S' h w' v x s' rv
    unfold sealR at h
    by_cases hb : (S'.take S.length).all (Cell.below S.length) = true ∧ S.length ≤ S'.length
    · rw [if_pos hb] at h
      have l3 : S.length ≤ w'.n := by rw [s'.n]; exact hb.2
      have ln : w.n = S.length := s.n
      cases r with
      | dat d => exact h (w'.cut S.length) v (x.cut ln) (s'.cut l3 hb.1) (Rel.cut (r := .dat d) l3 rfl rv)
      | exc c ns l => exact rv.elim
      | own k =>
        dsimp only at h
        by_cases hk : k < S.length
        · rw [if_pos hk] at h
          exact h (w'.cut S.length) v (x.cut ln) (s'.cut l3 hb.1) (Rel.cut (r := .own k) l3 (decide_eq_true hk) rv)
        · rw [if_neg hk] at h
          cases ed : toD S.length S' 8 (.own k) with
          | none => rw [ed] at h; exact h.elim
          | some d =>
            rw [ed] at h
            exact h (w'.cut S.length) v (x.cut ln) (s'.cut l3 hb.1) (toD_ok s' l3 8 _ d v ed rv)
    · rw [if_neg hb] at h
      exact h.elim
  intro r h
  match r, h with
  | .go .next ρ S', h => exact fun w' σ x s' _ => key (.dat .non) S' h w' .non x s' rfl
  | .go .brk ρ S', h => exact h.elim
  | .go .cont ρ S', h => exact h.elim
  | .go (.ret r) ρ S', h => exact fun w' v x s' rv => key r S' h w' v x s' rv
  | .stuck, h => exact h.elim
  | .exc c ns l ρ S', h =>
    intro w' σ d x s' _ hd
    dsimp only [sealS] at h
    by_cases hb : (S'.take S.length).all (Cell.below S.length) = true ∧ S.length ≤ S'.length
    · rw [if_pos hb] at h
      have l3 : S.length ≤ w'.n := by rw [s'.n]; exact hb.2
      exact h (w'.cut S.length) d (x.cut s.n) (s'.cut l3 hb.1) (hd.keep (cut_keep l3))
    · rw [if_neg hb] at h
      exact h.elim
theorem start_env {K : PySem.W.Frag} {w : Wd} {F : Fn} {rs : List R} {vs : List V} (r : Rels K w rs vs) : EnvR K xr0 w (L2.start F.N vs) (MP.start F rs) := by
  have l := r.length
  refine ⟨by unfold MP.start L2.start; rw [List.length_append, List.length_append, List.length_map, List.length_map, List.length_replicate, List.length_replicate, l], fun i q h => ?_⟩
  unfold MP.start at h
  by_cases hi : i < rs.length
  · rw [List.getElem?_append_left (by simpa using hi), List.getElem?_map] at h
    cases e : rs[i]? with
    | none => rw [e] at h; cases h
    | some z =>
      rw [e] at h
      cases h
      obtain ⟨v, h1, h2⟩ := r.get e
      refine ⟨v, ?_, h2.toX⟩
      unfold L2.start
      rw [List.getElem?_append_left (by rw [List.length_map, ← l]; exact hi), List.getElem?_map, h1]
      rfl
  · rw [List.getElem?_append_right (by simpa using hi), List.getElem?_replicate] at h
    split at h <;> cases h
structure FDef (K : PySem.W.Frag) (a : FA) (f : Nat) (F : Fn) : Prop where
  fun_ : ∃ x qual params, FunD K x qual params F.body.ss F.sc [] [] (a.adr f) (a.fd f)
  S : FnScope F.N (a.ps f) F.sc
  np : (a.ps f).length = F.np
section
variable {P : Program} {w : World} {K : PySem.W.Frag} {mg : Str → Option Value} {base : Heap} {s : ST} {a : FA} {n f : Nat} {F : Fn}
theorem run_of (hF : s.T.fns[f]? = some F) {vs : List V} {H : Hp} {Q : VK} {E : XK} (h : spF K s.T (n + 1) f vs H Q E) : ∃ w S rs, w.H = H ∧ SR K w S ∧ Rels K w rs vs ∧ rs.length = F.np ∧ Hop K (Rel K) E w Q (sealS S.length (evSs (s.T.C n) F.body (MP.start F rs) S)) := by
  obtain ⟨w, S, rs, e, sr, rr, hh⟩ := h
  have hh : Hop K (Rel K) E w Q ((match s.T.fns[f]? with
    | some F => runF (s.T.C n) F rs
    | none => M.stuck) S) := hh
  rw [hF] at hh
  have hh : Hop K (Rel K) E w Q (if rs.length = F.np then sealS S.length (evSs (s.T.C n) F.body (MP.start F rs) S) else .stuck) := hh
  by_cases hl : rs.length = F.np
  · rw [if_pos hl] at hh
    exact ⟨w, S, rs, e, sr, rr, hl, hh⟩
  · rw [if_neg hl] at hh
    exact hh.elim
theorem spF_len (hF : s.T.fns[f]? = some F) (d : FDef K a f F) : ∀ (m : Nat) vs H Q E, spF K s.T m f vs H Q E → vs.length = (a.ps f).length := by
  intro m vs H Q E h
  cases m with
  | zero =>
    obtain ⟨_, _, _, _, _, _, hh⟩ := h
    exact hh.elim
  | succ n =>
    obtain ⟨w, S, rs, e, sr, rr, hl, hh⟩ := run_of hF h
    rw [← rr.length, hl, d.np]
/-- the facts of a def's frame -/
theorem fl_zero (hd : ∀ (f : Nat) (F : Fn), s.T.fns[f]? = some F → FDef K a f F) (hh : ∀ q ∈ s.hots, ∃ F : Fn, s.T.fns[q.1]? = some F) : FL P w K mg base s a 0 where
  calm := fun f F hF => ⟨spF_len hF (hd f F hF) 0, fun A outer st H args us vs Q E _ _ _ _ h => by
    obtain ⟨_, _, _, _, _, _, hh⟩ := h
    exact hh.elim⟩
  hot := fun q hq => by
    obtain ⟨F, hF⟩ := hh q hq
    exact ⟨spF_len hF (hd _ F hF) 0, fun A outer st H args us vs Q E p _ _ _ _ _ _ h => by
      obtain ⟨_, _, _, _, _, _, hh⟩ := h
      exact hh.elim⟩
theorem fl_succ (gf : GF P w K mg base s a) (hd : ∀ (f : Nat) (F : Fn), s.T.fns[f]? = some F → FDef K a f F) (hok : ∀ (f : Nat) (F : Fn), s.T.fns[f]? = some F → okSs s ⟨F.N, F.sc, true⟩ F.body = true)
    (hh : ∀ q ∈ s.hots, ∃ F : Fn, s.T.fns[q.1]? = some F ∧ okSs s ⟨F.N, F.sc, false⟩ F.body = true) (fl : FL P w K mg base s a n) : FL P w K mg base s a (n + 1) where
  calm := fun f F hF => by
    have d := hd f F hF
    obtain ⟨x, qual, params, FD⟩ := d.fun_
    show FnOk P w K mg base (L2N.CX P w) (3 * n + 2 + 1) (a.adr f) (a.fd f) (a.ps f) (spF K s.T (n + 1) f)
    refine FD.ok d.S (spF_len hF d (n + 1)) fun cdv A outer st H vs Q E room hsp => ?_
    obtain ⟨w0, S, rs, e, sr, rr, hl, hop⟩ := run_of hF hsp
    have X := (XS.mk (s := s) (a := a) (n := n) (Γ := ⟨F.N, F.sc, true⟩) (X := cxOf (L2N.CX P w) P w K mg base F.N qual F.sc (a.adr f) cdv A outer st H E) (xr := xr0) (W := fun cls d _ H => E cls d H)
      { gf := gf, fl := fl, N := rfl, nd := d.S.nd, sc := (fun _ _ h => .inl h), fnc := (fun _ _ => rfl), calm := (fun _ => ⟨rfl, room, rfl⟩), hot := (fun z => Bool.noConfusion z), tk := L2N.takes_of rfl rfl rfl rfl, xok := xr0_ok } rfl d.S.kind (fun _ => PassesOwn.leaving) rfl rfl)
    obtain ⟨t, pt, q⟩ := sSs s a n F.body _ _ _ _ X (hok f F hF)
    refine ⟨t, pt, ?_⟩
    rw [← e]
    exact q _ w0 S (MP.start F rs) _ (start_env rr) sr (seal_ok sr hop)
  hot := fun q hq => by
    obtain ⟨F, hF, ho⟩ := hh q hq
    have d := hd q.1 F hF
    obtain ⟨x, qual, params, FD⟩ := d.fun_
    obtain ⟨oc, od, dV, kV, doc, pm, an, cdv, ct, osl, efd, lk, hcd, _, _⟩ := FD.ex
    have ok : L2H.FnH P w K mg base (L2N.CX P w) (3 * n + 2 + 1) (a.adr q.1) (PySem.W.fnOf x qual params F.body.ss F.sc dV kV doc pm an cdv ct) (a.ps q.1) (spF K s.T (n + 1) q.1) := by
      refine L2H.fn_ofH (by rw [← efd]; exact lk) hcd d.S (spF_len hF d (n + 1)) fun A outer st H vs Q E p hot room hsp => ?_
      obtain ⟨w0, S, rs, e, sr, rr, hl, hop⟩ := run_of hF hsp
      have X := (XS.mk (s := s) (a := a) (n := n) (Γ := ⟨F.N, F.sc, false⟩) (X := L2H.cxH (L2N.CX P w) P w K mg base F.N qual F.sc (a.adr q.1) cdv A outer st H E p) (xr := xr0) (W := fun cls d _ H => E cls d H)
        { gf := gf, fl := fl, N := rfl, nd := d.S.nd, sc := (fun _ _ h => .inl h), fnc := (fun _ _ => rfl), calm := (fun z => Bool.noConfusion z), hot := (fun _ => ⟨room, ⟨p, hot, List.mem_cons_self⟩, fun _ _ _ _ _ z => z.elim⟩), tk := L2N.takes_of rfl rfl rfl rfl, xok := xr0_ok } rfl d.S.kind (fun z => Bool.noConfusion z) rfl rfl)
      obtain ⟨t, pt, q'⟩ := sSs s a n F.body _ _ _ _ X ho
      refine ⟨t, pt, ?_⟩
      rw [← e]
      exact q' _ w0 S (MP.start F rs) _ (start_env rr) sr (seal_ok sr hop)
    rw [efd]
    exact ok
/-- at every level -/
theorem fl_all (gf : GF P w K mg base s a) (hd : ∀ (f : Nat) (F : Fn), s.T.fns[f]? = some F → FDef K a f F) (hok : ∀ (f : Nat) (F : Fn), s.T.fns[f]? = some F → okSs s ⟨F.N, F.sc, true⟩ F.body = true)
    (hh : ∀ q ∈ s.hots, ∃ F : Fn, s.T.fns[q.1]? = some F ∧ okSs s ⟨F.N, F.sc, false⟩ F.body = true) : ∀ n, FL P w K mg base s a n
  | 0 => fl_zero hd fun q hq => let ⟨F, h, _⟩ := hh q hq; ⟨F, h⟩
  | n + 1 => fl_succ gf hd hok hh (fl_all gf hd hok hh n)
end
end MP
set_option Elab.async false
set_option linter.all false
set_option maxRecDepth 100000
set_option maxHeartbeats 4000000
/-! MPHead: the facts that the head hands over. -/
namespace MP
open PySem PySem.Spec PyProof.Rows L2 He
/-- tables: the defs, known answers of isinstance, fields that may be read of an exception, exceptions with fields -/
def mkTab (fns : List Fn) (subs : List ((Str × Str) × Bool)) (xfs : List (Str × Str)) (xcs : List (Str × List Str)) : Tab where
  fns := fns
  sub := fun c' c => subs.lookup (c', c)
  xf := fun c f => decide ((c, f) ∈ xfs)
  xc := fun c => (xcs.lookup c).map fun fs => ⟨fs.map fun f => (f, none)⟩
def oexB (K : PySem.W.Frag) (C : Addr) : Bool := match K.lookup C with
  | some ⟨.type t, _, .cls cd, sl⟩ => (match cd.mro, sl.toList with
    | .ref C' :: bm, [_, _, _, _, some (.builtin n), _] => decide (t = "type") && (decide (C' = C) && (decide (n = "ValueError.__new__") && (!cd.hasDel && (cd.hasDict && PySem.HandSPX.refsVE bm))))
    | _, _ => false)
  | _ => false
theorem oexB_ok {K : PySem.W.Frag} {C : Addr} (h : oexB K C = true) : ∃ nm q N bs bm sn sub ab col dd k0 k1 k2 k3 k5, K.lookup C = some (excClassObj nm q C N bs bm true sn sub ab col dd k0 k1 k2 k3 k5 "ValueError.__new__") ∧ PySem.HandSPX.refsVE bm = true := by
  unfold oexB at h
  split at h
  · rename_i t dd cd sl ho
    split at h
    · rename_i C' bm k0 k1 k2 k3 n k5 hm hs
      simp only [Bool.and_eq_true, decide_eq_true_eq, Bool.not_eq_true'] at h
      obtain ⟨h1, h2, h3, h4, h5, h6⟩ := h
      subst h1 h2 h3
      obtain ⟨nm, bs, mro, ns, qn, hd, sn, sub, ab, col, del⟩ := cd
      dsimp only at hm h4 h5
      subst hm h4 h5
      have hsl : sl = #[k0, k1, k2, k3, some (.builtin "ValueError.__new__"), k5] := by
        obtain ⟨l⟩ := sl
        simp only at hs
        rw [hs]
      subst hsl
      exact ⟨nm, qn, ns, bs, bm, sn, sub, ab, col, dd, k0, k1, k2, k3, k5, ho, h6⟩
    · cases h
  · cases h
def excCB (K : PySem.W.Frag) (C : Addr) : Bool := decide (PySem.W.findIn K (.ref C) "__getattribute__" = some (some (.builtin "BaseException.__getattribute__"))) && (decide (PySem.W.findIn K (.ref C) "__getattr__" = some none) && (decide (PySem.W.subIn K (.ref C) (.type "BaseException") = some true) && (PySem.W.hasDictIn K C &&
  (decide (PySem.W.findIn K (.ref C) "__class__" = some (some (.builtin "object.__class__"))) && (decide (PySem.W.specialIn K (.builtin "object.__class__") "__get__" = some (some (.builtin "getset_descriptor.__get__"))) && (decide (PySem.W.takesIn K (.builtin "object.__class__") = some true) && decide (PySem.W.mroIn K C (.type "object") = some true)))))))
theorem excCB_ok {K : PySem.W.Frag} {C : Addr} (h : excCB K C = true) : ExcC K C := by
  obtain ⟨h1, h⟩ := ba h
  obtain ⟨h2, h⟩ := ba h
  obtain ⟨h3, h⟩ := ba h
  obtain ⟨h4, h⟩ := ba h
  obtain ⟨h5, h⟩ := ba h
  obtain ⟨h6, h⟩ := ba h
  obtain ⟨h7, h8⟩ := ba h
  exact ⟨of_decide_eq_true h1, of_decide_eq_true h2, of_decide_eq_true h3, h4, of_decide_eq_true h5, of_decide_eq_true h6, of_decide_eq_true h7, of_decide_eq_true h8⟩
def oexAll (K : PySem.W.Frag) (q : Str × List Str) : Bool := (Fa.glo q.1).ok K && (oexB K (ga K q.1) && (decide (PySem.W.findIn K (.ref (ga K q.1)) "__setattr__" = some (some (.builtin "object.__setattr__"))) && (decide (PySem.W.subIn K (.ref (ga K q.1)) (.type "BaseException") = some true) && (decide (PySem.W.typeIn K (.ref (ga K q.1)) = some (.type "type")) && (PySem.W.keepIn K (.ref (ga K q.1)) &&
  (decide (PySem.W.findIn K (.ref (ga K q.1)) "__init__" = some (some (.ref (ma K (ga K q.1) "__init__")))) && (decide (PySem.W.typeIn K (.ref (ma K (ga K q.1) "__init__")) = some (.type "function")) && q.2.all fun f => (Fa.noat q.1 f).ok K)))))))
structure OexA (K : PySem.W.Frag) (q : Str × List Str) : Prop where
  glo : (Fa.glo q.1).ok K = true
  C : OexC K (ga K q.1)
  init : PySem.W.findIn K (.ref (ga K q.1)) "__init__" = some (some (.ref (ma K (ga K q.1) "__init__")))
  ty : PySem.W.typeIn K (.ref (ma K (ga K q.1) "__init__")) = some (.type "function")
  no : ∀ f ∈ q.2, PySem.W.findIn K (.ref (ga K q.1)) f = some none
theorem oexAll_ok {K : PySem.W.Frag} {q : Str × List Str} (h : oexAll K q = true) : OexA K q := by
  obtain ⟨h0, h⟩ := ba h
  obtain ⟨h1, h⟩ := ba h
  obtain ⟨h2, h⟩ := ba h
  obtain ⟨h3, h⟩ := ba h
  obtain ⟨h4, h⟩ := ba h
  obtain ⟨h5, h⟩ := ba h
  obtain ⟨h6, h⟩ := ba h
  obtain ⟨h7, h8⟩ := ba h
  exact ⟨h0, ⟨oexB_ok h1, of_decide_eq_true h2, of_decide_eq_true h3, of_decide_eq_true h4, h5⟩, of_decide_eq_true h6, of_decide_eq_true h7, fun f hf => eqO_ok (List.all_eq_true.mp h8 f hf)⟩
/-- all that is asked of the written part -/
def exM (s : ST) (subs : List ((Str × Str) × Bool)) (xfs : List (Str × Str)) (K : PySem.W.Frag) : Bool :=
  (s.tops.all fun q => (Fa.glo q.2).ok K) && ((s.cls.all fun q => (Fa.glo q.1).ok K && (Fa.mkr q.1).ok K) && ((s.attrs.all fun q => (Fa.cls q.1).ok K && (Fa.noat q.1 q.2).ok K) && ((s.blt.all fun x => (Fa.free x).ok K) && ((s.gis.all fun q => (Fa.int q.1 q.2).ok K) && ((s.exn.all fun x => (Fa.glo x).ok K) &&
  ((s.math.all fun q => eqO (PySem.W.nsIn K mainGlobals q.1) (some (some (.builtin q.2)))) && ((subs.all fun q => excCB K (ga K q.1.1) && (decide (PySem.W.kitOne K (.ref (ga K q.1.1)) (.ref (ga K q.1.2)) = some q.2) && (!q.2 || decide (PySem.W.exmOne K (.ref (ga K q.1.1)) (.ref (ga K q.1.2)) = some true)))) &&
  ((xfs.all fun q => xfB K (ga K q.1) && (Fa.noat q.1 q.2).ok K) && s.xcs.all fun q => oexAll K q))))))))
def obsM (n : Nat) (ex : PySem.W.Frag → Bool) (fn : List DefD) (g : Addr → Option Obj) : AlD := (ex (frG g (asD g n)) && (obsD [] fn (frG g (asD g n))).1, (obsD [] fn (frG g (asD g n))).2)
theorem obsM_says {n : Nat} {ex : PySem.W.Frag → Bool} {fn : List DefD} {g : Addr → Option Obj} (e : obsM n ex fn g = valD fn) : ex (frG g (asD g n)) = true ∧ SaysD [] fn (frG g (asD g n)) := by
  have e1 : (ex (frG g (asD g n)) && (obsD [] fn (frG g (asD g n))).1) = true := congrArg (fun z : AlD => z.1) e
  have e2 : (obsD [] fn (frG g (asD g n))).2 = fn.map DefD.val := congrArg (fun z : AlD => z.2) e
  obtain ⟨h1, h2⟩ := ba e1
  exact ⟨h1, Prod.ext h2 e2⟩
def hookM (n : Nat) (ex : PySem.W.Frag → Bool) (fn : List DefD) : PySem.W.Hook where
  α := AlD
  obs := fun s => obsM n ex fn s.heap.get?
  val := fun _ => valD fn
  says := fun _ h => ∃ K : PySem.W.Frag, K.In h ∧ ex K = true ∧ SaysD [] fn K
  of := fun _ _ e => ⟨_, frG_in, obsM_says e⟩
  keeps := fun _ _ _ ⟨K, hK, c⟩ k => ⟨K, PySem.W.Frag.In.keeps hK k, c⟩
theorem obsM_eq {n : Nat} {ex : PySem.W.Frag → Bool} {fn : List DefD} {g : Addr → Option Obj} {s : Shared} (h : ∀ a, g a = s.heap.get? a) : obsM n ex fn g = (hookM n ex fn).obs s := by
  have e : g = s.heap.get? := funext h
  rw [e] <;> rfl
/-! ### a def of the text and its code as data -/
structure RowOk (F : Fn) (d : DefD) : Prop where
  body : d.body = F.body.ss
  scope : d.scope = F.sc
  dfl : d.dfl = []
  kwd : d.kwd = []
  S : FnScope F.N (F.N.take F.np) F.sc
  len : (F.N.take F.np).length = F.np
  bind : ∀ (kV doc pm : Value) (an : Option Addr) (cdv ct : Value) (us : List Value), us.length = (F.N.take F.np).length → bindArgs (PySem.W.fnOf d.name d.qual d.params d.body d.scope .none kV doc pm an cdv ct) ⟨us, []⟩ = pure ((F.N.take F.np).zip us)
inductive RowsOk : List Fn → List DefD → Prop
  | nil {fn : List DefD} : RowsOk [] fn
  | cons {F : Fn} {d : DefD} {Fs : List Fn} {ds : List DefD} (h : RowOk F d) (r : RowsOk Fs ds) : RowsOk (F :: Fs) (d :: ds)
theorem RowsOk.at {Fs : List Fn} {ds : List DefD} (r : RowsOk Fs ds) : ∀ {i : Nat} {F : Fn}, Fs[i]? = some F → ∃ d, ds[i]? = some d ∧ RowOk F d := by
  induction r with
  | nil => intro i F e; cases e
  | cons h r ih =>
    intro i F e
    cases i with
    | zero => cases e; exact ⟨_, rfl, h⟩
    | succ i => exact ih e
/-- an exception's __init__ -/
structure XRow (q : Str × List Str) (d : DefD) : Prop where
  at_ : d.at_ = (q.1, some ("__init__" : Str))
  dfl : d.dfl = []
  kwd : d.kwd = []
  ne : q.2 ≠ []
  nd : q.2.Nodup
  le : q.2.length ≤ 900
  body : InitB "self" q.2 0 d.body
  S : FnScope ("self" :: q.2) ("self" :: q.2) d.scope
  vis : ∀ x ∈ (("self" : Str) :: q.2), d.scope.names.lookup x = some .local ∧ (x == ("__debug__" : Str)) = false ∧ (x == ("__classdict__" : Str)) = false
  dbg : (q.1 == ("__debug__" : Str)) = false
  bind : ∀ (kV doc pm : Value) (an : Option Addr) (cdv ct : Value) (us : List Value), us.length = (("self" : Str) :: q.2).length → bindArgs (PySem.W.fnOf d.name d.qual d.params d.body d.scope .none kV doc pm an cdv ct) ⟨us, []⟩ = pure ((("self" : Str) :: q.2).zip us)
theorem FunD.nil {K : PySem.W.Frag} {x qual : Str} {params : Arguments} {body : List Stmt} {scope : Scope} {dvs : List V} {kws : List (Str × V)} {f : Addr} {fd : FuncData} (F : FunD K x qual params body scope dvs kws f fd) (h1 : dvs = []) (h2 : kws = []) : FunD K x qual params body scope [] [] f fd := by
  subst h1 h2
  exact F
theorem xrow_ok {P : Program} {w : World} {K : PySem.W.Frag} {mg : Str → Option Value} {base : Heap} {q : Str × List Str} {d : DefD} {fd : FuncData} (r : XRow q d) (a : OexA K q) (F : FunD K d.name d.qual d.params d.body d.scope (d.dvs K) (d.kws K) (fAd K d.at_) fd) :
    FnOk P w K mg base (L2N.CX P w) 1 (ma K (ga K q.1) "__init__") fd (("self" : Str) :: q.2) (spO (ga K q.1) q.2) ∧ Binds K fd (("self" : Str) :: q.2) [] := by
  have F' := FunD.nil F (by unfold DefD.dvs; rw [r.dfl]; rfl) (by unfold DefD.kws; rw [r.kwd]; rfl)
  have ea : fAd K d.at_ = ma K (ga K q.1) "__init__" := by rw [r.at_]; rfl
  rw [ea] at F'
  refine ⟨F'.ok r.S (fun vs H Q E h => ?_) (fun cdv A outer s H vs Q E _ h => ⟨_, init_all (C := ga K q.1) (fs := q.2) (s := "self") rfl a.C r.nd r.le (fun x hx => ⟨.inl (r.vis x hx).1, (r.vis x hx).2⟩) a.no r.body r.ne, ?_⟩), F'.bindsN fun kV doc pm an cdv ct us hl => r.bind kV doc pm an cdv ct us hl⟩
  · obtain ⟨a', ys, rfl, hl, _⟩ := h
    rw [List.length_cons, List.length_cons, hl]
  · obtain ⟨a', ys, rfl, hl, _, ha, hq⟩ := h
    refine ⟨a', ys, ?_, hl, ha, fun d' H2 gs h1 h2 h3 h4 h5 h6 => hq d' H2 gs h1 h2 h3 h4 h5 h6⟩
    unfold L2.start
    rw [List.length_cons, List.length_cons, hl, Nat.sub_self]
    show some (V.ref a') :: ys.map some ++ [] = _
    rw [List.append_nil]
end MP
set_option Elab.async false
set_option linter.all false
set_option maxRecDepth 100000
set_option maxHeartbeats 4000000
/-! MPHead2: from the head's facts to the promises of all defs. -/
namespace MP
open PySem PySem.Spec PyProof.Rows L2 He
structure Stat (s : ST) (fns : List Fn) (subs : List ((Str × Str) × Bool)) (xfs : List (Str × Str)) (fn xfn : List DefD) : Prop where
  T : s.T = mkTab fns subs xfs s.xcs
  rows : RowsOk fns fn
  xrows : ∀ (i : Nat) q, s.xcs[i]? = some q → ∃ d, xfn[i]? = some d ∧ XRow q d
  tops : ∀ q ∈ s.tops, ∃ d F, fn[q.1]? = some d ∧ d.at_ = (q.2, none) ∧ fns[q.1]? = some F ∧ (q.2 == ("__debug__" : Str)) = false
  hots : ∀ q ∈ s.hots, q ∈ s.tops
  cls : ∀ q ∈ s.cls, ∃ d F, fn[q.2]? = some d ∧ d.at_ = (q.1, some ("__init__" : Str)) ∧ fns[q.2]? = some F ∧ (q.1 == ("__debug__" : Str)) = false
  exn : ∀ x ∈ s.exn, (x == ("__debug__" : Str)) = false
  kws : ∀ q ∈ s.kws, ∃ d F, fn[q.1]? = some d ∧ fns[q.1]? = some F ∧ ∀ (kV doc pm : Value) (an : Option Addr) (cdv ct : Value) (us ws zs : List Value), us.length = q.2.1 → ws.length = q.2.2.1.length → (q.2.2.2.mapM fun i => (us ++ ws)[i]?) = some zs →
    bindArgs (PySem.W.fnOf d.name d.qual d.params d.body d.scope .none kV doc pm an cdv ct) ⟨us, q.2.2.1.zip ws⟩ = pure ((F.N.take F.np).zip zs)
  ok : fns.all (fun F => okSs s ⟨F.N, F.sc, true⟩ F.body) = true
  hot : ∀ q ∈ s.hots, ∃ F, fns[q.1]? = some F ∧ okSs s ⟨F.N, F.sc, false⟩ F.body = true
open Classical in
noncomputable def faOf (K : PySem.W.Frag) (fns : List Fn) (fn : List DefD) : FA where
  adr := fun f => match fn[f]? with
    | some d => fAd K d.at_
    | none => 0
  fd := fun f => if h : ∃ fd d, fn[f]? = some d ∧ FunD K d.name d.qual d.params d.body d.scope (d.dvs K) (d.kws K) (fAd K d.at_) fd then h.choose else PySem.W.fnOf "" "" ⟨[], [], none, [], [], none, []⟩ [] ⟨.function, [], false, false, []⟩ .none .none .none .none none .none .none
  ps := fun f => match fns[f]? with
    | some F => F.N.take F.np
    | none => []
theorem lookup_mem {α β : Type} [BEq α] [LawfulBEq α] {k : α} {v : β} : ∀ {l : List (α × β)}, l.lookup k = some v → (k, v) ∈ l
  | [], h => by cases h
  | (a, b) :: l, h => by
    rw [List.lookup_cons] at h
    cases e : k == a with
    | true =>
      rw [e] at h
      cases h
      rw [eq_of_beq e]
      exact List.mem_cons_self
    | false =>
      rw [e] at h
      exact List.mem_cons_of_mem _ (lookup_mem h)
section
variable {s : ST} {fns : List Fn} {subs : List ((Str × Str) × Bool)} {xfs : List (Str × Str)} {fn xfn : List DefD} {P : Program} {w : World} {K : PySem.W.Frag} {mg : Str → Option Value} {base h : Heap}
theorem fd_at (c : SaysD [] (fn ++ xfn) K) {f : Nat} {d : DefD} (hd : fn[f]? = some d) : FunD K d.name d.qual d.params d.body d.scope (d.dvs K) (d.kws K) ((faOf K fns fn).adr f) ((faOf K fns fn).fd f) := by
  have hl := (List.getElem?_eq_some_iff.mp hd).1
  have hd2 : (fn ++ xfn)[f]? = some d := by rw [List.getElem?_append_left hl]; exact hd
  obtain ⟨fd, F⟩ := c.def_ f hd2
  have hx : ∃ fd d, fn[f]? = some d ∧ FunD K d.name d.qual d.params d.body d.scope (d.dvs K) (d.kws K) (fAd K d.at_) fd := ⟨fd, d, hd, F⟩
  have ea : (faOf K fns fn).adr f = fAd K d.at_ := by
    show (match fn[f]? with
      | some d => fAd K d.at_
      | none => 0) = _
    rw [hd]
  have ef : (faOf K fns fn).fd f = hx.choose := dif_pos hx
  obtain ⟨d2, h1, h2⟩ := hx.choose_spec
  rw [hd] at h1
  cases h1
  rw [ea, ef]
  exact h2
theorem fdef (St : Stat s fns subs xfs fn xfn) (c : SaysD [] (fn ++ xfn) K) {f : Nat} {F : Fn} (hF : fns[f]? = some F) : ∃ d, fn[f]? = some d ∧ RowOk F d ∧ FDef K (faOf K fns fn) f F ∧ FunD K d.name d.qual d.params d.body d.scope [] [] ((faOf K fns fn).adr f) ((faOf K fns fn).fd f) ∧ (faOf K fns fn).ps f = F.N.take F.np := by
  obtain ⟨d, hd, r⟩ := St.rows.at hF
  have D := fd_at (fns := fns) (xfn := xfn) c hd
  have D' := FunD.nil D (by unfold DefD.dvs; rw [r.dfl]; rfl) (by unfold DefD.kws; rw [r.kwd]; rfl)
  have ep : (faOf K fns fn).ps f = F.N.take F.np := by
    show (match fns[f]? with
      | some F => F.N.take F.np
      | none => []) = _
    rw [hF]
  refine ⟨d, hd, r, ⟨⟨d.name, d.qual, d.params, ?_⟩, by rw [ep]; exact r.S, by rw [ep]; exact r.len⟩, D', ep⟩
  have D2 := D'
  rw [r.body, r.scope] at D2
  exact D2
theorem gf_of (St : Stat s fns subs xfs fn xfn) (X : K.In h) (G : h.Ns mainGlobals mg) (ex : exM s subs xfs K = true) (c : SaysD [] (fn ++ xfn) K) : GF P w K mg base s (faOf K fns fn) := by
  obtain ⟨x1, ex⟩ := ba ex
  obtain ⟨x2, ex⟩ := ba ex
  obtain ⟨x3, ex⟩ := ba ex
  obtain ⟨x4, ex⟩ := ba ex
  obtain ⟨x5, ex⟩ := ba ex
  obtain ⟨x6, ex⟩ := ba ex
  obtain ⟨x7, ex⟩ := ba ex
  obtain ⟨x8, ex⟩ := ba ex
  obtain ⟨x9, x10⟩ := ba ex
  have eT : s.T.fns = fns := by rw [St.T]; rfl
  have bnd : ∀ {f : Nat} {F : Fn}, fns[f]? = some F → Binds K ((faOf K fns fn).fd f) ((faOf K fns fn).ps f) [] := fun {f F} hF => by
    obtain ⟨d, hd, r, _, D, ep⟩ := fdef St c hF
    rw [ep]
    exact D.bindsN fun kV doc pm an cdv ct us hl => r.bind kV doc pm an cdv ct us hl
  refine ⟨fun q hq => ?_, St.hots, fun q hq => ?_, fun q hq => ?_, fun x hx => free_ok X G (List.all_eq_true.mp x4 x hx), fun q hq => He.int_ok X G (List.all_eq_true.mp x5 q hq), fun x hx => ⟨glo_ok X G (List.all_eq_true.mp x6 x hx), St.exn x hx⟩, fun q hq => ?_, fun q hq => PySem.W.mg_of X G (eqO_ok (List.all_eq_true.mp x7 q hq)), fun c' c0 b e _ => ?_, fun c' c0 e => ?_, fun c0 f e => ?_, fun q hq => ?_⟩
  · obtain ⟨d, F, hd, ha, hF, hn⟩ := St.tops q hq
    have D := fd_at (fns := fns) (xfn := xfn) c hd
    have ea : (faOf K fns fn).adr q.1 = ga K q.2 := by
      show (match fn[q.1]? with
        | some d => fAd K d.at_
        | none => 0) = _
      rw [hd]
      show fAd K d.at_ = _
      rw [ha]
      rfl
    refine ⟨?_, D.kp, bnd hF, hn, F, by rw [eT]; exact hF⟩
    rw [ea]
    exact glo_ok X G (List.all_eq_true.mp x1 q hq)
  · obtain ⟨d, F, hd, ha, hF, hn⟩ := St.cls q hq
    obtain ⟨g1, g2⟩ := ba (List.all_eq_true.mp x2 q hq)
    obtain ⟨m1, g2⟩ := ba g2
    obtain ⟨m2, g2⟩ := ba g2
    obtain ⟨m3, m4⟩ := ba g2
    have ea : (faOf K fns fn).adr q.2 = ma K (ga K q.1) "__init__" := by
      show (match fn[q.2]? with
        | some d => fAd K d.at_
        | none => 0) = _
      rw [hd]
      show fAd K d.at_ = _
      rw [ha]
      rfl
    rw [ea]
    exact ⟨⟨m1, eqO_ok m2, m3, m4⟩, glo_ok X G g1, bnd hF, hn, F, by rw [eT]; exact hF⟩
  · obtain ⟨g1, g2⟩ := ba (List.all_eq_true.mp x3 q hq)
    obtain ⟨c1, g1⟩ := ba g1
    obtain ⟨c2, g1⟩ := ba g1
    obtain ⟨c3, c4⟩ := ba g1
    exact ⟨⟨c1, c2, c3, eqO_ok c4⟩, eqO_ok g2⟩
  · obtain ⟨d, F, hd, hF, hb⟩ := St.kws q hq
    obtain ⟨d2, hd2, r, _, D, ep⟩ := fdef St c hF
    rw [hd] at hd2
    cases hd2
    obtain ⟨oc, od, dV, kV, doc, pm, an, cdv, ct, osl, e, lk, hcd, hD, hK⟩ := D.ex
    rcases hD with ⟨_, e0⟩ | ⟨e0, _⟩
    · subst e0
      rw [e, ep]
      exact fun us ws zs l1 l2 e3 => hb kV doc pm an cdv ct us ws zs l1 l2 e3
    · exact absurd rfl e0
  · rw [St.T] at e
    have hm := lookup_mem (show subs.lookup (c', c0) = some b from e)
    obtain ⟨g1, g2⟩ := ba (List.all_eq_true.mp x8 _ hm)
    obtain ⟨g2, _⟩ := ba g2
    exact ⟨excCB_ok g1, of_decide_eq_true g2⟩
  · rw [St.T] at e
    have hm := lookup_mem (show subs.lookup (c', c0) = some true from e)
    obtain ⟨g1, g2⟩ := ba (List.all_eq_true.mp x8 _ hm)
    obtain ⟨_, g2⟩ := ba g2
    exact of_decide_eq_true (by simpa using g2)
  · rw [St.T] at e
    have hm := of_decide_eq_true (show decide ((c0, f) ∈ xfs) = true from e)
    obtain ⟨g1, g2⟩ := ba (List.all_eq_true.mp x9 _ hm)
    exact ⟨xfB_ok g1, eqO_ok g2⟩
  · obtain ⟨i, hi, e⟩ := List.mem_iff_getElem.mp hq
    have e2 : s.xcs[i]? = some q := by rw [List.getElem?_eq_getElem hi, e]
    obtain ⟨d, hd, r⟩ := St.xrows i q e2
    have a := oexAll_ok (List.all_eq_true.mp x10 q hq)
    have hd2 : (fn ++ xfn)[fn.length + i]? = some d := by
      rw [List.getElem?_append_right (Nat.le_add_right _ _), Nat.add_sub_cancel_left]
      exact hd
    obtain ⟨fd, F⟩ := c.def_ (fn.length + i) hd2
    obtain ⟨f1, f2⟩ := xrow_ok (P := P) (w := w) (mg := mg) (base := base) r a F
    exact ⟨_, fd, _, a.C, a.init, a.ty, r.ne, r.le, f1, f2, glo_ok X G a.glo, r.dbg⟩
/-- all defs keep their promises at every level -/
theorem fl_of (St : Stat s fns subs xfs fn xfn) (X : K.In h) (G : h.Ns mainGlobals mg) (ex : exM s subs xfs K = true) (c : SaysD [] (fn ++ xfn) K) (n : Nat) : FL P w K mg base s (faOf K fns fn) n := by
  have eT : s.T.fns = fns := by rw [St.T]; rfl
  refine fl_all (gf_of St X G ex c) (fun f F hF => ?_) (fun f F hF => ?_) (fun q hq => ?_) n
  · rw [eT] at hF
    obtain ⟨d, _, _, D, _⟩ := fdef St c hF
    exact D
  · rw [eT] at hF
    exact List.all_eq_true.mp St.ok F (List.mem_of_getElem? hF)
  · obtain ⟨F, h1, h2⟩ := St.hot q hq
    exact ⟨F, by rw [eT]; exact h1, h2⟩
/-- the law's promise: the 0-th def, at a list of ints -/
theorem law_of (St : Stat s fns subs xfs fn xfn) (X : K.In h) (G : h.Ns mainGlobals mg) (ex : exM s subs xfs K = true) (c : SaysD [] (fn ++ xfn) K) {fa : Addr} {F : Fn} (hF : fns[0]? = some F) {x : Str} (hps : F.N.take F.np = [x]) (h0 : (0, ("law" : Str)) ∈ s.tops) (hfa : mg ("law" : Str) = some (.ref fa)) (n : Nat) :
    ∃ fd : FuncData, (∀ (st : Shared) (u : Value), BindsTo st fd ⟨[u], []⟩ [(x, u)]) ∧ ∀ base : Heap, FnOk P w K mg base (L2N.CX P w) (3 * n) fa fd [x] (spF K s.T n 0) := by
  obtain ⟨d, hd, r, D, DD, ep⟩ := fdef St c hF
  have g := (gf_of (P := P) (w := w) (base := h) St X G ex c).top _ h0
  have e := hfa.symm.trans g.1
  cases e
  refine ⟨(faOf K fns fn).fd 0, fun st u => ?_, fun base => ?_⟩
  · have b := FunD.bindsA (ps := [x]) DD (fun kV doc pm an cdv ct us hl => by
      have q := r.bind kV doc pm an cdv ct us (by rw [hps]; exact hl)
      rw [hps] at q
      exact q) st [u] rfl
    exact b
  · have q := (fl_of (P := P) (w := w) (base := base) St X G ex c n).calm 0 F (by rw [St.T]; exact hF)
    rw [ep, hps] at q
    exact q
/-- a script that the law takes -/
theorem slst_rel {w : Wd} {a : Addr} {ns : List Int} {H : Hp} (hw : w.H = H) (hl : w.n = 0) (hh : w.hid = []) (hz : ns.length ≤ sizeLine) (hS : SqL K H a (ns.map V.int)) : Rel K w (.dat (.slst (ns.map D.int))) (.ref a) := by
  refine ⟨a, ns.map V.int, rfl, ?_, by rw [List.length_map]; exact hz, ?_⟩
  · rcases hS with hS | hS
    · refine .inl ⟨fun z => ?_, by rw [hw]; exact hS⟩
      rcases z with ⟨k, hk, _⟩ | z
      · rw [hl] at hk
        exact absurd hk (Nat.not_lt_zero _)
      · rw [hh] at z
        cases z
    · exact .inr hS
  · clear hS hz
    induction ns with
    | nil => rfl
    | cons i ns ih => exact ⟨.int i, ns.map V.int, rfl, rfl, ih⟩
theorem sp_law {T : Tab} {n : Nat} {H : Hp} {a : Addr} {ns : List Int} {f : Nat} (hz : ns.length ≤ sizeLine) (hS : SqL K H a (ns.map V.int)) (hv : callN T n f [.dat (.slst (ns.map D.int))] [] = .ok (.dat (.bl true)) []) : spF K T n f [.ref a] H (fun v _ => v = .bl true) fun _ _ _ => False := by
  refine ⟨⟨H, 0, fun _ => 0, []⟩, [], [.dat (.slst (ns.map D.int))], rfl, ⟨rfl, (fun i j hi => absurd hi (Nat.not_lt_zero _)), (fun b hb => absurd hb (by simp)), (fun k c e => absurd e (by simp))⟩, ⟨_, _, rfl, slst_rel rfl rfl rfl hz hS, rfl⟩, ?_⟩
  rw [hv]
  intro w' v _ _ r
  exact r
end
end MP
set_option Elab.async false
set_option linter.all false
set_option maxRecDepth 100000
set_option maxHeartbeats 4000000
/-! MPHead3: the static tables by deciding. -/
namespace MP
open PySem PySem.Spec PyProof.Rows L2 He
section
variable {s : ST} {fns : List Fn} {fn : List DefD}
def topsB (tops : List (Nat × Str)) (fns : List Fn) (fn : List DefD) : Bool := tops.all fun q => match fn[q.1]?, fns[q.1]? with
  | some d, some _ => decide (d.at_ = (q.2, none)) && !(q.2 == ("__debug__" : Str))
  | _, _ => false
theorem tops_by (h : topsB s.tops fns fn = true) : ∀ q ∈ s.tops, ∃ d F, fn[q.1]? = some d ∧ d.at_ = (q.2, none) ∧ fns[q.1]? = some F ∧ (q.2 == ("__debug__" : Str)) = false := fun q hq => by
  have h1 := List.all_eq_true.mp h q hq
  cases e : fn[q.1]? with
  | none => simp only [e] at h1; cases h1
  | some d =>
    cases e2 : fns[q.1]? with
    | none => simp only [e, e2] at h1; cases h1
    | some F =>
      simp only [e, e2] at h1
      obtain ⟨h2, h3⟩ := ba h1
      exact ⟨d, F, rfl, of_decide_eq_true h2, rfl, by simpa using h3⟩
def clsB (cls : List (Str × Nat)) (fns : List Fn) (fn : List DefD) : Bool := cls.all fun q => match fn[q.2]?, fns[q.2]? with
  | some d, some _ => decide (d.at_ = (q.1, some ("__init__" : Str))) && !(q.1 == ("__debug__" : Str))
  | _, _ => false
theorem cls_by (h : clsB s.cls fns fn = true) : ∀ q ∈ s.cls, ∃ d F, fn[q.2]? = some d ∧ d.at_ = (q.1, some ("__init__" : Str)) ∧ fns[q.2]? = some F ∧ (q.1 == ("__debug__" : Str)) = false := fun q hq => by
  have h1 := List.all_eq_true.mp h q hq
  cases e : fn[q.2]? with
  | none => simp only [e] at h1; cases h1
  | some d =>
    cases e2 : fns[q.2]? with
    | none => simp only [e, e2] at h1; cases h1
    | some F =>
      simp only [e, e2] at h1
      obtain ⟨h2, h3⟩ := ba h1
      exact ⟨d, F, rfl, of_decide_eq_true h2, rfl, by simpa using h3⟩
theorem exn_by (h : (s.exn.all fun x => !(x == ("__debug__" : Str))) = true) : ∀ x ∈ s.exn, (x == ("__debug__" : Str)) = false := fun x hx => by
  have h1 := List.all_eq_true.mp h x hx
  simpa using h1
theorem hot_by (h : (s.hots.all fun q => match fns[q.1]? with
    | some F => okSs s ⟨F.N, F.sc, false⟩ F.body
    | none => false) = true) : ∀ q ∈ s.hots, ∃ F, fns[q.1]? = some F ∧ okSs s ⟨F.N, F.sc, false⟩ F.body = true := fun q hq => by
  have h1 := List.all_eq_true.mp h q hq
  cases e : fns[q.1]? with
  | none => simp only [e] at h1; cases h1
  | some F => simp only [e] at h1; exact ⟨F, rfl, h1⟩
end
end MP
set_option Elab.async false
set_option linter.all false
set_option maxRecDepth 100000
set_option maxHeartbeats 4000000
/-! MPRun: how the evaluation runs on data. -/
namespace MP
open PySem PySem.Spec PyProof.Rows L2
/-- a store whose cells name cells of it alone -/
def WF (S : Store) : Prop := S.all (Cell.below S.length) = true
theorem wf_nil : WF [] := rfl
theorem seal_dat {S : Store} {ρ : Env} {d : D} (h : WF S) : sealS S.length (.go (.ret (.dat d)) ρ S) = .ok (.dat d) S := by
  show sealR S.length (.dat d) S = _
  unfold sealR
  rw [List.take_length, if_pos ⟨h, Nat.le_refl _⟩]
theorem seal_next {S : Store} {ρ : Env} (h : WF S) : sealS S.length (.go .next ρ S) = .ok (.dat .non) S := by
  show sealR S.length (.dat .non) S = _
  unfold sealR
  rw [List.take_length, if_pos ⟨h, Nat.le_refl _⟩]
theorem seal_exc {S : Store} {ρ : Env} {c : Str} {ns : List Str} {l : List D} (h : WF S) : sealS S.length (.exc c ns l ρ S) = .exc c ns l S := by
  show (if (S.take S.length).all (Cell.below S.length) = true ∧ S.length ≤ S.length then _ else _) = _
  rw [List.take_length, if_pos ⟨h, Nat.le_refl _⟩]
/-- behind a call the new cells are given up: the store S0, as many cells as ahead -/
theorem seal_cut {S S0 E : Store} {ρ : Env} {d : D} (hl : S0.length = S.length) (h : WF S0) : sealS S.length (.go (.ret (.dat d)) ρ (S0 ++ E)) = .ok (.dat d) S0 := by
  show sealR S.length (.dat d) (S0 ++ E) = _
  unfold sealR
  rw [← hl, List.take_left, if_pos ⟨h, by rw [List.length_append]; omega⟩]
theorem seal_own {S S0 E : Store} {ρ : Env} {k : Nat} {d : D} (hl : S0.length = S.length) (h : WF S0) (hk : S.length ≤ k) (hd : toD S.length (S0 ++ E) 8 (.own k) = some d) : sealS S.length (.go (.ret (.own k)) ρ (S0 ++ E)) = .ok (.dat d) S0 := by
  show sealR S.length (.own k) (S0 ++ E) = _
  unfold sealR
  rw [show (S0 ++ E).take S.length = S0 by rw [← hl, List.take_left], if_pos ⟨by rw [← hl]; exact h, by rw [List.length_append]; omega⟩]
  show (if k < S.length then _ else _) = _
  rw [if_neg (Nat.not_lt.mpr hk)]
  simp only [hd]
theorem run_call {T : Tab} {n i : Nat} {F : Fn} {rs : List R} {S : Store} {r : SRes} {q : Res R} (hF : T.fns[i]? = some F) (hl : rs.length = F.np) (hb : evSs (T.C n) F.body (MP.start F rs) S = r) (hs : sealS S.length r = q) : callN T (n + 1) i rs S = q := by
  show (match T.fns[i]? with
    | some F => runF (T.C n) F rs
    | none => M.stuck) S = q
  rw [hF]
  show (if rs.length = F.np then sealS S.length (evSs (T.C n) F.body (MP.start F rs) S) else .stuck) = q
  rw [if_pos hl, hb, hs]
theorem datsR_map : ∀ ds : List D, datsR (ds.map R.dat) = some ds
  | [] => rfl
  | d :: ds => by
    show (datsR (ds.map .dat)).map (d :: ·) = _
    rw [datsR_map ds]
    rfl
theorem intsR_map : ∀ ns : List Int, intsR (ns.map fun i => R.dat (.int i)) = some ns
  | [] => rfl
  | i :: ns => by
    show (intsR (ns.map fun i => R.dat (.int i))).map (i :: ·) = _
    rw [intsR_map ns]
    rfl
/-- it returns data, the store as given -/
def RetOk (d : D) (S : Store) : SRes → Prop
  | .go (.ret (.dat d')) _ S' => d' = d ∧ S' = S
  | _ => False
theorem run_ret {T : Tab} {n i : Nat} {F : Fn} {rs : List R} {S : Store} {d : D} (hF : T.fns[i]? = some F) (hl : rs.length = F.np) (hw : WF S) (hb : RetOk d S (evSs (T.C n) F.body (MP.start F rs) S)) : callN T (n + 1) i rs S = .ok (.dat d) S := by
  match e : evSs (T.C n) F.body (MP.start F rs) S with
  | .go (.ret (.dat d')) ρ S' =>
    rw [e] at hb
    obtain ⟨h1, h2⟩ := hb
    subst h1 h2
    exact run_call hF hl e (seal_dat hw)
  | .go (.ret (.own k)) ρ S' => rw [e] at hb; exact hb.elim
  | .go (.ret (.exc c ns l)) ρ S' => rw [e] at hb; exact hb.elim
  | .go .next ρ S' => rw [e] at hb; exact hb.elim
  | .go .brk ρ S' => rw [e] at hb; exact hb.elim
  | .go .cont ρ S' => rw [e] at hb; exact hb.elim
  | .exc c ns l ρ S' => rw [e] at hb; exact hb.elim
  | .stuck => rw [e] at hb; exact hb.elim
/-! ### items -/
theorem ix_nat {l : List D} {k : Nat} {d : D} {S : Store} (h : l[k]? = some d) : ixR (.dat (.lst l)) (.dat (.int (k : Int))) S = .ok (.dat d) S := by
  have hk : k < l.length := (List.getElem?_eq_some_iff.mp h).1
  have e : atI (l.map R.dat) (k : Int) = some (.dat d) := by
    unfold atI
    have e1 : ixN (l.map R.dat).length (k : Int) = some k := by
      unfold ixN
      rw [List.length_map]
      simp
      omega
    rw [e1]
    show (l.map R.dat)[k]? = _
    rw [List.getElem?_map, h]
    rfl
  show (match atR (l.map R.dat) (k : Int) with
    | some r => Res.ok r S
    | none => .stuck) = _
  unfold atR
  rw [e]
theorem sum_dat {m : Bool} {ns : List Int} {S : Store} : biR m .sum [.dat (.lst (ns.map D.int))] S = .ok (.dat (.int ns.sum)) S := by
  show (match (some ((ns.map D.int).map R.dat)).bind intsR with
    | some xs => Res.ok (R.dat (.int xs.sum)) S
    | none => .stuck) = _
  rw [List.map_map]
  have e : (ns.map (R.dat ∘ D.int)) = ns.map fun i => R.dat (.int i) := rfl
  rw [e, Option.bind_some, intsR_map]
theorem len_dat {m : Bool} {l : List D} {S : Store} : biR m .len [.dat (.lst l)] S = .ok (.dat (.int l.length)) S := by
  show Res.ok (R.dat (.int ((l.map R.dat).length : Nat))) S = _
  rw [List.length_map]
/-! ### one statement after the other -/
theorem ss_next {C : CallsX} {s : IS} {r : ISs} {ρ ρ1 : Env} {S S1 : Store} (h : evS C s ρ S = .go .next ρ1 S1) : evSs C (.cons s r) ρ S = evSs C r ρ1 S1 := by
  show (match evS C s ρ S with
    | .go .next ρ1 S1 => evSs C r ρ1 S1
    | x => x) = _
  rw [h]
theorem ss_ret {C : CallsX} {s : IS} {r : ISs} {ρ ρ1 : Env} {S S1 : Store} {v : R} (h : evS C s ρ S = .go (.ret v) ρ1 S1) : evSs C (.cons s r) ρ S = .go (.ret v) ρ1 S1 := by
  show (match evS C s ρ S with
    | .go .next ρ1 S1 => evSs C r ρ1 S1
    | x => x) = _
  rw [h]
theorem ss_exc {C : CallsX} {s : IS} {r : ISs} {ρ ρ1 : Env} {S S1 : Store} {c : Str} {ns : List Str} {l : List D} (h : evS C s ρ S = .exc c ns l ρ1 S1) : evSs C (.cons s r) ρ S = .exc c ns l ρ1 S1 := by
  show (match evS C s ρ S with
    | .go .next ρ1 S1 => evSs C r ρ1 S1
    | x => x) = _
  rw [h]
section
variable {C : CallsX} {ρ : Env} {S S1 : Store} {p : Pos}
theorem r_ret {e : IE} {r : R} (h : evE C.toCalls e ρ S = .ok r S1) : evS C (.ret e p) ρ S = .go (.ret r) ρ S1 := by
  show SRes.of ρ (evE C.toCalls e ρ S) _ = _
  rw [h]
  rfl
theorem r_asg {i : Nat} {x : Str} {px : Pos} {e : IE} {r : R} (h : evE C.toCalls e ρ S = .ok r S1) : evS C (.asg (.one i x px) e p) ρ S = .go .next (ρ.set i (some r)) S1 := by
  show SRes.of ρ (evE C.toCalls e ρ S) _ = _
  rw [h]
  rfl
theorem r_expr {e : IE} {r : R} (h : evE C.toCalls e ρ S = .ok r S1) : evS C (.expr e p) ρ S = .go .next ρ S1 := by
  show SRes.of ρ (evE C.toCalls e ρ S) _ = _
  rw [h]
  rfl
theorem r_if {c : IE} {a b : ISs} {t : Bool} (h : evE C.toCalls c ρ S = .ok (.dat (.bl t)) S1) : evS C (.ite c a b p) ρ S = if t = true then evSs C a ρ S1 else evSs C b ρ S1 := by
  show SRes.of ρ (M.bind (evE C.toCalls c ρ) truB S) _ = _
  rw [bind_at h]
  rfl
theorem r_setAt {o e : IE} {c f : Str} {ps : Pos} {k : Nat} {ns : List Str} {rs : List R} {r : R} {S2 : Store} (h1 : evE C.toCalls e ρ S = .ok r S1) (h2 : evE C.toCalls o ρ S1 = .ok (.own k) S2) (hk : S2[k]? = some (.obj c ns rs)) (hl : ns.length < 900) :
    evS C (.setAt o c f e ps p) ρ S = .go .next ρ (S2.set k (.obj c (putN f r ns rs).1 (putN f r ns rs).2)) := by
  show SRes.of ρ (M.bind (evE C.toCalls e ρ) (fun v => M.bind (evE C.toCalls o ρ) fun x => setAtR x c f v) S) _ = _
  rw [bind_at h1, bind_at h2]
  unfold setAtR
  simp only [hk]
  rw [if_pos (show True ∧ ns.length < 900 from ⟨trivial, hl⟩)]
  rfl
theorem r_for {t : IT} {it : II} {b : ISs} {xs : List Itm} {g : Gd} (h : evII C.toCalls it ρ S = .ok (xs, g) S1) : evS C (.for_ t it b p) ρ S = forL t g (fun ρ' S' => evSs C b ρ' S') xs ρ S1 := by
  show SRes.of ρ (evII C.toCalls it ρ S) _ = _
  rw [h]
  rfl
end
/-! the same, told of a wish P about the end -/
section
variable {C : CallsX} {ρ ρ1 : Env} {S S1 : Store} {P : SRes → Prop} {r : ISs} {p : Pos}
theorem p_next {s : IS} (h : evS C s ρ S = .go .next ρ1 S1) (k : P (evSs C r ρ1 S1)) : P (evSs C (.cons s r) ρ S) := by
  rw [ss_next h]
  exact k
theorem p_asg {i : Nat} {x : Str} {px : Pos} {e : IE} (v : R) (h : evE C.toCalls e ρ S = .ok v S1) (k : P (evSs C r (ρ.set i (some v)) S1)) : P (evSs C (.cons (.asg (.one i x px) e p) r) ρ S) := p_next (r_asg h) k
theorem p_ret {e : IE} {d : D} (h : evE C.toCalls e ρ S = .ok (.dat d) S) : RetOk d S (evSs C (.cons (.ret e p) r) ρ S) := by
  rw [ss_ret (r_ret h)]
  exact ⟨rfl, rfl⟩
theorem p_if {c : IE} {a b : ISs} {t : Bool} (h : evE C.toCalls c ρ S = .ok (.dat (.bl t)) S1) (k : P (match (if t = true then evSs C a ρ S1 else evSs C b ρ S1) with
    | .go .next ρ1 S1 => evSs C r ρ1 S1
    | x => x)) : P (evSs C (.cons (.ite c a b p) r) ρ S) := by
  show P (match evS C (.ite c a b p) ρ S with
    | .go .next ρ1 S1 => evSs C r ρ1 S1
    | x => x)
  rw [r_if h]
  exact k
end
/-! ### loops on data -/
theorem gd_nil {S : Store} : gdOk S [] = true := gd_iff.mpr fun q hq => by cases hq
/-- a for whose body keeps P, turn by turn -/
theorem for_ind {t : IT} {g : Gd} {b : Env → Store → SRes} (Pv : Nat → Env → Store → Prop) : ∀ (xs : List Itm) (k : Nat) (ρ : Env) (S : Store), Pv k ρ S → (∀ i ρ S, Pv i ρ S → gdOk S g = true) →
    (∀ i x ρ S, xs[i]? = some x → Pv (k + i) ρ S → ∃ ρ1, bindT t x ρ S = some ρ1 ∧ ∃ ρ2 S2, b ρ1 S = .go .next ρ2 S2 ∧ Pv (k + i + 1) ρ2 S2) → ∃ ρ' S', forL t g b xs ρ S = .go .next ρ' S' ∧ Pv (k + xs.length) ρ' S'
  | [], k, ρ, S, h0, hg, _ => ⟨ρ, S, by
      show (if gdOk S g = true then _ else _) = _
      rw [if_pos (hg _ _ _ h0)], h0⟩
  | x :: xs, k, ρ, S, h0, hg, hs => by
    obtain ⟨ρ1, h1, ρ2, S2, h2, h3⟩ := hs 0 x ρ S rfl h0
    obtain ⟨ρ', S', h4, h5⟩ := for_ind Pv xs (k + 1) ρ2 S2 h3 hg fun i y ρ S hy hp => by
      have e : k + 1 + i = k + (i + 1) := by omega
      rw [e] at hp ⊢
      exact hs (i + 1) y ρ S hy hp
    refine ⟨ρ', S', ?_, by rw [List.length_cons, show k + (xs.length + 1) = k + 1 + xs.length by omega]; exact h5⟩
    unfold forL
    rw [if_pos (hg _ _ _ h0)]
    simp only [h1, h2]
    exact h4
theorem loop_map {t : IT} {g : Gd} {c : Env → M Bool} {el : Env → M (List R)} {ρ0 : Env} {S : Store} {G : Itm → List R} (hg : gdOk S g = true) : ∀ {xs : List Itm}, (∀ x ∈ xs, ∃ ρ', bindT t x ρ0 S = some ρ' ∧ c ρ' S = .ok true S ∧ el ρ' S = .ok (G x) S) →
    lcLoop g (lcTurn t g c el ρ0) xs S = .ok (xs.flatMap G) S
  | [], _ => by
    show (if gdOk S g = true then _ else _) = _
    rw [if_pos hg]
    rfl
  | x :: xs, h => by
    obtain ⟨ρ', h1, h2, h3⟩ := h x List.mem_cons_self
    have e1 : lcTurn t g c el ρ0 x S = .ok (G x) S := by
      unfold lcTurn
      rw [if_pos hg]
      simp only [h1]
      unfold M.noX
      rw [bind_at h2]
      simp only [if_pos, h3]
    show M.bind (lcTurn t g c el ρ0 x) (fun a => M.bind (lcLoop g (lcTurn t g c el ρ0) xs) fun b => M.pure (a ++ b)) S = _
    rw [bind_at e1, bind_at (loop_map hg fun y hy => h y (List.mem_cons_of_mem _ hy))]
    rfl
theorem lc_dat {C : Calls} {e : IE} {t : IT} {it : II} {own : List (Str × Nat)} {sc : Scope} {p : Pos} {ρ : Env} {S : Store} {xs : List Itm} {g : Gd} {G : Itm → D} (hi : evII C it ρ S = .ok (xs, g) S) (hg : gdOk S g = true)
    (hx : ∀ x ∈ xs, ∃ ρ', bindT t x (wipeE ρ (own.map (·.2))) S = some ρ' ∧ evE C e ρ' S = .ok (.dat (G x)) S) (hl : xs.length ≤ 1000000) : evE C (.lc false e t it .nil own sc p) ρ S = .ok (.dat (.lst (xs.map G))) S := by
  show M.bind (evII C it ρ) (fun q => M.bind (lcLoop q.2 (lcTurn t q.2 (fun ρ' => evTs C .nil ρ') (fun ρ' => M.bind (evE C e ρ') fun r => M.pure [r]) (wipeE ρ (own.map (·.2)))) q.1) (lcOut false)) S = _
  rw [bind_at hi, bind_at (loop_map (G := fun x => [.dat (G x)]) hg fun x hm => by
    obtain ⟨ρ', h1, h2⟩ := hx x hm
    exact ⟨ρ', h1, rfl, by rw [bind_at h2]; rfl⟩)]
  have e1 : (xs.flatMap fun x => [R.dat (G x)]) = (xs.map G).map R.dat := by
    rw [List.map_map]
    have e : ∀ l : List Itm, (l.flatMap fun x => [R.dat (G x)]) = l.map (R.dat ∘ G) := fun l => by
      induction l with
      | nil => rfl
      | cons y l ih => rw [List.flatMap_cons, ih]; rfl
    exact e xs
  rw [e1]
  unfold lcOut
  rw [if_pos (show small ((xs.map G).map R.dat).length = true by rw [List.length_map, List.length_map]; exact decide_eq_true hl)]
  unfold mkL
  rw [datsR_map]
theorem rng_eq : ∀ (n : Nat) (lo : Int), rngI lo n = (List.range n).map fun (k : Nat) => Itm.one (.dat (.int (lo + (k : Int))))
  | 0, _ => rfl
  | n + 1, lo => by
    rw [List.range_succ_eq_map, List.map_cons, List.map_map]
    show Itm.one (.dat (.int lo)) :: rngI (lo + 1) n = _
    rw [rng_eq n (lo + 1)]
    congr 1
    · simp
    · refine List.map_congr_left fun k _ => ?_
      have e : lo + 1 + (k : Int) = lo + ((k + 1 : Nat) : Int) := by omega
      rw [e]
      rfl
section
variable {C : Calls} {e : IE} {i : Nat} {x : Str} {px : Pos} {it : II} {own : List (Str × Nat)} {sc : Scope} {p : Pos} {ρ : Env} {S : Store}
/-- a comprehension over a range -/
theorem lc_rng {lo : Int} {n : Nat} {g : Nat → D} (hi : evII C it ρ S = .ok (rngI lo n, []) S) (hx : ∀ k : Nat, k < n → evE C e ((wipeE ρ (own.map (·.2))).set i (some (.dat (.int (lo + (k : Int)))))) S = .ok (.dat (g k)) S) (hl : n ≤ 1000000) :
    evE C (.lc false e (.one i x px) it .nil own sc p) ρ S = .ok (.dat (.lst ((List.range n).map g))) S := by
  have q := lc_dat (t := .one i x px) (e := e) (own := own) (sc := sc) (p := p) (G := fun y => match y with
    | .one (.dat (.int j)) => g (j - lo).toNat
    | _ => .non) hi gd_nil (fun y hy => by
      rw [rng_eq] at hy
      obtain ⟨k, hk, ey⟩ := List.mem_map.mp hy
      subst ey
      refine ⟨_, rfl, ?_⟩
      rw [hx k (List.mem_range.mp hk)]
      have e2 : (lo + (k : Int) - lo).toNat = k := by omega
      simp only [e2]) (by rw [rng_len]; exact hl)
  rw [q, rng_eq, List.map_map]
  congr 4
  refine funext fun k => ?_
  show g (lo + (k : Int) - lo).toNat = g k
  have e2 : (lo + (k : Int) - lo).toNat = k := by omega
  rw [e2]
/-- over a list that is data -/
theorem lc_lst {l : List D} {gd : Gd} {g : D → D} (hi : evII C it ρ S = .ok ((l.map R.dat).map .one, gd) S) (hg : gdOk S gd = true) (hx : ∀ d ∈ l, evE C e ((wipeE ρ (own.map (·.2))).set i (some (.dat d))) S = .ok (.dat (g d)) S) (hl : l.length ≤ 1000000) :
    evE C (.lc false e (.one i x px) it .nil own sc p) ρ S = .ok (.dat (.lst (l.map g))) S := by
  have q := lc_dat (t := .one i x px) (e := e) (own := own) (sc := sc) (p := p) (G := fun y => match y with
    | .one (.dat d) => g d
    | _ => .non) hi hg (fun y hy => by
      rw [List.map_map] at hy
      obtain ⟨d, hd, ey⟩ := List.mem_map.mp hy
      subst ey
      exact ⟨_, rfl, hx d hd⟩) (by rw [List.length_map, List.length_map]; exact hl)
  rw [q, List.map_map, List.map_map]
  rfl
theorem ii_of {a : IE} {l : List D} (h : evE C a ρ S = .ok (.dat (.lst l)) S) : evII C (.of a) ρ S = .ok ((l.map R.dat).map .one, []) S := by
  show M.bind (evE C a ρ) _ S = _
  rw [bind_at h]
  rfl
theorem ii_tup {a : IE} {l : List D} (h : evE C a ρ S = .ok (.dat (.tup l)) S) : evII C (.of a) ρ S = .ok ((l.map R.dat).map .one, []) S := by
  show M.bind (evE C a ρ) _ S = _
  rw [bind_at h]
  rfl
theorem ii_rng1 {a : IE} {p0 p : Pos} {n : Nat} (h : evE C a ρ S = .ok (.dat (.int (n : Int))) S) (hn : n ≤ 1000000) : evII C (.rng1 a p0 p) ρ S = .ok (rngI 0 n, []) S := by
  show M.bind (evE C a ρ) _ S = _
  rw [bind_at h]
  show (if rngOk (n : Int) = true then M.pure (rngI 0 (n : Int).toNat, ([] : Gd)) else M.stuck) S = _
  have e : rngOk (n : Int) = true := decide_eq_true ⟨by omega, by omega⟩
  rw [if_pos e, Int.toNat_natCast]
  rfl
end
/-- the size of a number in bits -/
def Sm (k : Nat) (x : Int) : Prop := x.natAbs < 2 ^ k
theorem Sm.log {k : Nat} {x : Int} (h : Sm k x) : x.natAbs.log2 ≤ k := by
  by_cases z : x.natAbs = 0
  · rw [z]
    exact Nat.zero_le _
  · exact Nat.le_of_lt ((Nat.log2_lt z).mpr h)
theorem Sm.mul {a b : Nat} {x y : Int} (hx : Sm a x) (hy : Sm b y) : Sm (a + b) (x * y) := by
  unfold Sm at *
  rw [Int.natAbs_mul, Nat.pow_add]
  exact Nat.mul_lt_mul'' hx hy
theorem Sm.mono {a b : Nat} {x : Int} (h : Sm a x) (l : a ≤ b) : Sm b x := Nat.lt_of_lt_of_le h (Nat.pow_le_pow_right (by decide) l)
theorem mulOk_of {a b : Nat} {x y : Int} (hx : Sm a x) (hy : Sm b y) (h : a + b ≤ 999999) : mulOk x y = true := decide_eq_true (by
  have := hx.log
  have := hy.log
  omega)
theorem R.below_mono {m m' : Nat} (h : m ≤ m') : ∀ {r : R}, R.below m r = true → R.below m' r = true
  | .dat _, _ => rfl
  | .own k, b => decide_eq_true (Nat.lt_of_lt_of_le (of_decide_eq_true b) h)
  | .exc _ _ _, b => by cases b
theorem Cell.below_mono {m m' : Nat} (h : m ≤ m') {c : Cell} (b : c.below m = true) : c.below m' = true := by
  cases c with
  | lst rs => exact List.all_eq_true.mpr fun r hr => R.below_mono h (List.all_eq_true.mp b r hr)
  | tup rs => exact List.all_eq_true.mpr fun r hr => R.below_mono h (List.all_eq_true.mp b r hr)
  | obj c ns rs => exact List.all_eq_true.mpr fun r hr => R.below_mono h (List.all_eq_true.mp b r hr)
theorem wf_push {S : Store} {c : Cell} (h : WF S) (b : c.below (S.length + 1) = true) : WF (S ++ [c]) := by
  refine List.all_eq_true.mpr fun x hx => ?_
  rw [List.length_append]
  rcases List.mem_append.mp hx with hx | hx
  · exact Cell.below_mono (Nat.le_add_right _ _) (List.all_eq_true.mp h x hx)
  · rw [List.mem_singleton.mp hx]
    exact b
theorem below_dats {m : Nat} (ds : List D) : (Cell.lst (ds.map R.dat)).below m = true := List.all_eq_true.mpr fun r hr => by
  obtain ⟨d, _, e⟩ := List.mem_map.mp hr
  rw [← e]
  rfl
theorem ix_own {rs : List R} {k t : Nat} {r : R} {S : Store} (hk : S[k]? = some (.lst rs)) (h : rs[t]? = some r) : ixR (.own k) (.dat (.int (t : Int))) S = .ok r S := by
  have ht : t < rs.length := (List.getElem?_eq_some_iff.mp h).1
  have e : atI rs (t : Int) = some r := by
    unfold atI
    have e1 : ixN rs.length (t : Int) = some t := by
      unfold ixN
      simp
      omega
    rw [e1]
    exact h
  have ei : itemsR S (.own k) = some rs := by
    unfold itemsR
    simp only [hk]
  unfold ixR
  rw [ei]
  show (match atR rs (t : Int) with
    | some r => Res.ok r S
    | none => .stuck) = _
  unfold atR
  rw [e]
/-- o.append(x): o a list that stands in a cell -/
theorem app_own {C : Calls} {o e : IE} {p1 p : Pos} {ρ : Env} {S S1 : Store} {k : Nat} {rs : List R} {r : R} (ho : evE C o ρ S = .ok (.own k) S) (hk : S[k]? = some (.lst rs)) (he : evE C e ρ S = .ok r S1) (hk1 : S1[k]? = some (.lst rs)) (hz : rs.length ≤ 1000000) :
    evE C (.lmeth o .append (.cons e .nil) p1 p) ρ S = .ok (.dat .non) (S1.set k (.lst (rs ++ [r]))) := by
  show M.bind (evE C o ρ) (fun x => M.bind (lmRecv x) fun _ => M.bind (M.bind (evE C e ρ) fun y => M.bind (M.pure []) fun ys => M.pure (y :: ys)) fun xs => lmR x .append xs) S = _
  rw [bind_at ho]
  have e1 : lmRecv (.own k) S = .ok () S := by
    unfold lmRecv
    simp only [hk]
  rw [bind_at e1, bind_assoc, bind_at he]
  show lmR (.own k) .append [r] S1 = _
  unfold lmR
  simp only [hk1]
  rw [if_pos (show small rs.length = true from decide_eq_true hz)]
theorem allD_dat {m f : Nat} {S : Store} : ∀ ds : List D, allD (toD m S f) (ds.map R.dat) = some ds
  | [] => rfl
  | d :: ds => by
    have e : toD m S f (.dat d) = some d := by cases f <;> rfl
    show (match toD m S f (.dat d), allD (toD m S f) (ds.map R.dat) with
      | some d, some ds => some (d :: ds)
      | _, _ => none) = _
    rw [e, allD_dat ds]
/-- the same by places -/
theorem loop_ix {t : IT} {g : Gd} {c : Env → M Bool} {el : Env → M (List R)} {ρ0 : Env} {S : Store} (hg : gdOk S g = true) : ∀ {xs : List Itm} {G : Nat → R}, (∀ (i : Nat) x, xs[i]? = some x → ∃ ρ', bindT t x ρ0 S = some ρ' ∧ c ρ' S = .ok true S ∧ el ρ' S = .ok [G i] S) →
    lcLoop g (lcTurn t g c el ρ0) xs S = .ok ((List.range xs.length).map G) S
  | [], G, _ => by
    show (if gdOk S g = true then _ else _) = _
    rw [if_pos hg]
    rfl
  | x :: xs, G, h => by
    obtain ⟨ρ', h1, h2, h3⟩ := h 0 x rfl
    have e1 : lcTurn t g c el ρ0 x S = .ok [G 0] S := by
      unfold lcTurn
      rw [if_pos hg]
      simp only [h1]
      unfold M.noX
      rw [bind_at h2]
      simp only [if_pos, h3]
    show M.bind (lcTurn t g c el ρ0 x) (fun a => M.bind (lcLoop g (lcTurn t g c el ρ0) xs) fun b => M.pure (a ++ b)) S = _
    rw [bind_at e1, bind_at (loop_ix hg (G := fun i => G (i + 1)) fun i y hy => h (i + 1) y hy), List.length_cons, List.range_succ_eq_map, List.map_cons, List.map_map]
    rfl
theorem lc_ix {C : Calls} {e : IE} {t : IT} {it : II} {own : List (Str × Nat)} {sc : Scope} {p : Pos} {ρ : Env} {S : Store} {xs : List Itm} {g : Gd} {G : Nat → D} {n : Nat} (hi : evII C it ρ S = .ok (xs, g) S) (hg : gdOk S g = true) (hn : xs.length = n)
    (hx : ∀ (i : Nat) x, xs[i]? = some x → ∃ ρ', bindT t x (wipeE ρ (own.map (·.2))) S = some ρ' ∧ evE C e ρ' S = .ok (.dat (G i)) S) (hl : n ≤ 1000000) : evE C (.lc false e t it .nil own sc p) ρ S = .ok (.dat (.lst ((List.range n).map G))) S := by
  subst hn
  show M.bind (evII C it ρ) (fun q => M.bind (lcLoop q.2 (lcTurn t q.2 (fun ρ' => evTs C .nil ρ') (fun ρ' => M.bind (evE C e ρ') fun r => M.pure [r]) (wipeE ρ (own.map (·.2)))) q.1) (lcOut false)) S = _
  rw [bind_at hi, bind_at (loop_ix (G := fun i => .dat (G i)) hg fun i x hm => by
    obtain ⟨ρ', h1, h2⟩ := hx i x hm
    exact ⟨ρ', h1, rfl, by rw [bind_at h2]; rfl⟩)]
  have e1 : ((List.range xs.length).map fun i => R.dat (G i)) = ((List.range xs.length).map G).map R.dat := by
    rw [List.map_map]
    rfl
  rw [e1]
  unfold lcOut
  rw [if_pos (show small (((List.range xs.length).map G).map R.dat).length = true by rw [List.length_map, List.length_map, List.length_range]; exact decide_eq_true hl)]
  unfold mkL
  rw [datsR_map]
/-- over a list of data, by places -/
theorem lc_at {C : Calls} {e : IE} {i : Nat} {x : Str} {px : Pos} {it : II} {own : List (Str × Nat)} {sc : Scope} {p : Pos} {ρ : Env} {S : Store} {l : List D} {G : Nat → D} {n : Nat} (hi : evII C it ρ S = .ok ((l.map R.dat).map .one, []) S) (hn : l.length = n)
    (hx : ∀ (k : Nat) d, l[k]? = some d → evE C e ((wipeE ρ (own.map (·.2))).set i (some (.dat d))) S = .ok (.dat (G k)) S) (hl : n ≤ 1000000) : evE C (.lc false e (.one i x px) it .nil own sc p) ρ S = .ok (.dat (.lst ((List.range n).map G))) S :=
  lc_ix hi gd_nil (by rw [List.length_map, List.length_map]; exact hn) (fun k y hy => by
    rw [List.getElem?_map, List.getElem?_map] at hy
    cases e1 : l[k]? with
    | none => rw [e1] at hy; cases hy
    | some d =>
      rw [e1] at hy
      cases hy
      exact ⟨_, rfl, hx k d e1⟩) hl
theorem toD_lst {m f k : Nat} {S : Store} {rs : List R} (hk : S[k]? = some (.lst rs)) (h : m ≤ k) : toD m S (f + 1) (.own k) = (allD (toD m S f) rs).map D.lst := by
  show (if k < m then none else match S[k]? with
    | some (.lst rs) => (allD (toD m S f) rs).map D.lst
    | some (.tup rs) => (allD (toD m S f) rs).map D.tup
    | some (.obj c ns rs) => (allD (toD m S f) rs).map (D.obj c ns)
    | none => none) = _
  rw [if_neg (Nat.not_lt.mpr h), hk]
end MP
set_option Elab.async false
set_option linter.all false
set_option maxRecDepth 100000
set_option maxHeartbeats 1000000
/-! MPWish: a walk through statements, told of a wish about the end. -/
namespace MP
open PySem PySem.Spec PyProof.Rows L2
/-- one block behind the other -/
def ISs.app : ISs → ISs → ISs
  | .nil, r => r
  | .cons s a, r => .cons s (a.app r)
theorem ss_app {C : CallsX} : ∀ (a r : ISs) (ρ : Env) (S : Store), evSs C (a.app r) ρ S = match evSs C a ρ S with
    | .go .next ρ1 S1 => evSs C r ρ1 S1
    | x => x
  | .nil, r, ρ, S => rfl
  | .cons s a, r, ρ, S => by
    show (match evS C s ρ S with
      | .go .next ρ1 S1 => evSs C (a.app r) ρ1 S1
      | x => x) = _
    show _ = match (match evS C s ρ S with
      | .go .next ρ1 S1 => evSs C a ρ1 S1
      | x => x) with
      | .go .next ρ1 S1 => evSs C r ρ1 S1
      | x => x
    cases evS C s ρ S with
    | stuck => rfl
    | exc c ns l ρ1 S1 => rfl
    | go f ρ1 S1 =>
      cases f with
      | next => exact ss_app a r ρ1 S1
      | brk => rfl
      | cont => rfl
      | ret v => rfl
/-- a turn of a loop: it goes on (Q), or it ends (P) -/
def Turn (Q : Env → Store → Prop) (P : SRes → Prop) : SRes → Prop
  | .go .next ρ S => Q ρ S
  | .go .cont ρ S => Q ρ S
  | .go .brk _ _ => False
  | .go (.ret v) ρ S => P (.go (.ret v) ρ S)
  | .exc c ns l ρ S => P (.exc c ns l ρ S)
  | .stuck => False
/-- a block's end: it goes on (Q), or it ends (P) -/
def Thru (Q : Env → Store → Prop) (P : SRes → Prop) : SRes → Prop
  | .go .next ρ S => Q ρ S
  | r => P r
section
variable {C : CallsX} {ρ ρ1 : Env} {S S1 : Store} {P : SRes → Prop} {r : ISs} {p : Pos}
theorem w_if {c : IE} {a b : ISs} (t : Bool) (h : evE C.toCalls c ρ S = .ok (.dat (.bl t)) S1) (k1 : t = true → P (evSs C (a.app r) ρ S1)) (k0 : t = false → P (evSs C (b.app r) ρ S1)) : P (evSs C (.cons (.ite c a b p) r) ρ S) := by
  refine p_if h ?_
  cases t with
  | true => have := k1 rfl; rw [ss_app] at this; exact this
  | false => have := k0 rfl; rw [ss_app] at this; exact this
theorem w_ifF {c : IE} {a b : ISs} (h : evE C.toCalls c ρ S = .ok (.dat (.bl false)) S1) (k : P (evSs C (b.app r) ρ S1)) : P (evSs C (.cons (.ite c a b p) r) ρ S) := w_if false h (fun e => nomatch e) fun _ => k
theorem w_ifT {c : IE} {a b : ISs} (h : evE C.toCalls c ρ S = .ok (.dat (.bl true)) S1) (k : P (evSs C (a.app r) ρ S1)) : P (evSs C (.cons (.ite c a b p) r) ρ S) := w_if true h (fun _ => k) fun e => nomatch e
/-- both ways go on, to Q (or end, as P says) -/
theorem w_ifN {c : IE} {a b : ISs} (t : Bool) (Q : Env → Store → Prop) (h : evE C.toCalls c ρ S = .ok (.dat (.bl t)) S1) (k1 : t = true → Thru Q P (evSs C a ρ S1)) (k0 : t = false → Thru Q P (evSs C b ρ S1)) (k : ∀ ρ' S', Q ρ' S' → P (evSs C r ρ' S')) : P (evSs C (.cons (.ite c a b p) r) ρ S) := by
  have go : ∀ x : SRes, Thru Q P x → P (match x with
    | .go .next ρ1 S1 => evSs C r ρ1 S1
    | x => x) := fun x hx => by
    cases x with
    | stuck => exact hx
    | exc c ns l ρ2 S2 => exact hx
    | go f ρ2 S2 =>
      cases f with
      | next => exact k _ _ hx
      | brk => exact hx
      | cont => exact hx
      | ret v => exact hx
  refine p_if h ?_
  cases t with
  | true => exact go _ (k1 rfl)
  | false => exact go _ (k0 rfl)
theorem w_ret {e : IE} {v : R} (h : evE C.toCalls e ρ S = .ok v S1) (k : P (.go (.ret v) ρ S1)) : P (evSs C (.cons (.ret e p) r) ρ S) := by
  rw [ss_ret (r_ret h)]
  exact k
theorem w_expr {e : IE} {v : R} (h : evE C.toCalls e ρ S = .ok v S1) (k : P (evSs C r ρ S1)) : P (evSs C (.cons (.expr e p) r) ρ S) := p_next (r_expr h) k
theorem forL_wish {t : IT} {g : Gd} {b : Env → Store → SRes} (Pv : Nat → Env → Store → Prop) : ∀ (xs : List Itm) (k : Nat) (ρ : Env) (S : Store), Pv k ρ S → (∀ i ρ S, Pv i ρ S → gdOk S g = true) →
    (∀ i x ρ S, xs[i]? = some x → Pv (k + i) ρ S → ∃ ρ1, bindT t x ρ S = some ρ1 ∧ Turn (Pv (k + i + 1)) P (b ρ1 S)) → (∃ ρ' S', forL t g b xs ρ S = .go .next ρ' S' ∧ Pv (k + xs.length) ρ' S') ∨ (P (forL t g b xs ρ S) ∧ ∀ ρ' S', forL t g b xs ρ S ≠ .go .next ρ' S')
  | [], k, ρ, S, h0, hg, _ => .inl ⟨ρ, S, by
      show (if gdOk S g = true then _ else _) = _
      rw [if_pos (hg _ _ _ h0)], h0⟩
  | x :: xs, k, ρ, S, h0, hg, hs => by
    obtain ⟨ρ1, h1, h2⟩ := hs 0 x ρ S rfl h0
    unfold forL
    rw [if_pos (hg _ _ _ h0)]
    simp only [h1]
    have ih := fun (ρ2 : Env) (S2 : Store) (h3 : Pv (k + 1) ρ2 S2) => forL_wish Pv xs (k + 1) ρ2 S2 h3 hg fun i y ρ S hy hp => by
      have e : k + 1 + i = k + (i + 1) := by omega
      rw [e] at hp ⊢
      exact hs (i + 1) y ρ S hy hp
    have el : k + (x :: xs).length = k + 1 + xs.length := by rw [List.length_cons]; omega
    rw [el]
    cases hb : b ρ1 S with
    | stuck => rw [hb] at h2; exact h2.elim
    | exc c ns l ρ2 S2 => rw [hb] at h2; exact .inr ⟨h2, fun _ _ z => by cases z⟩
    | go f ρ2 S2 =>
      cases f with
      | next => rw [hb] at h2; exact ih ρ2 S2 h2
      | cont => rw [hb] at h2; exact ih ρ2 S2 h2
      | brk => rw [hb] at h2; exact h2.elim
      | ret v => rw [hb] at h2; exact .inr ⟨h2, fun _ _ z => by cases z⟩
/-- a for: Pv at each turn; a turn may also end the walk -/
theorem w_for {t : IT} {it : II} {b : ISs} {xs : List Itm} {g : Gd} (Pv : Nat → Env → Store → Prop) (hi : evII C.toCalls it ρ S = .ok (xs, g) S1) (h0 : Pv 0 ρ S1) (hg : ∀ i ρ S, Pv i ρ S → gdOk S g = true)
    (hs : ∀ i x ρ S, xs[i]? = some x → Pv i ρ S → ∃ ρ1, bindT t x ρ S = some ρ1 ∧ Turn (Pv (i + 1)) P (evSs C b ρ1 S)) (k : ∀ ρ' S', Pv xs.length ρ' S' → P (evSs C r ρ' S')) : P (evSs C (.cons (.for_ t it b p) r) ρ S) := by
  show P (match evS C (.for_ t it b p) ρ S with
    | .go .next ρ1 S1 => evSs C r ρ1 S1
    | x => x)
  rw [r_for hi]
  rcases forL_wish (P := P) Pv xs 0 ρ S1 h0 hg (fun i x ρ S hx hp => by
    rw [Nat.zero_add] at hp ⊢
    exact hs i x ρ S hx hp) with ⟨ρ', S', h1, h2⟩ | ⟨h1, h2⟩
  · rw [Nat.zero_add] at h2
    rw [h1]
    exact k ρ' S' h2
  · cases hf : forL t g (fun ρ' S' => evSs C b ρ' S') xs ρ S1 with
    | stuck => rw [hf] at h1; exact h1
    | exc c ns l ρ2 S2 => rw [hf] at h1; exact h1
    | go f ρ2 S2 =>
      cases f with
      | next => exact absurd hf (h2 ρ2 S2)
      | cont => rw [hf] at h1; exact h1
      | brk => rw [hf] at h1; exact h1
      | ret v => rw [hf] at h1; exact h1
/-- over a range from 0 -/
theorem w_rng {i : Nat} {x : Str} {px : Pos} {it : II} {b : ISs} {lo : Int} {n : Nat} (Pv : Nat → Env → Store → Prop) (hi : evII C.toCalls it ρ S = .ok (rngI lo n, []) S1) (h0 : Pv 0 ρ S1)
    (hs : ∀ k ρ S, k < n → Pv k ρ S → Turn (Pv (k + 1)) P (evSs C b (ρ.set i (some (.dat (.int (lo + (k : Int)))))) S)) (k : ∀ ρ' S', Pv n ρ' S' → P (evSs C r ρ' S')) : P (evSs C (.cons (.for_ (.one i x px) it b p) r) ρ S) := by
  refine w_for Pv hi h0 (fun _ _ _ _ => gd_nil) (fun k y ρ S hy hp => ?_) (by
    have e : (rngI lo n).length = n := by rw [rng_eq, List.length_map, List.length_range]
    rw [e]
    exact k)
  rw [rng_eq, List.getElem?_map] at hy
  by_cases hk : k < n
  · rw [List.getElem?_range hk] at hy
    cases hy
    exact ⟨_, rfl, hs k ρ S hk hp⟩
  · rw [List.getElem?_eq_none (by rw [List.length_range]; omega)] at hy
    cases hy
/-- over a list that is data -/
theorem w_lst {i : Nat} {x : Str} {px : Pos} {it : II} {b : ISs} {l : List D} (Pv : Nat → Env → Store → Prop) (hi : evII C.toCalls it ρ S = .ok ((l.map R.dat).map .one, []) S1) (h0 : Pv 0 ρ S1)
    (hs : ∀ k d ρ S, l[k]? = some d → Pv k ρ S → Turn (Pv (k + 1)) P (evSs C b (ρ.set i (some (.dat d))) S)) (k : ∀ ρ' S', Pv l.length ρ' S' → P (evSs C r ρ' S')) : P (evSs C (.cons (.for_ (.one i x px) it b p) r) ρ S) := by
  refine w_for Pv hi h0 (fun _ _ _ _ => gd_nil) (fun k y ρ S hy hp => ?_) (by rw [List.length_map, List.length_map]; exact k)
  rw [List.getElem?_map, List.getElem?_map] at hy
  cases e : l[k]? with
  | none => rw [e] at hy; cases hy
  | some d =>
    rw [e] at hy
    cases hy
    exact ⟨_, rfl, hs k d ρ S e hp⟩
end
/-- a call, told of a wish -/
theorem run_q {T : Tab} {n i : Nat} {F : Fn} {rs : List R} {S : Store} (Q : Res R → Prop) (hF : T.fns[i]? = some F) (hl : rs.length = F.np) (hb : Q (sealS S.length (evSs (T.C n) F.body (MP.start F rs) S))) : Q (callN T (n + 1) i rs S) := by
  rw [run_call hF hl rfl rfl]
  exact hb
section
variable {C : Calls} {ρ : Env} {S S1 S2 : Store} {p : Pos}
theorem c_and {a b : IE} {x y : Bool} (ha : evE C a ρ S = .ok (.dat (.bl x)) S) (hb : evE C b ρ S = .ok (.dat (.bl y)) S) : evE C (.and a (.cons b .nil) p) ρ S = .ok (.dat (.bl (x && y))) S := by
  show M.bind (M.bind (evE C a ρ) truB) (fun b' => if b' = true then evE C b ρ else M.pure (R.dat (.bl false))) S = _
  have e : M.bind (evE C a ρ) truB S = .ok x S := by rw [bind_at ha]; rfl
  rw [bind_at e]
  cases x with
  | false => rfl
  | true => exact hb
theorem c_or {a b : IE} {x y : Bool} (ha : evE C a ρ S = .ok (.dat (.bl x)) S) (hb : evE C b ρ S = .ok (.dat (.bl y)) S) : evE C (.or a (.cons b .nil) p) ρ S = .ok (.dat (.bl (x || y))) S := by
  show M.bind (M.bind (evE C a ρ) truB) (fun b' => if b' = true then M.pure (R.dat (.bl true)) else evE C b ρ) S = _
  have e : M.bind (evE C a ρ) truB S = .ok x S := by rw [bind_at ha]; rfl
  rw [bind_at e]
  cases x with
  | true => rfl
  | false => exact hb
theorem c_not {a : IE} {x : Bool} (ha : evE C a ρ S = .ok (.dat (.bl x)) S1) : evE C (.not a p) ρ S = .ok (.dat (.bl (!x))) S1 := by
  show M.bind (M.bind (evE C a ρ) truB) (fun b => M.pure (R.dat (.bl (!b)))) S = _
  have e : M.bind (evE C a ρ) truB S = .ok x S1 := by rw [bind_at ha]; rfl
  rw [bind_at e]
  rfl
theorem c_bin {m : Bool} {op : Bop} {a b : IE} {x y : R} {r : Res R} (ha : evE C a ρ S = .ok x S1) (hb : evE C b ρ S1 = .ok y S2) (h : binR m op x y S2 = r) : evE C (.bin m op a b p) ρ S = r := by
  show M.bind (evE C a ρ) (fun x => M.bind (evE C b ρ) fun y => binR m op x y) S = _
  rw [bind_at ha, bind_at hb, h]
theorem c_cmp {op : Cop} {a b : IE} {x y : R} {r : Res R} (ha : evE C a ρ S = .ok x S1) (hb : evE C b ρ S1 = .ok y S2) (h : cmpR op x y S2 = r) : evE C (.cmp op a b p) ρ S = r := by
  show M.bind (evE C a ρ) (fun x => M.bind (evE C b ρ) fun y => cmpR op x y) S = _
  rw [bind_at ha, bind_at hb, h]
theorem c_ix {a i : IE} {x y : R} {r : Res R} (ha : evE C a ρ S = .ok x S1) (hb : evE C i ρ S1 = .ok y S2) (h : ixR x y S2 = r) : evE C (.ix a i p) ρ S = r := by
  show M.bind (evE C a ρ) (fun x => M.bind (evE C i ρ) fun y => ixR x y) S = _
  rw [bind_at ha, bind_at hb, h]
theorem c_call1 {f : Nat} {x : Str} {a : IE} {p0 : Pos} {v : R} {r : Res R} (ha : evE C a ρ S = .ok v S1) (h : C.fn f [v] S1 = r) : evE C (.call f x a .nil p0 p) ρ S = r := by
  show M.bind (evE C a ρ) (fun x => M.bind (M.pure []) fun xs => C.fn f (x :: xs)) S = _
  rw [bind_at ha]
  exact h
theorem c_call2 {f : Nat} {x : Str} {a b : IE} {p0 : Pos} {v w : R} {r : Res R} (ha : evE C a ρ S = .ok v S1) (hb : evE C b ρ S1 = .ok w S2) (h : C.fn f [v, w] S2 = r) : evE C (.call f x a (.cons b .nil) p0 p) ρ S = r := by
  show M.bind (evE C a ρ) (fun x => M.bind (M.bind (evE C b ρ) fun y => M.bind (M.pure []) fun ys => M.pure (y :: ys)) fun xs => C.fn f (x :: xs)) S = _
  rw [bind_at ha, bind_assoc, bind_at hb]
  exact h
theorem c_call3 {f : Nat} {x : Str} {a b c : IE} {p0 : Pos} {v w u : R} {S3 : Store} {r : Res R} (ha : evE C a ρ S = .ok v S1) (hb : evE C b ρ S1 = .ok w S2) (hc : evE C c ρ S2 = .ok u S3) (h : C.fn f [v, w, u] S3 = r) : evE C (.call f x a (.cons b (.cons c .nil)) p0 p) ρ S = r := by
  show M.bind (evE C a ρ) (fun x => M.bind (M.bind (evE C b ρ) fun y => M.bind (M.bind (evE C c ρ) fun z => M.bind (M.pure []) fun zs => M.pure (z :: zs)) fun ys => M.pure (y :: ys)) fun xs => C.fn f (x :: xs)) S = _
  rw [bind_at ha, bind_assoc, bind_at hb, bind_assoc, bind_assoc, bind_at hc]
  exact h
theorem c_bi1 {m : Bool} {f : Bf} {a : IE} {p0 : Pos} {v : R} {r : Res R} (ha : evE C a ρ S = .ok v S1) (h : biR m f [v] S1 = r) : evE C (.bi m f a .nil p0 p) ρ S = r := by
  show M.bind (evE C a ρ) (fun x => M.bind (M.pure []) fun xs => biR m f (x :: xs)) S = _
  rw [bind_at ha]
  exact h
theorem c_bi2 {m : Bool} {f : Bf} {a b : IE} {p0 : Pos} {v w : R} {r : Res R} (ha : evE C a ρ S = .ok v S1) (hb : evE C b ρ S1 = .ok w S2) (h : biR m f [v, w] S2 = r) : evE C (.bi m f a (.cons b .nil) p0 p) ρ S = r := by
  show M.bind (evE C a ρ) (fun x => M.bind (M.bind (evE C b ρ) fun y => M.bind (M.pure []) fun ys => M.pure (y :: ys)) fun xs => biR m f (x :: xs)) S = _
  rw [bind_at ha, bind_assoc, bind_at hb]
  exact h
end
end MP
set_option Elab.async false
set_option linter.all false
set_option maxRecDepth 1000000
set_option maxHeartbeats 0
/-! K27IR: the law's code as data. -/
namespace K27
open PySem PySem.Spec PyProof.Rows L2 MP
def topS (i : Nat) : Stmt := PySem.Challenge.pw_spreadgap_k27_settling_time.main.body.getD i (.Pass ⟨0, 0, 0, 0⟩)
def methS (s : Stmt) (k : Nat) : Stmt := match s with
  | .ClassDef _ _ _ body _ _ _ _ _ _ _ => body.getD k (.Pass ⟨0, 0, 0, 0⟩)
  | _ => .Pass ⟨0, 0, 0, 0⟩
def e0_0 : IE :=
    .lc false (.bin false .mul (.var 10 "scale" ⟨408, 16, 408, 21⟩) (.var 15 "weight" ⟨408, 24, 408, 30⟩) ⟨408, 16, 408, 30⟩) (.one 15 "weight" ⟨408, 35, 408, 41⟩) (.of (.var 14 "row" ⟨408, 45, 408, 48⟩)) .nil [("weight", 15)] { kind := .function, names := [(".0", .«local»), ("weight", .«local»), ("scale", .free)], isGenerator := false, isCoroutine := false, more := [] } ⟨408, 15, 408, 49⟩
def e0_1 : IE :=
    .lc false e0_0 (.one 14 "row" ⟨408, 54, 408, 57⟩) (.of (.var 3 "rows" ⟨408, 61, 408, 65⟩)) .nil [("row", 14)] { kind := .function, names := [(".0", .«local»), ("row", .«local»), ("scale", .free)], isGenerator := false, isCoroutine := false, more := [] } ⟨408, 14, 408, 66⟩
def e0_2 : IE :=
    .lc false (.bin false .add (.var 15 "weight" ⟨393, 21, 393, 27⟩) (.int (1) 0 ⟨393, 30, 393, 31⟩) ⟨393, 21, 393, 31⟩) (.one 15 "weight" ⟨393, 36, 393, 42⟩) (.of (.var 14 "row" ⟨393, 46, 393, 49⟩)) .nil [("weight", 15)] { kind := .function, names := [(".0", .«local»), ("weight", .«local»)], isGenerator := false, isCoroutine := false, more := [] } ⟨393, 20, 393, 50⟩
def e0_3 : IE :=
    .lc false e0_2 (.one 14 "row" ⟨393, 55, 393, 58⟩) (.of (.var 3 "rows" ⟨393, 62, 393, 66⟩)) .nil [("row", 14)] { kind := .function, names := [(".0", .«local»), ("row", .«local»)], isGenerator := false, isCoroutine := false, more := [] } ⟨393, 19, 393, 67⟩
def e0_4 : IE :=
    .lc true (.bi false .abs (.bi false .int (.var 16 "cell" ⟨386, 20, 386, 24⟩) .nil ⟨386, 16, 386, 19⟩ ⟨386, 16, 386, 25⟩) .nil ⟨386, 12, 386, 15⟩ ⟨386, 12, 386, 26⟩) (.one 16 "cell" ⟨386, 31, 386, 35⟩) (.of (.sl false (.var 0 "script" ⟨386, 39, 386, 45⟩) .nil (.cons (.int (63) 0 ⟨386, 47, 386, 49⟩) .nil) ⟨386, 46, 386, 49⟩ ⟨386, 39, 386, 50⟩)) .nil [("cell", 16)] { kind := .function, names := [(".0", .«local»), ("cell", .«local»), ("abs", .globalImplicit), ("int", .globalImplicit)], isGenerator := false, isCoroutine := false, more := [] } ⟨386, 11, 386, 51⟩
/-- law -/
def ir0 : ISs :=
    (.cons (.asg (.one 1 "pool" ⟨386, 4, 386, 8⟩) e0_4 ⟨386, 4, 386, 51⟩)
    (.cons (.asg (.one 2 "mode" ⟨387, 4, 387, 8⟩) (.call 2 "_law_draw" (.var 1 "pool" ⟨387, 21, 387, 25⟩) (.cons (.int (32) 0 ⟨387, 27, 387, 29⟩) .nil) ⟨387, 11, 387, 20⟩ ⟨387, 11, 387, 30⟩) ⟨387, 4, 387, 30⟩)
    (.cons (.asg (.one 3 "rows" ⟨388, 4, 388, 8⟩) (.call 9 "_law_plain" (.var 1 "pool" ⟨388, 22, 388, 26⟩) (.cons (.var 2 "mode" ⟨388, 28, 388, 32⟩) .nil) ⟨388, 11, 388, 21⟩ ⟨388, 11, 388, 33⟩) ⟨388, 4, 388, 33⟩)
    (.cons (.asg (.one 4 "worst" ⟨389, 4, 389, 9⟩) (.call 8 "_law_worst" (.var 3 "rows" ⟨389, 23, 389, 27⟩) .nil ⟨389, 12, 389, 22⟩ ⟨389, 12, 389, 28⟩) ⟨389, 4, 389, 28⟩)
    (.cons (.asg (.one 5 "due" ⟨390, 4, 390, 7⟩) (.call 5 "_law_due" (.var 4 "worst" ⟨390, 19, 390, 24⟩) (.cons (.bin false .pow (.int (10) 0 ⟨390, 26, 390, 28⟩) (.int (6) 0 ⟨390, 32, 390, 33⟩) ⟨390, 26, 390, 33⟩) .nil) ⟨390, 10, 390, 18⟩ ⟨390, 10, 390, 34⟩) ⟨390, 4, 390, 34⟩)
    (.cons (.ite (.and (.cmp .gt (.bi false .len (.var 3 "rows" ⟨391, 11, 391, 15⟩) .nil ⟨391, 7, 391, 10⟩ ⟨391, 7, 391, 16⟩) (.int (2) 0 ⟨391, 19, 391, 20⟩) ⟨391, 7, 391, 20⟩) (.cons (.or (.cmp .lt (.var 2 "mode" ⟨391, 26, 391, 30⟩) (.int (1) 0 ⟨391, 33, 391, 34⟩) ⟨391, 26, 391, 34⟩) (.cons (.cmp .gt (.var 2 "mode" ⟨391, 38, 391, 42⟩) (.int (4) 0 ⟨391, 45, 391, 46⟩) ⟨391, 38, 391, 46⟩) .nil) ⟨391, 26, 391, 46⟩) .nil) ⟨391, 7, 391, 47⟩) (.cons (.ite (.or (.isN false (.var 5 "due" ⟨392, 11, 392, 14⟩) 0 ⟨392, 18, 392, 22⟩ ⟨392, 11, 392, 22⟩) (.cons (.cmp .gt (.var 5 "due" ⟨392, 26, 392, 29⟩) (.int (24) 0 ⟨392, 32, 392, 34⟩) ⟨392, 26, 392, 34⟩) .nil) ⟨392, 11, 392, 34⟩) (.cons (.asg (.one 3 "rows" ⟨393, 12, 393, 16⟩) e0_3 ⟨393, 12, 393, 67⟩)
    (.cons (.asg (.one 4 "worst" ⟨394, 12, 394, 17⟩) (.call 8 "_law_worst" (.var 3 "rows" ⟨394, 31, 394, 35⟩) .nil ⟨394, 20, 394, 30⟩ ⟨394, 20, 394, 36⟩) ⟨394, 12, 394, 36⟩)
    .nil)) .nil ⟨392, 8, 394, 36⟩)
    .nil) .nil ⟨391, 4, 394, 36⟩)
    (.cons (.asg (.one 6 "kind" ⟨395, 4, 395, 8⟩) (.call 2 "_law_draw" (.var 1 "pool" ⟨395, 21, 395, 25⟩) (.cons (.int (4) 0 ⟨395, 27, 395, 28⟩) .nil) ⟨395, 11, 395, 20⟩ ⟨395, 11, 395, 29⟩) ⟨395, 4, 395, 29⟩)
    (.cons (.asg (.one 7 "grain" ⟨396, 4, 396, 9⟩) (.bin false .add (.int (1) 0 ⟨396, 12, 396, 13⟩) (.bin false .mod (.bi false .int (.bin false .add (.call 2 "_law_draw" (.var 1 "pool" ⟨396, 30, 396, 34⟩) (.cons (.bin false .pow (.int (10) 0 ⟨396, 36, 396, 38⟩) (.int (6) 0 ⟨396, 42, 396, 43⟩) ⟨396, 36, 396, 43⟩) .nil) ⟨396, 20, 396, 29⟩ ⟨396, 20, 396, 44⟩) (.int (99) 0 ⟨396, 47, 396, 49⟩) ⟨396, 20, 396, 49⟩) .nil ⟨396, 16, 396, 19⟩ ⟨396, 16, 396, 50⟩) (.bin false .pow (.int (10) 0 ⟨396, 53, 396, 55⟩) (.int (6) 0 ⟨396, 59, 396, 60⟩) ⟨396, 53, 396, 60⟩) ⟨396, 16, 396, 60⟩) ⟨396, 12, 396, 60⟩) ⟨396, 4, 396, 60⟩)
    (.cons (.asg (.one 8 "stage" ⟨397, 4, 397, 9⟩) (.call 2 "_law_draw" (.var 1 "pool" ⟨397, 22, 397, 26⟩) (.cons (.int (9) 0 ⟨397, 28, 397, 29⟩) .nil) ⟨397, 12, 397, 21⟩ ⟨397, 12, 397, 30⟩) ⟨397, 4, 397, 30⟩)
    (.cons (.asg (.one 9 "more" ⟨398, 4, 398, 8⟩) (.call 2 "_law_draw" (.var 1 "pool" ⟨398, 21, 398, 25⟩) (.cons (.int (2) 0 ⟨398, 27, 398, 28⟩) .nil) ⟨398, 11, 398, 20⟩ ⟨398, 11, 398, 29⟩) ⟨398, 4, 398, 29⟩)
    (.cons (.ite (.cmp .eq (.var 6 "kind" ⟨399, 7, 399, 11⟩) (.int (1) 0 ⟨399, 15, 399, 16⟩) ⟨399, 7, 399, 16⟩) (.cons (.asg (.one 7 "grain" ⟨400, 8, 400, 13⟩) (.ix (.lst false (.cons (.int (1) 0 ⟨400, 17, 400, 18⟩) (.cons (.bin false .pow (.int (10) 0 ⟨400, 20, 400, 22⟩) (.int (6) 0 ⟨400, 26, 400, 27⟩) ⟨400, 20, 400, 27⟩) .nil)) ⟨400, 16, 400, 28⟩) (.var 9 "more" ⟨400, 29, 400, 33⟩) ⟨400, 16, 400, 34⟩) ⟨400, 8, 400, 34⟩)
    .nil) .nil ⟨399, 4, 400, 34⟩)
    (.cons (.ite (.cmp .eq (.var 6 "kind" ⟨401, 7, 401, 11⟩) (.int (2) 0 ⟨401, 15, 401, 16⟩) ⟨401, 7, 401, 16⟩) (.cons (.asg (.one 7 "grain" ⟨402, 8, 402, 13⟩) (.call 7 "_law_edge" (.var 4 "worst" ⟨402, 26, 402, 31⟩) (.cons (.var 8 "stage" ⟨402, 33, 402, 38⟩) (.cons (.var 9 "more" ⟨402, 40, 402, 44⟩) .nil)) ⟨402, 16, 402, 25⟩ ⟨402, 16, 402, 45⟩) ⟨402, 8, 402, 45⟩)
    .nil) .nil ⟨401, 4, 402, 45⟩)
    (.cons (.ite (.cmp .eq (.var 2 "mode" ⟨403, 7, 403, 11⟩) (.int (1) 0 ⟨403, 15, 403, 16⟩) ⟨403, 7, 403, 16⟩) (.cons (.asg (.one 7 "grain" ⟨404, 8, 404, 13⟩) (.call 7 "_law_edge" (.var 4 "worst" ⟨404, 26, 404, 31⟩) (.cons (.bin false .sub (.int (60) 0 ⟨404, 33, 404, 35⟩) (.var 9 "more" ⟨404, 38, 404, 42⟩) ⟨404, 33, 404, 42⟩) (.cons (.call 2 "_law_draw" (.var 1 "pool" ⟨404, 54, 404, 58⟩) (.cons (.int (2) 0 ⟨404, 60, 404, 61⟩) .nil) ⟨404, 44, 404, 53⟩ ⟨404, 44, 404, 62⟩) .nil)) ⟨404, 16, 404, 25⟩ ⟨404, 16, 404, 63⟩) ⟨404, 8, 404, 63⟩)
    .nil) .nil ⟨403, 4, 404, 63⟩)
    (.cons (.asg (.one 10 "scale" ⟨405, 4, 405, 9⟩) (.int (1) 0 ⟨405, 12, 405, 13⟩) ⟨405, 4, 405, 13⟩)
    (.cons (.ite (.cmp .eq (.call 2 "_law_draw" (.var 1 "pool" ⟨406, 17, 406, 21⟩) (.cons (.int (8) 0 ⟨406, 23, 406, 24⟩) .nil) ⟨406, 7, 406, 16⟩ ⟨406, 7, 406, 25⟩) (.int (1) 0 ⟨406, 29, 406, 30⟩) ⟨406, 7, 406, 30⟩) (.cons (.asg (.one 10 "scale" ⟨407, 8, 407, 13⟩) (.bin false .add (.bin false .pow (.int (10) 0 ⟨407, 16, 407, 18⟩) (.int (28) 0 ⟨407, 22, 407, 24⟩) ⟨407, 16, 407, 24⟩) (.call 2 "_law_draw" (.var 1 "pool" ⟨407, 37, 407, 41⟩) (.cons (.bin false .pow (.int (10) 0 ⟨407, 43, 407, 45⟩) (.int (28) 0 ⟨407, 49, 407, 51⟩) ⟨407, 43, 407, 51⟩) .nil) ⟨407, 27, 407, 36⟩ ⟨407, 27, 407, 52⟩) ⟨407, 16, 407, 52⟩) ⟨407, 8, 407, 52⟩)
    .nil) .nil ⟨406, 4, 407, 52⟩)
    (.cons (.asg (.one 11 "net" ⟨408, 4, 408, 7⟩) (.make false 6 "Web" e0_1 .nil ⟨408, 10, 408, 13⟩ ⟨408, 10, 408, 67⟩) ⟨408, 4, 408, 67⟩)
    (.cons (.asg (.one 12 "flat" ⟨409, 4, 409, 8⟩) (.make false 6 "Web" (.lst false (.cons (.lst false (.cons (.int (1) 0 ⟨409, 17, 409, 18⟩) (.cons (.int (1) 0 ⟨409, 20, 409, 21⟩) .nil)) ⟨409, 16, 409, 22⟩) (.cons (.lst false (.cons (.int (1) 0 ⟨409, 25, 409, 26⟩) (.cons (.int (1) 0 ⟨409, 28, 409, 29⟩) .nil)) ⟨409, 24, 409, 30⟩) .nil)) ⟨409, 15, 409, 31⟩) .nil ⟨409, 11, 409, 14⟩ ⟨409, 11, 409, 32⟩) ⟨409, 4, 409, 32⟩)
    (.cons (.asg (.one 5 "due" ⟨410, 4, 410, 7⟩) (.call 5 "_law_due" (.var 4 "worst" ⟨410, 19, 410, 24⟩) (.cons (.var 7 "grain" ⟨410, 26, 410, 31⟩) .nil) ⟨410, 10, 410, 18⟩ ⟨410, 10, 410, 32⟩) ⟨410, 4, 410, 32⟩)
    (.cons (.ite (.not (.call 3 "_law_number" (.call 4 "settles" (.var 11 "net" ⟨411, 31, 411, 34⟩) (.cons (.var 7 "grain" ⟨411, 36, 411, 41⟩) .nil) ⟨411, 23, 411, 30⟩ ⟨411, 23, 411, 42⟩) (.cons (.var 5 "due" ⟨411, 44, 411, 47⟩) .nil) ⟨411, 11, 411, 22⟩ ⟨411, 11, 411, 48⟩) ⟨411, 7, 411, 48⟩) (.cons (.ret (.bl false 0 ⟨412, 15, 412, 20⟩) ⟨412, 8, 412, 20⟩)
    .nil) .nil ⟨411, 4, 412, 20⟩)
    (.cons (.ite (.not (.call 3 "_law_number" (.callK 4 "settles" (.var 12 "flat" ⟨413, 31, 413, 35⟩) .nil (.cons "grain" (.var 7 "grain" ⟨413, 43, 413, 48⟩) ⟨413, 37, 413, 48⟩ .nil) [0, 1] ⟨413, 23, 413, 30⟩ ⟨413, 23, 413, 49⟩) (.cons (.bi false .int (.cmp .gt (.var 7 "grain" ⟨413, 55, 413, 60⟩) (.int (1) 0 ⟨413, 63, 413, 64⟩) ⟨413, 55, 413, 64⟩) .nil ⟨413, 51, 413, 54⟩ ⟨413, 51, 413, 65⟩) .nil) ⟨413, 11, 413, 22⟩ ⟨413, 11, 413, 66⟩) ⟨413, 7, 413, 66⟩) (.cons (.ret (.bl false 0 ⟨414, 15, 414, 20⟩) ⟨414, 8, 414, 20⟩)
    .nil) .nil ⟨413, 4, 414, 20⟩)
    (.cons (.ite (.not (.call 3 "_law_number" (.call 4 "settles" (.var 11 "net" ⟨415, 31, 415, 34⟩) (.cons (.int (1) 0 ⟨415, 36, 415, 37⟩) .nil) ⟨415, 23, 415, 30⟩ ⟨415, 23, 415, 38⟩) (.cons (.call 5 "_law_due" (.var 4 "worst" ⟨415, 49, 415, 54⟩) (.cons (.int (1) 0 ⟨415, 56, 415, 57⟩) .nil) ⟨415, 40, 415, 48⟩ ⟨415, 40, 415, 58⟩) .nil) ⟨415, 11, 415, 22⟩ ⟨415, 11, 415, 59⟩) ⟨415, 7, 415, 59⟩) (.cons (.ret (.bl false 0 ⟨416, 15, 416, 20⟩) ⟨416, 8, 416, 20⟩)
    .nil) .nil ⟨415, 4, 416, 20⟩)
    (.cons (.ite (.not (.call 3 "_law_number" (.callKK 4 "settles" (.cons "grain" (.var 7 "grain" ⟨417, 37, 417, 42⟩) ⟨417, 31, 417, 42⟩ (.cons "web" (.var 11 "net" ⟨417, 48, 417, 51⟩) ⟨417, 44, 417, 51⟩ .nil)) [1, 0] ⟨417, 23, 417, 30⟩ ⟨417, 23, 417, 52⟩) (.cons (.var 5 "due" ⟨417, 54, 417, 57⟩) .nil) ⟨417, 11, 417, 22⟩ ⟨417, 11, 417, 58⟩) ⟨417, 7, 417, 58⟩) (.cons (.ret (.bl false 0 ⟨418, 15, 418, 20⟩) ⟨418, 8, 418, 20⟩)
    .nil) .nil ⟨417, 4, 418, 20⟩)
    (.cons (.asg (.one 13 "bad" ⟨419, 4, 419, 7⟩) (.ix (.lst false (.cons (.int (0) 0 ⟨419, 11, 419, 12⟩) (.cons (.bin false .add (.bin false .pow (.int (10) 0 ⟨419, 14, 419, 16⟩) (.int (6) 0 ⟨419, 20, 419, 21⟩) ⟨419, 14, 419, 21⟩) (.int (1) 0 ⟨419, 24, 419, 25⟩) ⟨419, 14, 419, 25⟩) (.cons (.neg (.int (1) 0 ⟨419, 28, 419, 29⟩) ⟨419, 27, 419, 29⟩) (.cons (.bin false .sub (.bin false .pow (.bin false .pow (.int (10) 0 ⟨419, 32, 419, 34⟩) (.int (50) 0 ⟨419, 38, 419, 40⟩) ⟨419, 32, 419, 40⟩) (.int (8) 0 ⟨419, 45, 419, 46⟩) ⟨419, 31, 419, 46⟩) (.int (1) 0 ⟨419, 49, 419, 50⟩) ⟨419, 31, 419, 50⟩) .nil)))) ⟨419, 10, 419, 51⟩) (.call 2 "_law_draw" (.var 1 "pool" ⟨419, 62, 419, 66⟩) (.cons (.int (4) 0 ⟨419, 68, 419, 69⟩) .nil) ⟨419, 52, 419, 61⟩ ⟨419, 52, 419, 70⟩) ⟨419, 10, 419, 71⟩) ⟨419, 4, 419, 71⟩)
    (.cons (.ite (.or (.not (.call 1 "_law_range" (.var 11 "net" ⟨420, 22, 420, 25⟩) (.cons (.var 13 "bad" ⟨420, 27, 420, 30⟩) .nil) ⟨420, 11, 420, 21⟩ ⟨420, 11, 420, 31⟩) ⟨420, 7, 420, 31⟩) (.cons (.not (.call 1 "_law_range" (.var 12 "flat" ⟨420, 50, 420, 54⟩) (.cons (.var 13 "bad" ⟨420, 56, 420, 59⟩) .nil) ⟨420, 39, 420, 49⟩ ⟨420, 39, 420, 60⟩) ⟨420, 35, 420, 60⟩) .nil) ⟨420, 7, 420, 60⟩) (.cons (.ret (.bl false 0 ⟨421, 15, 421, 20⟩) ⟨421, 8, 421, 20⟩)
    .nil) .nil ⟨420, 4, 421, 20⟩)
    (.cons (.ret (.cmp .eq (.attr (.var 11 "net" ⟨422, 11, 422, 14⟩) "Web" "size" ⟨422, 11, 422, 19⟩) (.bi false .len (.var 3 "rows" ⟨422, 27, 422, 31⟩) .nil ⟨422, 23, 422, 26⟩ ⟨422, 23, 422, 32⟩) ⟨422, 11, 422, 32⟩) ⟨422, 4, 422, 32⟩)
    .nil)))))))))))))))))))))))))
def f0 : Fn := ⟨"law", 1, ["script", "pool", "mode", "rows", "worst", "due", "kind", "grain", "stage", "more", "scale", "net", "flat", "bad", "row", "weight", "cell"], defScope (topS 57), ir0⟩
theorem irOk0 : ir0.ss = defBody (topS 57) := by rfl
/-- _law_range -/
def ir1 : ISs :=
    (.cons (.try1 (.cons (.expr (.call 4 "settles" (.var 0 "net" ⟨360, 16, 360, 19⟩) (.cons (.var 1 "grain" ⟨360, 21, 360, 26⟩) .nil) ⟨360, 8, 360, 15⟩ ⟨360, 8, 360, 27⟩) ⟨360, 8, 360, 27⟩)
    .nil) "OutOfRange" 2 "e" (.cons (.ite (.or (.xIs 2 "e" "BadPlace" ⟨362, 22, 362, 23⟩ ⟨362, 25, 362, 33⟩ ⟨362, 11, 362, 21⟩ ⟨362, 11, 362, 34⟩) (.cons (.not (.xIs 2 "e" "GapError" ⟨362, 53, 362, 54⟩ ⟨362, 56, 362, 64⟩ ⟨362, 42, 362, 52⟩ ⟨362, 42, 362, 65⟩) ⟨362, 38, 362, 65⟩) .nil) ⟨362, 11, 362, 65⟩) (.cons (.ret (.bl false 0 ⟨363, 19, 363, 24⟩) ⟨363, 12, 363, 24⟩)
    .nil) .nil ⟨362, 8, 363, 24⟩)
    (.cons (.ret (.and (.call 10 "_law_whole" (.xAt 2 "e" "value" ⟨364, 26, 364, 27⟩ ⟨364, 26, 364, 33⟩) .nil ⟨364, 15, 364, 25⟩ ⟨364, 15, 364, 34⟩) (.cons (.cmp .eq (.xAt 2 "e" "value" ⟨364, 39, 364, 40⟩ ⟨364, 39, 364, 46⟩) (.var 1 "grain" ⟨364, 50, 364, 55⟩) ⟨364, 39, 364, 55⟩) .nil) ⟨364, 15, 364, 55⟩) ⟨364, 8, 364, 55⟩)
    .nil)) ⟨361, 11, 361, 21⟩ ⟨361, 4, 364, 55⟩ (.cons "GapError" (.cons (.ret (.bl false 0 ⟨366, 15, 366, 20⟩) ⟨366, 8, 366, 20⟩)
    .nil) ⟨365, 11, 365, 19⟩ ⟨365, 4, 366, 20⟩ .nil) ⟨359, 4, 366, 20⟩)
    (.cons (.ret (.bl false 0 ⟨367, 11, 367, 16⟩) ⟨367, 4, 367, 16⟩)
    .nil))
def f1 : Fn := ⟨"_law_range", 2, ["net", "grain", "e"], defScope (topS 55), ir1⟩
theorem irOk1 : ir1.ss = defBody (topS 55) := by rfl
/-- _law_draw -/
def ir2 : ISs :=
    (.cons (.ite (.cmp .eq (.var 0 "pool" ⟨266, 7, 266, 11⟩) (.lst false .nil ⟨266, 15, 266, 17⟩) ⟨266, 7, 266, 17⟩) (.cons (.ret (.int (0) 0 ⟨267, 15, 267, 16⟩) ⟨267, 8, 267, 16⟩)
    .nil) .nil ⟨266, 4, 267, 16⟩)
    (.cons (.asg (.one 2 "told" ⟨268, 4, 268, 8⟩) (.bin false .mod (.bi false .int (.ix (.var 0 "pool" ⟨268, 15, 268, 19⟩) (.int (0) 0 ⟨268, 20, 268, 21⟩) ⟨268, 15, 268, 22⟩) .nil ⟨268, 11, 268, 14⟩ ⟨268, 11, 268, 23⟩) (.var 1 "many" ⟨268, 26, 268, 30⟩) ⟨268, 11, 268, 30⟩) ⟨268, 4, 268, 30⟩)
    (.cons (.asg (.one 3 "rest" ⟨269, 4, 269, 8⟩) (.bin false .fdiv (.bi false .int (.ix (.var 0 "pool" ⟨269, 15, 269, 19⟩) (.int (0) 0 ⟨269, 20, 269, 21⟩) ⟨269, 15, 269, 22⟩) .nil ⟨269, 11, 269, 14⟩ ⟨269, 11, 269, 23⟩) (.var 1 "many" ⟨269, 27, 269, 31⟩) ⟨269, 11, 269, 31⟩) ⟨269, 4, 269, 31⟩)
    (.cons (.ite (.cmp .eq (.var 3 "rest" ⟨270, 7, 270, 11⟩) (.int (0) 0 ⟨270, 15, 270, 16⟩) ⟨270, 7, 270, 16⟩) (.cons (.expr (.lmeth (.var 0 "pool" ⟨271, 8, 271, 12⟩) .pop (.cons (.int (0) 0 ⟨271, 17, 271, 18⟩) .nil) ⟨271, 8, 271, 16⟩ ⟨271, 8, 271, 19⟩) ⟨271, 8, 271, 19⟩)
    .nil) (.cons (.setIx (.var 0 "pool" ⟨273, 8, 273, 12⟩) (.int (0) 0 ⟨273, 13, 273, 14⟩) (.var 3 "rest" ⟨273, 18, 273, 22⟩) ⟨273, 8, 273, 15⟩ ⟨273, 8, 273, 22⟩)
    .nil) ⟨270, 4, 273, 22⟩)
    (.cons (.ret (.var 2 "told" ⟨274, 11, 274, 15⟩) ⟨274, 4, 274, 15⟩)
    .nil)))))
def f2 : Fn := ⟨"_law_draw", 2, ["pool", "many", "told", "rest"], defScope (topS 43), ir2⟩
theorem irOk2 : ir2.ss = defBody (topS 43) := by rfl
/-- _law_number -/
def ir3 : ISs :=
    (.cons (.ite (.isN false (.var 1 "due" ⟨278, 7, 278, 10⟩) 0 ⟨278, 14, 278, 18⟩ ⟨278, 7, 278, 18⟩) (.cons (.ret (.isN false (.var 0 "told" ⟨279, 15, 279, 19⟩) 0 ⟨279, 23, 279, 27⟩ ⟨279, 15, 279, 27⟩) ⟨279, 8, 279, 27⟩)
    .nil) .nil ⟨278, 4, 279, 27⟩)
    (.cons (.ret (.and (.call 10 "_law_whole" (.var 0 "told" ⟨280, 22, 280, 26⟩) .nil ⟨280, 11, 280, 21⟩ ⟨280, 11, 280, 27⟩) (.cons (.cmp .eq (.var 0 "told" ⟨280, 32, 280, 36⟩) (.var 1 "due" ⟨280, 40, 280, 43⟩) ⟨280, 32, 280, 43⟩) .nil) ⟨280, 11, 280, 43⟩) ⟨280, 4, 280, 43⟩)
    .nil))
def f3 : Fn := ⟨"_law_number", 2, ["told", "due"], defScope (topS 45), ir3⟩
theorem irOk3 : ir3.ss = defBody (topS 45) := by rfl
def e4_0 : IE :=
    .lc false (.call 11 "dealt" (.var 3 "rows" ⟨261, 21, 261, 25⟩) (.cons (.var 7 "numbers" ⟨261, 27, 261, 34⟩) .nil) ⟨261, 15, 261, 20⟩ ⟨261, 15, 261, 35⟩) (.one 7 "numbers" ⟨261, 40, 261, 47⟩) (.of (.var 4 "now" ⟨261, 51, 261, 54⟩)) .nil [("numbers", 7)] { kind := .function, names := [(".0", .«local»), ("numbers", .«local»), ("dealt", .globalImplicit), ("rows", .free)], isGenerator := false, isCoroutine := false, more := [] } ⟨261, 14, 261, 55⟩
def e4_1 : IE :=
    .lc false (.call 12 "is_settled" (.var 0 "web" ⟨259, 27, 259, 30⟩) (.cons (.var 7 "numbers" ⟨259, 32, 259, 39⟩) (.cons (.var 5 "scale" ⟨259, 41, 259, 46⟩) (.cons (.var 1 "grain" ⟨259, 48, 259, 53⟩) .nil))) ⟨259, 16, 259, 26⟩ ⟨259, 16, 259, 54⟩) (.one 7 "numbers" ⟨259, 59, 259, 66⟩) (.of (.var 4 "now" ⟨259, 70, 259, 73⟩)) .nil [("numbers", 7)] { kind := .function, names := [(".0", .«local»), ("numbers", .«local»), ("is_settled", .globalImplicit), ("grain", .free), ("scale", .free), ("web", .free)], isGenerator := false, isCoroutine := false, more := [] } ⟨259, 15, 259, 74⟩
def b4_2 : ISs :=
    (.cons (.ite (.bi false .all e4_1 .nil ⟨259, 11, 259, 14⟩ ⟨259, 11, 259, 75⟩) (.cons (.ret (.var 6 "steps" ⟨260, 19, 260, 24⟩) ⟨260, 12, 260, 24⟩)
    .nil) .nil ⟨259, 8, 260, 24⟩)
    (.cons (.asg (.one 4 "now" ⟨261, 8, 261, 11⟩) e4_0 ⟨261, 8, 261, 55⟩)
    (.cons (.asg (.one 5 "scale" ⟨262, 8, 262, 13⟩) (.bin false .mul (.var 5 "scale" ⟨262, 16, 262, 21⟩) (.var 2 "whole" ⟨262, 24, 262, 29⟩) ⟨262, 16, 262, 29⟩) ⟨262, 8, 262, 29⟩)
    .nil)))
def e4_3 : IE :=
    .lc false (.call 13 "begun" (.var 0 "web" ⟨256, 17, 256, 20⟩) (.cons (.var 8 "start" ⟨256, 22, 256, 27⟩) .nil) ⟨256, 11, 256, 16⟩ ⟨256, 11, 256, 28⟩) (.one 8 "start" ⟨256, 33, 256, 38⟩) (.rng1 (.attr (.var 0 "web" ⟨256, 48, 256, 51⟩) "Web" "size" ⟨256, 48, 256, 56⟩) ⟨256, 42, 256, 47⟩ ⟨256, 42, 256, 57⟩) .nil [("start", 8)] { kind := .function, names := [(".0", .«local»), ("start", .«local»), ("begun", .globalImplicit), ("web", .free)], isGenerator := false, isCoroutine := false, more := [] } ⟨256, 10, 256, 58⟩
/-- settles -/
def ir4 : ISs :=
    (.cons (.expr (.call 16 "need_grain" (.var 1 "grain" ⟨253, 15, 253, 20⟩) .nil ⟨253, 4, 253, 14⟩ ⟨253, 4, 253, 21⟩) ⟨253, 4, 253, 21⟩)
    (.cons (.asg (.one 2 "whole" ⟨254, 4, 254, 9⟩) (.call 15 "common_degree" (.var 0 "web" ⟨254, 26, 254, 29⟩) .nil ⟨254, 12, 254, 25⟩ ⟨254, 12, 254, 30⟩) ⟨254, 4, 254, 30⟩)
    (.cons (.asg (.one 3 "rows" ⟨255, 4, 255, 8⟩) (.call 14 "step_numbers" (.var 0 "web" ⟨255, 24, 255, 27⟩) .nil ⟨255, 11, 255, 23⟩ ⟨255, 11, 255, 28⟩) ⟨255, 4, 255, 28⟩)
    (.cons (.asg (.one 4 "now" ⟨256, 4, 256, 7⟩) e4_3 ⟨256, 4, 256, 58⟩)
    (.cons (.asg (.one 5 "scale" ⟨257, 4, 257, 9⟩) (.int (1) 0 ⟨257, 12, 257, 13⟩) ⟨257, 4, 257, 13⟩)
    (.cons (.for_ (.one 6 "steps" ⟨258, 8, 258, 13⟩) (.rng1 (.bin false .add (.gint (60) "MOST_STEPS_shares" ⟨258, 23, 258, 40⟩) (.int (1) 0 ⟨258, 43, 258, 44⟩) ⟨258, 23, 258, 44⟩) ⟨258, 17, 258, 22⟩ ⟨258, 17, 258, 45⟩) b4_2 ⟨258, 4, 262, 29⟩)
    (.cons (.ret (.non 0 ⟨263, 11, 263, 15⟩) ⟨263, 4, 263, 15⟩)
    .nil)))))))
def f4 : Fn := ⟨"settles", 2, ["web", "grain", "whole", "rows", "now", "scale", "steps", "numbers", "start"], defScope (topS 41), ir4⟩
theorem irOk4 : ir4.ss = defBody (topS 41) := by rfl
def b5_0 : ISs :=
    (.cons (.ite (.cmp .le (.bin false .mul (.ix (.ix (.var 0 "worst" ⟨351, 11, 351, 16⟩) (.var 2 "k" ⟨351, 17, 351, 18⟩) ⟨351, 11, 351, 19⟩) (.int (0) 0 ⟨351, 20, 351, 21⟩) ⟨351, 11, 351, 22⟩) (.var 1 "grain" ⟨351, 25, 351, 30⟩) ⟨351, 11, 351, 30⟩) (.ix (.ix (.var 0 "worst" ⟨351, 34, 351, 39⟩) (.var 2 "k" ⟨351, 40, 351, 41⟩) ⟨351, 34, 351, 42⟩) (.int (1) 0 ⟨351, 43, 351, 44⟩) ⟨351, 34, 351, 45⟩) ⟨351, 11, 351, 45⟩) (.cons (.ret (.var 2 "k" ⟨352, 19, 352, 20⟩) ⟨352, 12, 352, 20⟩)
    .nil) .nil ⟨351, 8, 352, 20⟩)
    .nil)
/-- _law_due -/
def ir5 : ISs :=
    (.cons (.for_ (.one 2 "k" ⟨350, 8, 350, 9⟩) (.rng1 (.int (61) 0 ⟨350, 19, 350, 21⟩) ⟨350, 13, 350, 18⟩ ⟨350, 13, 350, 22⟩) b5_0 ⟨350, 4, 352, 20⟩)
    (.cons (.ret (.non 0 ⟨353, 11, 353, 15⟩) ⟨353, 4, 353, 15⟩)
    .nil))
def f5 : Fn := ⟨"_law_due", 2, ["worst", "grain", "k"], defScope (topS 53), ir5⟩
theorem irOk5 : ir5.ss = defBody (topS 53) := by rfl
def e6_0 : IE :=
    .lc2 false (.tup (.cons (.var 2 "i" ⟨153, 29, 153, 30⟩) (.cons (.var 4 "j" ⟨153, 32, 153, 33⟩) (.cons (.var 5 "weight" ⟨153, 35, 153, 41⟩) .nil))) 0 ⟨153, 28, 153, 42⟩) (.many [(2, "i", ⟨153, 47, 153, 48⟩), (3, "row", ⟨153, 50, 153, 53⟩)] 0 ⟨153, 47, 153, 53⟩) (.enum (.var 1 "rows" ⟨153, 67, 153, 71⟩) ⟨153, 57, 153, 66⟩ ⟨153, 57, 153, 72⟩) .nil (.many [(4, "j", ⟨153, 77, 153, 78⟩), (5, "weight", ⟨153, 80, 153, 86⟩)] 0 ⟨153, 77, 153, 86⟩) (.enum (.var 3 "row" ⟨153, 100, 153, 103⟩) ⟨153, 90, 153, 99⟩ ⟨153, 90, 153, 104⟩) (.cons (.and (.cmp .le (.var 2 "i" ⟨153, 108, 153, 109⟩) (.var 4 "j" ⟨153, 113, 153, 114⟩) ⟨153, 108, 153, 114⟩) (.cons (.cmp .gt (.var 5 "weight" ⟨153, 119, 153, 125⟩) (.int (0) 0 ⟨153, 128, 153, 129⟩) ⟨153, 119, 153, 129⟩) .nil) ⟨153, 108, 153, 129⟩) .nil) [("i", 2), ("row", 3), ("j", 4), ("weight", 5)] [4, 5] { kind := .function, names := [(".0", .«local»), ("i", .«local»), ("row", .«local»), ("j", .«local»), ("weight", .«local»), ("enumerate", .globalImplicit)], isGenerator := false, isCoroutine := false, more := [] } ⟨153, 27, 153, 130⟩
def e6_1 : IE :=
    .lc false (.bi false .sum (.var 3 "row" ⟨151, 34, 151, 37⟩) .nil ⟨151, 30, 151, 33⟩ ⟨151, 30, 151, 38⟩) (.one 3 "row" ⟨151, 43, 151, 46⟩) (.of (.var 1 "rows" ⟨151, 50, 151, 54⟩)) .nil [("row", 3)] { kind := .function, names := [(".0", .«local»), ("row", .«local»), ("sum", .globalImplicit)], isGenerator := false, isCoroutine := false, more := [] } ⟨151, 29, 151, 55⟩
def e6_2 : IE :=
    .lc false (.bi false .tuple (.var 3 "row" ⟨149, 33, 149, 36⟩) .nil ⟨149, 27, 149, 32⟩ ⟨149, 27, 149, 37⟩) (.one 3 "row" ⟨149, 42, 149, 45⟩) (.of (.var 1 "rows" ⟨149, 49, 149, 53⟩)) .nil [("row", 3)] { kind := .function, names := [(".0", .«local»), ("row", .«local»), ("tuple", .globalImplicit)], isGenerator := false, isCoroutine := false, more := [] } ⟨149, 26, 149, 54⟩
/-- Web.__init__ -/
def ir6 : ISs :=
    (.cons (.expr (.call 20 "_need_square" (.var 1 "rows" ⟨145, 21, 145, 25⟩) .nil ⟨145, 8, 145, 20⟩ ⟨145, 8, 145, 26⟩) ⟨145, 8, 145, 26⟩)
    (.cons (.expr (.call 19 "_need_weights" (.var 1 "rows" ⟨146, 22, 146, 26⟩) .nil ⟨146, 8, 146, 21⟩ ⟨146, 8, 146, 27⟩) ⟨146, 8, 146, 27⟩)
    (.cons (.expr (.call 18 "_need_symmetric" (.var 1 "rows" ⟨147, 24, 147, 28⟩) .nil ⟨147, 8, 147, 23⟩ ⟨147, 8, 147, 29⟩) ⟨147, 8, 147, 29⟩)
    (.cons (.expr (.call 17 "_need_tied" (.var 1 "rows" ⟨148, 19, 148, 23⟩) .nil ⟨148, 8, 148, 18⟩ ⟨148, 8, 148, 24⟩) ⟨148, 8, 148, 24⟩)
    (.cons (.setAt (.var 0 "self" ⟨149, 8, 149, 12⟩) "Web" "rows" (.bi false .tuple e6_2 .nil ⟨149, 20, 149, 25⟩ ⟨149, 20, 149, 55⟩) ⟨149, 8, 149, 17⟩ ⟨149, 8, 149, 55⟩)
    (.cons (.setAt (.var 0 "self" ⟨150, 8, 150, 12⟩) "Web" "size" (.bi false .len (.var 1 "rows" ⟨150, 24, 150, 28⟩) .nil ⟨150, 20, 150, 23⟩ ⟨150, 20, 150, 29⟩) ⟨150, 8, 150, 17⟩ ⟨150, 8, 150, 29⟩)
    (.cons (.setAt (.var 0 "self" ⟨151, 8, 151, 12⟩) "Web" "degrees" (.bi false .tuple e6_1 .nil ⟨151, 23, 151, 28⟩ ⟨151, 23, 151, 56⟩) ⟨151, 8, 151, 20⟩ ⟨151, 8, 151, 56⟩)
    (.cons (.setAt (.var 0 "self" ⟨152, 8, 152, 12⟩) "Web" "volume" (.bi false .sum (.attr (.var 0 "self" ⟨152, 26, 152, 30⟩) "Web" "degrees" ⟨152, 26, 152, 38⟩) .nil ⟨152, 22, 152, 25⟩ ⟨152, 22, 152, 39⟩) ⟨152, 8, 152, 19⟩ ⟨152, 8, 152, 39⟩)
    (.cons (.setAt (.var 0 "self" ⟨153, 8, 153, 12⟩) "Web" "_ties" (.bi false .tuple e6_0 .nil ⟨153, 21, 153, 26⟩ ⟨153, 21, 153, 131⟩) ⟨153, 8, 153, 18⟩ ⟨153, 8, 153, 131⟩)
    .nil)))))))))
def f6 : Fn := ⟨"__init__", 2, ["self", "rows", "i", "row", "j", "weight"], defScope (methS (topS 28) 0), ir6⟩
theorem irOk6 : ir6.ss = defBody (methS (topS 28) 0) := by rfl
/-- _law_edge -/
def ir7 : ISs :=
    (.cons (.ite (.cmp .le (.ix (.ix (.var 0 "worst" ⟨355, 7, 355, 12⟩) (.var 1 "k" ⟨355, 13, 355, 14⟩) ⟨355, 7, 355, 15⟩) (.int (0) 0 ⟨355, 16, 355, 17⟩) ⟨355, 7, 355, 18⟩) (.int (0) 0 ⟨355, 22, 355, 23⟩) ⟨355, 7, 355, 23⟩) (.cons (.ret (.bin false .pow (.int (10) 0 ⟨356, 15, 356, 17⟩) (.int (6) 0 ⟨356, 21, 356, 22⟩) ⟨356, 15, 356, 22⟩) ⟨356, 8, 356, 22⟩)
    .nil) .nil ⟨355, 4, 356, 22⟩)
    (.cons (.ret (.bi false .min (.bin false .pow (.int (10) 0 ⟨357, 15, 357, 17⟩) (.int (6) 0 ⟨357, 21, 357, 22⟩) ⟨357, 15, 357, 22⟩) (.cons (.bin false .add (.bi false .max (.int (1) 0 ⟨357, 28, 357, 29⟩) (.cons (.bin false .fdiv (.ix (.ix (.var 0 "worst" ⟨357, 31, 357, 36⟩) (.var 1 "k" ⟨357, 37, 357, 38⟩) ⟨357, 31, 357, 39⟩) (.int (1) 0 ⟨357, 40, 357, 41⟩) ⟨357, 31, 357, 42⟩) (.ix (.ix (.var 0 "worst" ⟨357, 46, 357, 51⟩) (.var 1 "k" ⟨357, 52, 357, 53⟩) ⟨357, 46, 357, 54⟩) (.int (0) 0 ⟨357, 55, 357, 56⟩) ⟨357, 46, 357, 57⟩) ⟨357, 31, 357, 57⟩) .nil) ⟨357, 24, 357, 27⟩ ⟨357, 24, 357, 58⟩) (.var 2 "more" ⟨357, 61, 357, 65⟩) ⟨357, 24, 357, 65⟩) .nil) ⟨357, 11, 357, 14⟩ ⟨357, 11, 357, 66⟩) ⟨357, 4, 357, 66⟩)
    .nil))
def f7 : Fn := ⟨"_law_edge", 3, ["worst", "k", "more"], defScope (topS 54), ir7⟩
theorem irOk7 : ir7.ss = defBody (topS 54) := by rfl
def e8_0 : IE :=
    .lc false (.call 21 "_law_spread" (.var 0 "rows" ⟨345, 30, 345, 34⟩) (.cons (.ix (.var 9 "walk" ⟨345, 36, 345, 40⟩) (.var 7 "k" ⟨345, 41, 345, 42⟩) ⟨345, 36, 345, 43⟩) (.cons (.var 3 "parts" ⟨345, 45, 345, 50⟩) .nil)) ⟨345, 18, 345, 29⟩ ⟨345, 18, 345, 51⟩) (.one 9 "walk" ⟨345, 56, 345, 60⟩) (.of (.var 4 "walks" ⟨345, 64, 345, 69⟩)) .nil [("walk", 9)] { kind := .function, names := [(".0", .«local»), ("walk", .«local»), ("_law_spread", .globalImplicit), ("k", .free), ("parts", .free), ("rows", .free)], isGenerator := false, isCoroutine := false, more := [] } ⟨345, 17, 345, 70⟩
def b8_1 : ISs :=
    (.cons (.asg (.one 8 "strays" ⟨345, 8, 345, 14⟩) e8_0 ⟨345, 8, 345, 70⟩)
    (.cons (.expr (.lmeth (.var 5 "told" ⟨346, 8, 346, 12⟩) .append (.cons (.tup (.cons (.bin false .sub (.bi false .max (.var 8 "strays" ⟨346, 25, 346, 31⟩) .nil ⟨346, 21, 346, 24⟩ ⟨346, 21, 346, 32⟩) (.var 6 "under" ⟨346, 35, 346, 40⟩) ⟨346, 21, 346, 40⟩) (.cons (.var 6 "under" ⟨346, 42, 346, 47⟩) .nil)) 0 ⟨346, 20, 346, 48⟩) .nil) ⟨346, 8, 346, 19⟩ ⟨346, 8, 346, 49⟩) ⟨346, 8, 346, 49⟩)
    (.cons (.asg (.one 6 "under" ⟨347, 8, 347, 13⟩) (.bin false .mul (.bin false .mul (.var 6 "under" ⟨347, 16, 347, 21⟩) (.var 2 "grow" ⟨347, 24, 347, 28⟩) ⟨347, 16, 347, 28⟩) (.var 2 "grow" ⟨347, 31, 347, 35⟩) ⟨347, 16, 347, 35⟩) ⟨347, 8, 347, 35⟩)
    .nil)))
def e8_2 : IE :=
    .lc false (.call 22 "_law_dealt" (.var 0 "rows" ⟨341, 24, 341, 28⟩) (.cons (.var 10 "i" ⟨341, 30, 341, 31⟩) (.cons (.int (60) 0 ⟨341, 33, 341, 35⟩) .nil)) ⟨341, 13, 341, 23⟩ ⟨341, 13, 341, 36⟩) (.one 10 "i" ⟨341, 41, 341, 42⟩) (.rng1 (.var 1 "size" ⟨341, 52, 341, 56⟩) ⟨341, 46, 341, 51⟩ ⟨341, 46, 341, 57⟩) .nil [("i", 10)] { kind := .function, names := [(".0", .«local»), ("i", .«local»), ("_law_dealt", .globalImplicit), ("rows", .free)], isGenerator := false, isCoroutine := false, more := [] } ⟨341, 12, 341, 58⟩
def e8_3 : IE :=
    .lc false (.bin false .fdiv (.var 2 "grow" ⟨340, 13, 340, 17⟩) (.bi false .sum (.var 11 "row" ⟨340, 25, 340, 28⟩) .nil ⟨340, 21, 340, 24⟩ ⟨340, 21, 340, 29⟩) ⟨340, 13, 340, 29⟩) (.one 11 "row" ⟨340, 34, 340, 37⟩) (.of (.var 0 "rows" ⟨340, 41, 340, 45⟩)) .nil [("row", 11)] { kind := .function, names := [(".0", .«local»), ("row", .«local»), ("sum", .globalImplicit), ("grow", .free)], isGenerator := false, isCoroutine := false, more := [] } ⟨340, 12, 340, 46⟩
/-- _law_worst -/
def ir8 : ISs :=
    (.cons (.asg (.one 1 "size" ⟨338, 4, 338, 8⟩) (.bi false .len (.var 0 "rows" ⟨338, 15, 338, 19⟩) .nil ⟨338, 11, 338, 14⟩ ⟨338, 11, 338, 20⟩) ⟨338, 4, 338, 20⟩)
    (.cons (.asg (.one 2 "grow" ⟨339, 4, 339, 8⟩) (.call 23 "_law_base" (.var 0 "rows" ⟨339, 21, 339, 25⟩) .nil ⟨339, 11, 339, 20⟩ ⟨339, 11, 339, 26⟩) ⟨339, 4, 339, 26⟩)
    (.cons (.asg (.one 3 "parts" ⟨340, 4, 340, 9⟩) e8_3 ⟨340, 4, 340, 46⟩)
    (.cons (.asg (.one 4 "walks" ⟨341, 4, 341, 9⟩) e8_2 ⟨341, 4, 341, 58⟩)
    (.cons (.asg (.one 5 "told" ⟨342, 4, 342, 8⟩) (.lst true .nil ⟨342, 11, 342, 13⟩) ⟨342, 4, 342, 13⟩)
    (.cons (.asg (.one 6 "under" ⟨343, 4, 343, 9⟩) (.var 2 "grow" ⟨343, 12, 343, 16⟩) ⟨343, 4, 343, 16⟩)
    (.cons (.for_ (.one 7 "k" ⟨344, 8, 344, 9⟩) (.rng1 (.int (61) 0 ⟨344, 19, 344, 21⟩) ⟨344, 13, 344, 18⟩ ⟨344, 13, 344, 22⟩) b8_1 ⟨344, 4, 347, 35⟩)
    (.cons (.ret (.var 5 "told" ⟨348, 11, 348, 15⟩) ⟨348, 4, 348, 15⟩)
    .nil))))))))
def f8 : Fn := ⟨"_law_worst", 1, ["rows", "size", "grow", "parts", "walks", "told", "under", "k", "strays", "walk", "i", "row"], defScope (topS 52), ir8⟩
theorem irOk8 : ir8.ss = defBody (topS 52) := by rfl
def e9_0 : IE :=
    .lc false (.bi false .int (.cmp .ne (.var 6 "k" ⟨383, 21, 383, 22⟩) (.var 7 "m" ⟨383, 26, 383, 27⟩) ⟨383, 21, 383, 27⟩) .nil ⟨383, 17, 383, 20⟩ ⟨383, 17, 383, 28⟩) (.one 7 "m" ⟨383, 33, 383, 34⟩) (.rng1 (.var 2 "size" ⟨383, 44, 383, 48⟩) ⟨383, 38, 383, 43⟩ ⟨383, 38, 383, 49⟩) .nil [("m", 7)] { kind := .function, names := [(".0", .«local»), ("m", .«local»), ("int", .globalImplicit), ("k", .free)], isGenerator := false, isCoroutine := false, more := [] } ⟨383, 16, 383, 50⟩
def e9_1 : IE :=
    .lc false e9_0 (.one 6 "k" ⟨383, 55, 383, 56⟩) (.rng1 (.var 2 "size" ⟨383, 66, 383, 70⟩) ⟨383, 60, 383, 65⟩ ⟨383, 60, 383, 71⟩) .nil [("k", 6)] { kind := .function, names := [(".0", .«local»), ("k", .cell), ("range", .globalImplicit), ("size", .free)], isGenerator := false, isCoroutine := false, more := [] } ⟨383, 15, 383, 72⟩
/-- _law_plain -/
def ir9 : ISs :=
    (.cons (.asg (.one 2 "size" ⟨369, 4, 369, 8⟩) (.bin false .add (.int (1) 0 ⟨369, 11, 369, 12⟩) (.bin false .mod (.bi false .int (.bin false .add (.call 2 "_law_draw" (.var 0 "pool" ⟨369, 29, 369, 33⟩) (.cons (.int (4) 0 ⟨369, 35, 369, 36⟩) .nil) ⟨369, 19, 369, 28⟩ ⟨369, 19, 369, 37⟩) (.int (2) 0 ⟨369, 40, 369, 41⟩) ⟨369, 19, 369, 41⟩) .nil ⟨369, 15, 369, 18⟩ ⟨369, 15, 369, 42⟩) (.int (4) 0 ⟨369, 45, 369, 46⟩) ⟨369, 15, 369, 46⟩) ⟨369, 11, 369, 46⟩) ⟨369, 4, 369, 46⟩)
    (.cons (.asg (.one 3 "top" ⟨370, 4, 370, 7⟩) (.ix (.lst false (.cons (.int (3) 0 ⟨370, 11, 370, 12⟩) (.cons (.int (4) 0 ⟨370, 14, 370, 15⟩) (.cons (.int (2) 0 ⟨370, 17, 370, 18⟩) (.cons (.int (10) 0 ⟨370, 20, 370, 22⟩) .nil)))) ⟨370, 10, 370, 23⟩) (.call 2 "_law_draw" (.var 0 "pool" ⟨370, 34, 370, 38⟩) (.cons (.int (4) 0 ⟨370, 40, 370, 41⟩) .nil) ⟨370, 24, 370, 33⟩ ⟨370, 24, 370, 42⟩) ⟨370, 10, 370, 43⟩) ⟨370, 4, 370, 43⟩)
    (.cons (.ite (.cmp .gt (.var 2 "size" ⟨371, 7, 371, 11⟩) (.int (2) 0 ⟨371, 14, 371, 15⟩) ⟨371, 7, 371, 15⟩) (.cons (.asg (.one 3 "top" ⟨372, 8, 372, 11⟩) (.bi false .min (.var 3 "top" ⟨372, 18, 372, 21⟩) (.cons (.int (4) 0 ⟨372, 23, 372, 24⟩) .nil) ⟨372, 14, 372, 17⟩ ⟨372, 14, 372, 25⟩) ⟨372, 8, 372, 25⟩)
    .nil) .nil ⟨371, 4, 372, 25⟩)
    (.cons (.asg (.one 4 "rows" ⟨373, 4, 373, 8⟩) (.call 24 "_law_drawn" (.var 0 "pool" ⟨373, 22, 373, 26⟩) (.cons (.var 2 "size" ⟨373, 28, 373, 32⟩) (.cons (.var 3 "top" ⟨373, 34, 373, 37⟩) .nil)) ⟨373, 11, 373, 21⟩ ⟨373, 11, 373, 38⟩) ⟨373, 4, 373, 38⟩)
    (.cons (.ite (.cmp .eq (.var 1 "mode" ⟨374, 7, 374, 11⟩) (.int (1) 0 ⟨374, 15, 374, 16⟩) ⟨374, 7, 374, 16⟩) (.cons (.asg (.one 5 "loop" ⟨375, 8, 375, 12⟩) (.bin false .add (.int (18) 0 ⟨375, 15, 375, 17⟩) (.call 2 "_law_draw" (.var 0 "pool" ⟨375, 30, 375, 34⟩) (.cons (.int (33) 0 ⟨375, 36, 375, 38⟩) .nil) ⟨375, 20, 375, 29⟩ ⟨375, 20, 375, 39⟩) ⟨375, 15, 375, 39⟩) ⟨375, 8, 375, 39⟩)
    (.cons (.asg (.one 4 "rows" ⟨376, 8, 376, 12⟩) (.lst false (.cons (.lst false (.cons (.var 5 "loop" ⟨376, 17, 376, 21⟩) (.cons (.int (1) 0 ⟨376, 23, 376, 24⟩) .nil)) ⟨376, 16, 376, 25⟩) (.cons (.lst false (.cons (.int (1) 0 ⟨376, 28, 376, 29⟩) (.cons (.var 5 "loop" ⟨376, 31, 376, 35⟩) .nil)) ⟨376, 27, 376, 36⟩) .nil)) ⟨376, 15, 376, 37⟩) ⟨376, 8, 376, 37⟩)
    .nil)) .nil ⟨374, 4, 376, 37⟩)
    (.cons (.ite (.cmp .eq (.var 1 "mode" ⟨377, 7, 377, 11⟩) (.int (2) 0 ⟨377, 15, 377, 16⟩) ⟨377, 7, 377, 16⟩) (.cons (.asg (.one 4 "rows" ⟨378, 8, 378, 12⟩) (.lst false (.cons (.lst false (.cons (.int (0) 0 ⟨378, 17, 378, 18⟩) (.cons (.int (1) 0 ⟨378, 20, 378, 21⟩) (.cons (.int (0) 0 ⟨378, 23, 378, 24⟩) .nil))) ⟨378, 16, 378, 25⟩) (.cons (.lst false (.cons (.int (1) 0 ⟨378, 28, 378, 29⟩) (.cons (.int (0) 0 ⟨378, 31, 378, 32⟩) (.cons (.int (1) 0 ⟨378, 34, 378, 35⟩) .nil))) ⟨378, 27, 378, 36⟩) (.cons (.lst false (.cons (.int (0) 0 ⟨378, 39, 378, 40⟩) (.cons (.int (1) 0 ⟨378, 42, 378, 43⟩) (.cons (.int (0) 0 ⟨378, 45, 378, 46⟩) .nil))) ⟨378, 38, 378, 47⟩) .nil))) ⟨378, 15, 378, 48⟩) ⟨378, 8, 378, 48⟩)
    .nil) .nil ⟨377, 4, 378, 48⟩)
    (.cons (.ite (.cmp .eq (.var 1 "mode" ⟨379, 7, 379, 11⟩) (.int (3) 0 ⟨379, 15, 379, 16⟩) ⟨379, 7, 379, 16⟩) (.cons (.asg (.one 4 "rows" ⟨380, 8, 380, 12⟩) (.lst false (.cons (.lst false (.cons (.int (1) 0 ⟨380, 17, 380, 18⟩) (.cons (.int (0) 0 ⟨380, 20, 380, 21⟩) (.cons (.int (0) 0 ⟨380, 23, 380, 24⟩) .nil))) ⟨380, 16, 380, 25⟩) (.cons (.lst false (.cons (.int (0) 0 ⟨380, 28, 380, 29⟩) (.cons (.int (1) 0 ⟨380, 31, 380, 32⟩) (.cons (.int (1) 0 ⟨380, 34, 380, 35⟩) .nil))) ⟨380, 27, 380, 36⟩) (.cons (.lst false (.cons (.int (0) 0 ⟨380, 39, 380, 40⟩) (.cons (.int (1) 0 ⟨380, 42, 380, 43⟩) (.cons (.int (1) 0 ⟨380, 45, 380, 46⟩) .nil))) ⟨380, 38, 380, 47⟩) .nil))) ⟨380, 15, 380, 48⟩) ⟨380, 8, 380, 48⟩)
    .nil) .nil ⟨379, 4, 380, 48⟩)
    (.cons (.ite (.cmp .eq (.var 1 "mode" ⟨381, 7, 381, 11⟩) (.int (4) 0 ⟨381, 15, 381, 16⟩) ⟨381, 7, 381, 16⟩) (.cons (.asg (.one 2 "size" ⟨382, 8, 382, 12⟩) (.bin false .add (.int (5) 0 ⟨382, 15, 382, 16⟩) (.call 2 "_law_draw" (.var 0 "pool" ⟨382, 29, 382, 33⟩) (.cons (.int (4) 0 ⟨382, 35, 382, 36⟩) .nil) ⟨382, 19, 382, 28⟩ ⟨382, 19, 382, 37⟩) ⟨382, 15, 382, 37⟩) ⟨382, 8, 382, 37⟩)
    (.cons (.asg (.one 4 "rows" ⟨383, 8, 383, 12⟩) e9_1 ⟨383, 8, 383, 72⟩)
    .nil)) .nil ⟨381, 4, 383, 72⟩)
    (.cons (.ret (.var 4 "rows" ⟨384, 11, 384, 15⟩) ⟨384, 4, 384, 15⟩)
    .nil)))))))))
def f9 : Fn := ⟨"_law_plain", 2, ["pool", "mode", "size", "top", "rows", "loop", "k", "m"], defScope (topS 56), ir9⟩
theorem irOk9 : ir9.ss = defBody (topS 56) := by rfl
/-- _law_whole -/
def ir10 : ISs :=
    (.cons (.ret (.and (.isT (.var 0 "value" ⟨276, 22, 276, 27⟩) .int ⟨276, 29, 276, 32⟩ ⟨276, 11, 276, 21⟩ ⟨276, 11, 276, 33⟩) (.cons (.not (.isT (.var 0 "value" ⟨276, 54, 276, 59⟩) .bool ⟨276, 61, 276, 65⟩ ⟨276, 43, 276, 53⟩ ⟨276, 43, 276, 66⟩) ⟨276, 39, 276, 66⟩) .nil) ⟨276, 11, 276, 67⟩) ⟨276, 4, 276, 67⟩)
    .nil)
def f10 : Fn := ⟨"_law_whole", 1, ["value"], defScope (topS 44), ir10⟩
theorem irOk10 : ir10.ss = defBody (topS 44) := by rfl
def e11_0 : IE :=
    .lc false (.bin false .mul (.var 3 "number" ⟨240, 17, 240, 23⟩) (.ix (.var 4 "row" ⟨240, 26, 240, 29⟩) (.var 2 "place" ⟨240, 30, 240, 35⟩) ⟨240, 26, 240, 36⟩) ⟨240, 17, 240, 36⟩) (.many [(3, "number", ⟨240, 41, 240, 47⟩), (4, "row", ⟨240, 49, 240, 52⟩)] 0 ⟨240, 41, 240, 52⟩) (.zip (.var 1 "numbers" ⟨240, 60, 240, 67⟩) (.var 0 "rows" ⟨240, 69, 240, 73⟩) ⟨240, 56, 240, 59⟩ ⟨240, 56, 240, 74⟩) .nil [("number", 3), ("row", 4)] { kind := .function, names := [(".0", .«local»), ("number", .«local»), ("row", .«local»), ("place", .free)], isGenerator := false, isCoroutine := false, more := [] } ⟨240, 16, 240, 75⟩
def e11_1 : IE :=
    .lc false (.bi false .sum e11_0 .nil ⟨240, 12, 240, 15⟩ ⟨240, 12, 240, 76⟩) (.one 2 "place" ⟨240, 81, 240, 86⟩) (.rng1 (.bi false .len (.var 0 "rows" ⟨240, 100, 240, 104⟩) .nil ⟨240, 96, 240, 99⟩ ⟨240, 96, 240, 105⟩) ⟨240, 90, 240, 95⟩ ⟨240, 90, 240, 106⟩) .nil [("place", 2)] { kind := .function, names := [(".0", .«local»), ("place", .cell), ("sum", .globalImplicit), ("zip", .globalImplicit), ("numbers", .free), ("rows", .free)], isGenerator := false, isCoroutine := false, more := [] } ⟨240, 11, 240, 107⟩
/-- dealt -/
def ir11 : ISs :=
    (.cons (.ret e11_1 ⟨240, 4, 240, 107⟩)
    .nil)
def f11 : Fn := ⟨"dealt", 2, ["rows", "numbers", "place", "number", "row"], defScope (topS 37), ir11⟩
theorem irOk11 : ir11.ss = defBody (topS 37) := by rfl
/-- is_settled -/
def ir12 : ISs :=
    (.cons (.asg (.many [(4, "top", ⟨250, 4, 250, 7⟩), (5, "bottom", ⟨250, 9, 250, 15⟩)] 0 ⟨250, 4, 250, 15⟩) (.call 25 "stray_numbers" (.var 0 "web" ⟨250, 32, 250, 35⟩) (.cons (.var 1 "numbers" ⟨250, 37, 250, 44⟩) (.cons (.var 2 "scale" ⟨250, 46, 250, 51⟩) .nil)) ⟨250, 18, 250, 31⟩ ⟨250, 18, 250, 52⟩) ⟨250, 4, 250, 52⟩)
    (.cons (.ret (.cmp .le (.bin false .mul (.var 4 "top" ⟨251, 11, 251, 14⟩) (.var 3 "grain" ⟨251, 17, 251, 22⟩) ⟨251, 11, 251, 22⟩) (.var 5 "bottom" ⟨251, 26, 251, 32⟩) ⟨251, 11, 251, 32⟩) ⟨251, 4, 251, 32⟩)
    .nil))
def f12 : Fn := ⟨"is_settled", 4, ["web", "numbers", "scale", "grain", "top", "bottom"], defScope (topS 40), ir12⟩
theorem irOk12 : ir12.ss = defBody (topS 40) := by rfl
def e13_0 : IE :=
    .lc false (.bi false .int (.cmp .eq (.var 2 "place" ⟨238, 16, 238, 21⟩) (.var 1 "start" ⟨238, 25, 238, 30⟩) ⟨238, 16, 238, 30⟩) .nil ⟨238, 12, 238, 15⟩ ⟨238, 12, 238, 31⟩) (.one 2 "place" ⟨238, 36, 238, 41⟩) (.rng1 (.attr (.var 0 "web" ⟨238, 51, 238, 54⟩) "Web" "size" ⟨238, 51, 238, 59⟩) ⟨238, 45, 238, 50⟩ ⟨238, 45, 238, 60⟩) .nil [("place", 2)] { kind := .function, names := [(".0", .«local»), ("place", .«local»), ("int", .globalImplicit), ("start", .free)], isGenerator := false, isCoroutine := false, more := [] } ⟨238, 11, 238, 61⟩
/-- begun -/
def ir13 : ISs :=
    (.cons (.ret e13_0 ⟨238, 4, 238, 61⟩)
    .nil)
def f13 : Fn := ⟨"begun", 2, ["web", "start", "place"], defScope (topS 36), ir13⟩
theorem irOk13 : ir13.ss = defBody (topS 36) := by rfl
def e14_0 : IE :=
    .lc false (.bin false .mul (.var 4 "weight" ⟨236, 13, 236, 19⟩) (.bin false .fdiv (.var 1 "whole" ⟨236, 23, 236, 28⟩) (.var 3 "degree" ⟨236, 32, 236, 38⟩) ⟨236, 23, 236, 38⟩) ⟨236, 13, 236, 39⟩) (.one 4 "weight" ⟨236, 44, 236, 50⟩) (.of (.var 2 "row" ⟨236, 54, 236, 57⟩)) .nil [("weight", 4)] { kind := .function, names := [(".0", .«local»), ("weight", .«local»), ("degree", .free), ("whole", .free)], isGenerator := false, isCoroutine := false, more := [] } ⟨236, 12, 236, 58⟩
def e14_1 : IE :=
    .lc false e14_0 (.many [(2, "row", ⟨236, 63, 236, 66⟩), (3, "degree", ⟨236, 68, 236, 74⟩)] 0 ⟨236, 63, 236, 74⟩) (.zip (.attr (.var 0 "web" ⟨236, 82, 236, 85⟩) "Web" "rows" ⟨236, 82, 236, 90⟩) (.attr (.var 0 "web" ⟨236, 92, 236, 95⟩) "Web" "degrees" ⟨236, 92, 236, 103⟩) ⟨236, 78, 236, 81⟩ ⟨236, 78, 236, 104⟩) .nil [("row", 2), ("degree", 3)] { kind := .function, names := [(".0", .«local»), ("row", .«local»), ("degree", .cell), ("whole", .free)], isGenerator := false, isCoroutine := false, more := [] } ⟨236, 11, 236, 105⟩
/-- step_numbers -/
def ir14 : ISs :=
    (.cons (.asg (.one 1 "whole" ⟨235, 4, 235, 9⟩) (.call 15 "common_degree" (.var 0 "web" ⟨235, 26, 235, 29⟩) .nil ⟨235, 12, 235, 25⟩ ⟨235, 12, 235, 30⟩) ⟨235, 4, 235, 30⟩)
    (.cons (.ret e14_1 ⟨236, 4, 236, 105⟩)
    .nil))
def f14 : Fn := ⟨"step_numbers", 1, ["web", "whole", "row", "degree", "weight"], defScope (topS 35), ir14⟩
theorem irOk14 : ir14.ss = defBody (topS 35) := by rfl
def b15_0 : ISs :=
    (.cons (.asg (.one 1 "whole" ⟨232, 8, 232, 13⟩) (.gcd true (.var 1 "whole" ⟨232, 20, 232, 25⟩) (.var 2 "degree" ⟨232, 27, 232, 33⟩) ⟨232, 16, 232, 19⟩ ⟨232, 16, 232, 34⟩) ⟨232, 8, 232, 34⟩)
    .nil)
/-- common_degree -/
def ir15 : ISs :=
    (.cons (.asg (.one 1 "whole" ⟨230, 4, 230, 9⟩) (.int (1) 0 ⟨230, 12, 230, 13⟩) ⟨230, 4, 230, 13⟩)
    (.cons (.for_ (.one 2 "degree" ⟨231, 8, 231, 14⟩) (.of (.attr (.var 0 "web" ⟨231, 18, 231, 21⟩) "Web" "degrees" ⟨231, 18, 231, 29⟩)) b15_0 ⟨231, 4, 232, 34⟩)
    (.cons (.ret (.var 1 "whole" ⟨233, 11, 233, 16⟩) ⟨233, 4, 233, 16⟩)
    .nil)))
def f15 : Fn := ⟨"common_degree", 1, ["web", "whole", "degree"], defScope (topS 34), ir15⟩
theorem irOk15 : ir15.ss = defBody (topS 34) := by rfl
/-- need_grain -/
def ir16 : ISs :=
    (.cons (.ite (.or (.cmp .lt (.var 0 "grain" ⟨42, 7, 42, 12⟩) (.int (1) 0 ⟨42, 15, 42, 16⟩) ⟨42, 7, 42, 16⟩) (.cons (.cmp .gt (.var 0 "grain" ⟨42, 20, 42, 25⟩) (.gint (1000000) "MOST_GRAIN" ⟨42, 28, 42, 38⟩) ⟨42, 20, 42, 38⟩) .nil) ⟨42, 7, 42, 38⟩) (.cons (.raise "OutOfRange" none (.cons (.var 0 "grain" ⟨43, 25, 43, 30⟩) .nil) ⟨43, 14, 43, 24⟩ ⟨43, 14, 43, 31⟩ ⟨43, 8, 43, 31⟩)
    .nil) .nil ⟨42, 4, 43, 31⟩)
    .nil)
def f16 : Fn := ⟨"need_grain", 1, ["grain"], defScope (topS 14), ir16⟩
theorem irOk16 : ir16.ss = defBody (topS 14) := by rfl
def b17_0 : ISs :=
    (.cons (.ite (.cmp .eq (.bi false .sum (.var 2 "row" ⟨137, 15, 137, 18⟩) .nil ⟨137, 11, 137, 14⟩ ⟨137, 11, 137, 19⟩) (.int (0) 0 ⟨137, 23, 137, 24⟩) ⟨137, 11, 137, 24⟩) (.cons (.raise "Bare" none (.cons (.var 1 "place" ⟨138, 23, 138, 28⟩) .nil) ⟨138, 18, 138, 22⟩ ⟨138, 18, 138, 29⟩ ⟨138, 12, 138, 29⟩)
    .nil) .nil ⟨137, 8, 138, 29⟩)
    .nil)
/-- _need_tied -/
def ir17 : ISs :=
    (.cons (.for_ (.many [(1, "place", ⟨136, 8, 136, 13⟩), (2, "row", ⟨136, 15, 136, 18⟩)] 0 ⟨136, 8, 136, 18⟩) (.enum (.var 0 "rows" ⟨136, 32, 136, 36⟩) ⟨136, 22, 136, 31⟩ ⟨136, 22, 136, 37⟩) b17_0 ⟨136, 4, 138, 29⟩)
    .nil)
def f17 : Fn := ⟨"_need_tied", 1, ["rows", "place", "row"], defScope (topS 26), ir17⟩
theorem irOk17 : ir17.ss = defBody (topS 26) := by rfl
def b18_0 : ISs :=
    (.cons (.ite (.cmp .ne (.var 4 "weight" ⟨133, 15, 133, 21⟩) (.ix (.ix (.var 0 "rows" ⟨133, 25, 133, 29⟩) (.var 3 "j" ⟨133, 30, 133, 31⟩) ⟨133, 25, 133, 32⟩) (.var 1 "i" ⟨133, 33, 133, 34⟩) ⟨133, 25, 133, 35⟩) ⟨133, 15, 133, 35⟩) (.cons (.raise "NotSymmetric" none (.cons (.var 1 "i" ⟨134, 35, 134, 36⟩) (.cons (.var 3 "j" ⟨134, 38, 134, 39⟩) .nil)) ⟨134, 22, 134, 34⟩ ⟨134, 22, 134, 40⟩ ⟨134, 16, 134, 40⟩)
    .nil) .nil ⟨133, 12, 134, 40⟩)
    .nil)
def b18_1 : ISs :=
    (.cons (.for_ (.many [(3, "j", ⟨132, 12, 132, 13⟩), (4, "weight", ⟨132, 15, 132, 21⟩)] 0 ⟨132, 12, 132, 21⟩) (.enum (.var 2 "row" ⟨132, 35, 132, 38⟩) ⟨132, 25, 132, 34⟩ ⟨132, 25, 132, 39⟩) b18_0 ⟨132, 8, 134, 40⟩)
    .nil)
/-- _need_symmetric -/
def ir18 : ISs :=
    (.cons (.for_ (.many [(1, "i", ⟨131, 8, 131, 9⟩), (2, "row", ⟨131, 11, 131, 14⟩)] 0 ⟨131, 8, 131, 14⟩) (.enum (.var 0 "rows" ⟨131, 28, 131, 32⟩) ⟨131, 18, 131, 27⟩ ⟨131, 18, 131, 33⟩) b18_1 ⟨131, 4, 134, 40⟩)
    .nil)
def f18 : Fn := ⟨"_need_symmetric", 1, ["rows", "i", "row", "j", "weight"], defScope (topS 25), ir18⟩
theorem irOk18 : ir18.ss = defBody (topS 25) := by rfl
def b19_0 : ISs :=
    (.cons (.ite (.or (.cmp .lt (.var 2 "weight" ⟨128, 15, 128, 21⟩) (.int (0) 0 ⟨128, 24, 128, 25⟩) ⟨128, 15, 128, 25⟩) (.cons (.cmp .gt (.var 2 "weight" ⟨128, 29, 128, 35⟩) (.gint (1000000000000000000000000000000) "MOST_WEIGHT" ⟨128, 38, 128, 49⟩) ⟨128, 29, 128, 49⟩) .nil) ⟨128, 15, 128, 49⟩) (.cons (.raise "BadWeight" none (.cons (.var 2 "weight" ⟨129, 32, 129, 38⟩) .nil) ⟨129, 22, 129, 31⟩ ⟨129, 22, 129, 39⟩ ⟨129, 16, 129, 39⟩)
    .nil) .nil ⟨128, 12, 129, 39⟩)
    .nil)
def b19_1 : ISs :=
    (.cons (.for_ (.one 2 "weight" ⟨127, 12, 127, 18⟩) (.of (.var 1 "row" ⟨127, 22, 127, 25⟩)) b19_0 ⟨127, 8, 129, 39⟩)
    .nil)
/-- _need_weights -/
def ir19 : ISs :=
    (.cons (.for_ (.one 1 "row" ⟨126, 8, 126, 11⟩) (.of (.var 0 "rows" ⟨126, 15, 126, 19⟩)) b19_1 ⟨126, 4, 129, 39⟩)
    .nil)
def f19 : Fn := ⟨"_need_weights", 1, ["rows", "row", "weight"], defScope (topS 24), ir19⟩
theorem irOk19 : ir19.ss = defBody (topS 24) := by rfl
def b20_0 : ISs :=
    (.cons (.ite (.cmp .ne (.bi false .len (.var 2 "row" ⟨123, 15, 123, 18⟩) .nil ⟨123, 11, 123, 14⟩ ⟨123, 11, 123, 19⟩) (.var 1 "size" ⟨123, 23, 123, 27⟩) ⟨123, 11, 123, 27⟩) (.cons (.raise "BadShape" none .nil ⟨124, 18, 124, 26⟩ ⟨124, 18, 124, 28⟩ ⟨124, 12, 124, 28⟩)
    .nil) .nil ⟨123, 8, 124, 28⟩)
    .nil)
/-- _need_square -/
def ir20 : ISs :=
    (.cons (.asg (.one 1 "size" ⟨119, 4, 119, 8⟩) (.bi false .len (.var 0 "rows" ⟨119, 15, 119, 19⟩) .nil ⟨119, 11, 119, 14⟩ ⟨119, 11, 119, 20⟩) ⟨119, 4, 119, 20⟩)
    (.cons (.ite (.or (.cmp .lt (.var 1 "size" ⟨120, 7, 120, 11⟩) (.int (1) 0 ⟨120, 14, 120, 15⟩) ⟨120, 7, 120, 15⟩) (.cons (.cmp .gt (.var 1 "size" ⟨120, 19, 120, 23⟩) (.gint (40) "MOST_PLACES" ⟨120, 26, 120, 37⟩) ⟨120, 19, 120, 37⟩) .nil) ⟨120, 7, 120, 37⟩) (.cons (.raise "BadShape" none .nil ⟨121, 14, 121, 22⟩ ⟨121, 14, 121, 24⟩ ⟨121, 8, 121, 24⟩)
    .nil) .nil ⟨120, 4, 121, 24⟩)
    (.cons (.for_ (.one 2 "row" ⟨122, 8, 122, 11⟩) (.of (.var 0 "rows" ⟨122, 15, 122, 19⟩)) b20_0 ⟨122, 4, 124, 28⟩)
    .nil)))
def f20 : Fn := ⟨"_need_square", 1, ["rows", "size", "row"], defScope (topS 23), ir20⟩
theorem irOk20 : ir20.ss = defBody (topS 23) := by rfl
def e21_0 : IE :=
    .lc false (.bi false .sum (.var 4 "row" ⟨336, 20, 336, 23⟩) .nil ⟨336, 16, 336, 19⟩ ⟨336, 16, 336, 24⟩) (.one 4 "row" ⟨336, 29, 336, 32⟩) (.of (.var 0 "rows" ⟨336, 36, 336, 40⟩)) .nil [("row", 4)] { kind := .function, names := [(".0", .«local»), ("row", .«local»), ("sum", .globalImplicit)], isGenerator := false, isCoroutine := false, more := [] } ⟨336, 15, 336, 41⟩
def e21_1 : IE :=
    .lc false (.bin false .mul (.bin false .mul (.ix (.var 1 "tops" ⟨335, 12, 335, 16⟩) (.var 5 "j" ⟨335, 17, 335, 18⟩) ⟨335, 12, 335, 19⟩) (.ix (.var 1 "tops" ⟨335, 22, 335, 26⟩) (.var 5 "j" ⟨335, 27, 335, 28⟩) ⟨335, 22, 335, 29⟩) ⟨335, 12, 335, 29⟩) (.ix (.var 2 "parts" ⟨335, 32, 335, 37⟩) (.var 5 "j" ⟨335, 38, 335, 39⟩) ⟨335, 32, 335, 40⟩) ⟨335, 12, 335, 40⟩) (.one 5 "j" ⟨335, 45, 335, 46⟩) (.rng1 (.bi false .len (.var 0 "rows" ⟨335, 60, 335, 64⟩) .nil ⟨335, 56, 335, 59⟩ ⟨335, 56, 335, 65⟩) ⟨335, 50, 335, 55⟩ ⟨335, 50, 335, 66⟩) .nil [("j", 5)] { kind := .function, names := [(".0", .«local»), ("j", .«local»), ("parts", .free), ("tops", .free)], isGenerator := false, isCoroutine := false, more := [] } ⟨335, 11, 335, 67⟩
/-- _law_spread -/
def ir21 : ISs :=
    (.cons (.asg (.one 3 "told" ⟨335, 4, 335, 8⟩) e21_1 ⟨335, 4, 335, 67⟩)
    (.cons (.ret (.bin false .mul (.bi false .sum e21_0 .nil ⟨336, 11, 336, 14⟩ ⟨336, 11, 336, 42⟩) (.bi false .sum (.var 3 "told" ⟨336, 49, 336, 53⟩) .nil ⟨336, 45, 336, 48⟩ ⟨336, 45, 336, 54⟩) ⟨336, 11, 336, 54⟩) ⟨336, 4, 336, 54⟩)
    .nil))
def f21 : Fn := ⟨"_law_spread", 3, ["rows", "tops", "parts", "told", "row", "j"], defScope (topS 51), ir21⟩
theorem irOk21 : ir21.ss = defBody (topS 51) := by rfl
def e22_0 : IE :=
    .lc false (.call 26 "_law_dot" (.ix (.var 0 "rows" ⟨332, 30, 332, 34⟩) (.var 9 "j" ⟨332, 35, 332, 36⟩) ⟨332, 30, 332, 37⟩) (.cons (.var 8 "deal" ⟨332, 39, 332, 43⟩) .nil) ⟨332, 21, 332, 29⟩ ⟨332, 21, 332, 44⟩) (.one 9 "j" ⟨332, 49, 332, 50⟩) (.rng1 (.var 3 "size" ⟨332, 60, 332, 64⟩) ⟨332, 54, 332, 59⟩ ⟨332, 54, 332, 65⟩) .nil [("j", 9)] { kind := .function, names := [(".0", .«local»), ("j", .«local»), ("_law_dot", .globalImplicit), ("deal", .free), ("rows", .free)], isGenerator := false, isCoroutine := false, more := [] } ⟨332, 20, 332, 66⟩
def e22_1 : IE :=
    .lc false (.bin false .mul (.ix (.ix (.var 6 "told" ⟨331, 16, 331, 20⟩) (.var 7 "turn" ⟨331, 21, 331, 25⟩) ⟨331, 16, 331, 26⟩) (.var 10 "i" ⟨331, 27, 331, 28⟩) ⟨331, 16, 331, 29⟩) (.ix (.var 5 "parts" ⟨331, 32, 331, 37⟩) (.var 10 "i" ⟨331, 38, 331, 39⟩) ⟨331, 32, 331, 40⟩) ⟨331, 16, 331, 40⟩) (.one 10 "i" ⟨331, 45, 331, 46⟩) (.rng1 (.var 3 "size" ⟨331, 56, 331, 60⟩) ⟨331, 50, 331, 55⟩ ⟨331, 50, 331, 61⟩) .nil [("i", 10)] { kind := .function, names := [(".0", .«local»), ("i", .«local»), ("parts", .free), ("told", .free), ("turn", .free)], isGenerator := false, isCoroutine := false, more := [] } ⟨331, 15, 331, 62⟩
def b22_2 : ISs :=
    (.cons (.asg (.one 8 "deal" ⟨331, 8, 331, 12⟩) e22_1 ⟨331, 8, 331, 62⟩)
    (.cons (.expr (.lmeth (.var 6 "told" ⟨332, 8, 332, 12⟩) .append (.cons e22_0 .nil) ⟨332, 8, 332, 19⟩ ⟨332, 8, 332, 67⟩) ⟨332, 8, 332, 67⟩)
    .nil))
def e22_3 : IE :=
    .lc false (.bi false .int (.cmp .eq (.var 9 "j" ⟨329, 17, 329, 18⟩) (.var 1 "begin" ⟨329, 22, 329, 27⟩) ⟨329, 17, 329, 27⟩) .nil ⟨329, 13, 329, 16⟩ ⟨329, 13, 329, 28⟩) (.one 9 "j" ⟨329, 33, 329, 34⟩) (.rng1 (.var 3 "size" ⟨329, 44, 329, 48⟩) ⟨329, 38, 329, 43⟩ ⟨329, 38, 329, 49⟩) .nil [("j", 9)] { kind := .function, names := [(".0", .«local»), ("j", .«local»), ("int", .globalImplicit), ("begin", .free)], isGenerator := false, isCoroutine := false, more := [] } ⟨329, 12, 329, 50⟩
def e22_4 : IE :=
    .lc false (.bin false .fdiv (.var 4 "grow" ⟨328, 13, 328, 17⟩) (.bi false .sum (.var 11 "row" ⟨328, 25, 328, 28⟩) .nil ⟨328, 21, 328, 24⟩ ⟨328, 21, 328, 29⟩) ⟨328, 13, 328, 29⟩) (.one 11 "row" ⟨328, 34, 328, 37⟩) (.of (.var 0 "rows" ⟨328, 41, 328, 45⟩)) .nil [("row", 11)] { kind := .function, names := [(".0", .«local»), ("row", .«local»), ("sum", .globalImplicit), ("grow", .free)], isGenerator := false, isCoroutine := false, more := [] } ⟨328, 12, 328, 46⟩
/-- _law_dealt -/
def ir22 : ISs :=
    (.cons (.asg (.one 3 "size" ⟨326, 4, 326, 8⟩) (.bi false .len (.var 0 "rows" ⟨326, 15, 326, 19⟩) .nil ⟨326, 11, 326, 14⟩ ⟨326, 11, 326, 20⟩) ⟨326, 4, 326, 20⟩)
    (.cons (.asg (.one 4 "grow" ⟨327, 4, 327, 8⟩) (.call 23 "_law_base" (.var 0 "rows" ⟨327, 21, 327, 25⟩) .nil ⟨327, 11, 327, 20⟩ ⟨327, 11, 327, 26⟩) ⟨327, 4, 327, 26⟩)
    (.cons (.asg (.one 5 "parts" ⟨328, 4, 328, 9⟩) e22_4 ⟨328, 4, 328, 46⟩)
    (.cons (.asg (.one 6 "told" ⟨329, 4, 329, 8⟩) (.lst true (.cons e22_3 .nil) ⟨329, 11, 329, 51⟩) ⟨329, 4, 329, 51⟩)
    (.cons (.for_ (.one 7 "turn" ⟨330, 8, 330, 12⟩) (.rng1 (.var 2 "many" ⟨330, 22, 330, 26⟩) ⟨330, 16, 330, 21⟩ ⟨330, 16, 330, 27⟩) b22_2 ⟨330, 4, 332, 67⟩)
    (.cons (.ret (.var 6 "told" ⟨333, 11, 333, 15⟩) ⟨333, 4, 333, 15⟩)
    .nil))))))
def f22 : Fn := ⟨"_law_dealt", 3, ["rows", "begin", "many", "size", "grow", "parts", "told", "turn", "deal", "j", "i", "row"], defScope (topS 50), ir22⟩
theorem irOk22 : ir22.ss = defBody (topS 50) := by rfl
def b23_0 : ISs :=
    (.cons (.asg (.one 1 "told" ⟨323, 8, 323, 12⟩) (.bin false .mul (.var 1 "told" ⟨323, 15, 323, 19⟩) (.bi false .sum (.var 2 "row" ⟨323, 26, 323, 29⟩) .nil ⟨323, 22, 323, 25⟩ ⟨323, 22, 323, 30⟩) ⟨323, 15, 323, 30⟩) ⟨323, 8, 323, 30⟩)
    .nil)
/-- _law_base -/
def ir23 : ISs :=
    (.cons (.asg (.one 1 "told" ⟨321, 4, 321, 8⟩) (.int (1) 0 ⟨321, 11, 321, 12⟩) ⟨321, 4, 321, 12⟩)
    (.cons (.for_ (.one 2 "row" ⟨322, 8, 322, 11⟩) (.of (.var 0 "rows" ⟨322, 15, 322, 19⟩)) b23_0 ⟨322, 4, 323, 30⟩)
    (.cons (.ret (.var 1 "told" ⟨324, 11, 324, 15⟩) ⟨324, 4, 324, 15⟩)
    .nil)))
def f23 : Fn := ⟨"_law_base", 1, ["rows", "told", "row"], defScope (topS 49), ir23⟩
theorem irOk23 : ir23.ss = defBody (topS 49) := by rfl
def b24_0 : ISs :=
    (.cons (.ite (.cmp .eq (.bi false .sum (.ix (.var 4 "rows" ⟨313, 15, 313, 19⟩) (.var 5 "i" ⟨313, 20, 313, 21⟩) ⟨313, 15, 313, 22⟩) .nil ⟨313, 11, 313, 14⟩ ⟨313, 11, 313, 23⟩) (.int (0) 0 ⟨313, 27, 313, 28⟩) ⟨313, 11, 313, 28⟩) (.cons (.asg (.one 6 "j" ⟨314, 12, 314, 13⟩) (.bin false .add (.var 5 "i" ⟨314, 16, 314, 17⟩) (.int (1) 0 ⟨314, 20, 314, 21⟩) ⟨314, 16, 314, 21⟩) ⟨314, 12, 314, 21⟩)
    (.cons (.ite (.cmp .eq (.var 6 "j" ⟨315, 15, 315, 16⟩) (.var 1 "size" ⟨315, 20, 315, 24⟩) ⟨315, 15, 315, 24⟩) (.cons (.asg (.one 6 "j" ⟨316, 16, 316, 17⟩) (.bi false .max (.int (0) 0 ⟨316, 24, 316, 25⟩) (.cons (.bin false .sub (.var 5 "i" ⟨316, 27, 316, 28⟩) (.int (1) 0 ⟨316, 31, 316, 32⟩) ⟨316, 27, 316, 32⟩) .nil) ⟨316, 20, 316, 23⟩ ⟨316, 20, 316, 33⟩) ⟨316, 16, 316, 33⟩)
    .nil) .nil ⟨315, 12, 316, 33⟩)
    (.cons (.setIx (.ix (.var 4 "rows" ⟨317, 12, 317, 16⟩) (.var 5 "i" ⟨317, 17, 317, 18⟩) ⟨317, 12, 317, 19⟩) (.var 6 "j" ⟨317, 20, 317, 21⟩) (.int (1) 0 ⟨317, 25, 317, 26⟩) ⟨317, 12, 317, 22⟩ ⟨317, 12, 317, 26⟩)
    (.cons (.setIx (.ix (.var 4 "rows" ⟨318, 12, 318, 16⟩) (.var 6 "j" ⟨318, 17, 318, 18⟩) ⟨318, 12, 318, 19⟩) (.var 5 "i" ⟨318, 20, 318, 21⟩) (.int (1) 0 ⟨318, 25, 318, 26⟩) ⟨318, 12, 318, 22⟩ ⟨318, 12, 318, 26⟩)
    .nil)))) .nil ⟨313, 8, 318, 26⟩)
    .nil)
def b24_1 : ISs :=
    (.cons (.ite (.call 27 "_law_let" (.var 3 "shape" ⟨304, 24, 304, 29⟩) (.cons (.var 5 "i" ⟨304, 31, 304, 32⟩) (.cons (.var 6 "j" ⟨304, 34, 304, 35⟩) (.cons (.var 1 "size" ⟨304, 37, 304, 41⟩) .nil))) ⟨304, 15, 304, 23⟩ ⟨304, 15, 304, 42⟩) (.cons (.asg (.one 7 "weight" ⟨305, 16, 305, 22⟩) (.call 2 "_law_draw" (.var 0 "pool" ⟨305, 35, 305, 39⟩) (.cons (.var 2 "top" ⟨305, 41, 305, 44⟩) .nil) ⟨305, 25, 305, 34⟩ ⟨305, 25, 305, 45⟩) ⟨305, 16, 305, 45⟩)
    (.cons (.ite (.and (.cmp .ne (.var 5 "i" ⟨306, 19, 306, 20⟩) (.var 6 "j" ⟨306, 24, 306, 25⟩) ⟨306, 19, 306, 25⟩) (.cons (.cmp .gt (.var 2 "top" ⟨306, 30, 306, 33⟩) (.int (99) 0 ⟨306, 36, 306, 38⟩) ⟨306, 30, 306, 38⟩) .nil) ⟨306, 19, 306, 38⟩) (.cons (.asg (.one 7 "weight" ⟨307, 20, 307, 26⟩) (.bin false .sub (.bin false .sub (.var 2 "top" ⟨307, 29, 307, 32⟩) (.int (1) 0 ⟨307, 35, 307, 36⟩) ⟨307, 29, 307, 36⟩) (.var 7 "weight" ⟨307, 39, 307, 45⟩) ⟨307, 29, 307, 45⟩) ⟨307, 20, 307, 45⟩)
    .nil) .nil ⟨306, 16, 307, 45⟩)
    (.cons (.ite (.and (.cmp .ne (.var 5 "i" ⟨308, 19, 308, 20⟩) (.var 6 "j" ⟨308, 24, 308, 25⟩) ⟨308, 19, 308, 25⟩) (.cons (.cmp .lt (.var 2 "top" ⟨308, 30, 308, 33⟩) (.int (99) 0 ⟨308, 36, 308, 38⟩) ⟨308, 30, 308, 38⟩) .nil) ⟨308, 19, 308, 38⟩) (.cons (.asg (.one 7 "weight" ⟨309, 20, 309, 26⟩) (.bin false .mod (.bi false .int (.bin false .add (.var 7 "weight" ⟨309, 33, 309, 39⟩) (.int (1) 0 ⟨309, 42, 309, 43⟩) ⟨309, 33, 309, 43⟩) .nil ⟨309, 29, 309, 32⟩ ⟨309, 29, 309, 44⟩) (.var 2 "top" ⟨309, 47, 309, 50⟩) ⟨309, 29, 309, 50⟩) ⟨309, 20, 309, 50⟩)
    .nil) .nil ⟨308, 16, 309, 50⟩)
    (.cons (.setIx (.ix (.var 4 "rows" ⟨310, 16, 310, 20⟩) (.var 5 "i" ⟨310, 21, 310, 22⟩) ⟨310, 16, 310, 23⟩) (.var 6 "j" ⟨310, 24, 310, 25⟩) (.var 7 "weight" ⟨310, 29, 310, 35⟩) ⟨310, 16, 310, 26⟩ ⟨310, 16, 310, 35⟩)
    (.cons (.setIx (.ix (.var 4 "rows" ⟨311, 16, 311, 20⟩) (.var 6 "j" ⟨311, 21, 311, 22⟩) ⟨311, 16, 311, 23⟩) (.var 5 "i" ⟨311, 24, 311, 25⟩) (.var 7 "weight" ⟨311, 29, 311, 35⟩) ⟨311, 16, 311, 26⟩ ⟨311, 16, 311, 35⟩)
    .nil))))) .nil ⟨304, 12, 311, 35⟩)
    .nil)
def b24_2 : ISs :=
    (.cons (.for_ (.one 6 "j" ⟨303, 12, 303, 13⟩) (.rng2 (.var 5 "i" ⟨303, 23, 303, 24⟩) (.var 1 "size" ⟨303, 26, 303, 30⟩) ⟨303, 17, 303, 22⟩ ⟨303, 17, 303, 31⟩) b24_1 ⟨303, 8, 311, 35⟩)
    .nil)
def e24_3 : IE :=
    .lc true (.bin true .mul (.lst false (.cons (.int (0) 0 ⟨301, 13, 301, 14⟩) .nil) ⟨301, 12, 301, 15⟩) (.var 1 "size" ⟨301, 18, 301, 22⟩) ⟨301, 12, 301, 22⟩) (.one 8 "k" ⟨301, 27, 301, 28⟩) (.rng1 (.var 1 "size" ⟨301, 38, 301, 42⟩) ⟨301, 32, 301, 37⟩ ⟨301, 32, 301, 43⟩) .nil [("k", 8)] { kind := .function, names := [(".0", .«local»), ("k", .«local»), ("size", .free)], isGenerator := false, isCoroutine := false, more := [] } ⟨301, 11, 301, 44⟩
/-- _law_drawn -/
def ir24 : ISs :=
    (.cons (.asg (.one 3 "shape" ⟨298, 4, 298, 9⟩) (.call 2 "_law_draw" (.var 0 "pool" ⟨298, 22, 298, 26⟩) (.cons (.int (8) 0 ⟨298, 28, 298, 29⟩) .nil) ⟨298, 12, 298, 21⟩ ⟨298, 12, 298, 30⟩) ⟨298, 4, 298, 30⟩)
    (.cons (.ite (.cmp .gt (.var 1 "size" ⟨299, 7, 299, 11⟩) (.int (8) 0 ⟨299, 14, 299, 15⟩) ⟨299, 7, 299, 15⟩) (.cons (.asg (.one 3 "shape" ⟨300, 8, 300, 13⟩) (.int (4) 0 ⟨300, 16, 300, 17⟩) ⟨300, 8, 300, 17⟩)
    .nil) .nil ⟨299, 4, 300, 17⟩)
    (.cons (.asg (.one 4 "rows" ⟨301, 4, 301, 8⟩) e24_3 ⟨301, 4, 301, 44⟩)
    (.cons (.for_ (.one 5 "i" ⟨302, 8, 302, 9⟩) (.rng1 (.var 1 "size" ⟨302, 19, 302, 23⟩) ⟨302, 13, 302, 18⟩ ⟨302, 13, 302, 24⟩) b24_2 ⟨302, 4, 311, 35⟩)
    (.cons (.for_ (.one 5 "i" ⟨312, 8, 312, 9⟩) (.rng1 (.var 1 "size" ⟨312, 19, 312, 23⟩) ⟨312, 13, 312, 18⟩ ⟨312, 13, 312, 24⟩) b24_0 ⟨312, 4, 318, 26⟩)
    (.cons (.ret (.var 4 "rows" ⟨319, 11, 319, 15⟩) ⟨319, 4, 319, 15⟩)
    .nil))))))
def f24 : Fn := ⟨"_law_drawn", 3, ["pool", "size", "top", "shape", "rows", "i", "j", "weight", "k"], defScope (topS 48), ir24⟩
theorem irOk24 : ir24.ss = defBody (topS 48) := by rfl
def b25_0 : ISs :=
    (.cons (.asg (.one 4 "total" ⟨246, 8, 246, 13⟩) (.bin false .add (.var 4 "total" ⟨246, 16, 246, 21⟩) (.bin false .mul (.bin false .mul (.var 5 "number" ⟨246, 24, 246, 30⟩) (.var 5 "number" ⟨246, 33, 246, 39⟩) ⟨246, 24, 246, 39⟩) (.bin false .fdiv (.var 3 "whole" ⟨246, 43, 246, 48⟩) (.var 6 "degree" ⟨246, 52, 246, 58⟩) ⟨246, 43, 246, 58⟩) ⟨246, 24, 246, 59⟩) ⟨246, 16, 246, 59⟩) ⟨246, 8, 246, 59⟩)
    .nil)
/-- stray_numbers -/
def ir25 : ISs :=
    (.cons (.asg (.one 3 "whole" ⟨243, 4, 243, 9⟩) (.call 15 "common_degree" (.var 0 "web" ⟨243, 26, 243, 29⟩) .nil ⟨243, 12, 243, 25⟩ ⟨243, 12, 243, 30⟩) ⟨243, 4, 243, 30⟩)
    (.cons (.asg (.one 4 "total" ⟨244, 4, 244, 9⟩) (.int (0) 0 ⟨244, 12, 244, 13⟩) ⟨244, 4, 244, 13⟩)
    (.cons (.for_ (.many [(5, "number", ⟨245, 8, 245, 14⟩), (6, "degree", ⟨245, 16, 245, 22⟩)] 0 ⟨245, 8, 245, 22⟩) (.zip (.var 1 "numbers" ⟨245, 30, 245, 37⟩) (.attr (.var 0 "web" ⟨245, 39, 245, 42⟩) "Web" "degrees" ⟨245, 39, 245, 50⟩) ⟨245, 26, 245, 29⟩ ⟨245, 26, 245, 51⟩) b25_0 ⟨245, 4, 246, 59⟩)
    (.cons (.asg (.one 7 "bottom" ⟨247, 4, 247, 10⟩) (.bin false .mul (.bin false .mul (.var 3 "whole" ⟨247, 13, 247, 18⟩) (.var 2 "scale" ⟨247, 21, 247, 26⟩) ⟨247, 13, 247, 26⟩) (.var 2 "scale" ⟨247, 29, 247, 34⟩) ⟨247, 13, 247, 34⟩) ⟨247, 4, 247, 34⟩)
    (.cons (.ret (.tup (.cons (.bin false .sub (.bin false .mul (.attr (.var 0 "web" ⟨248, 12, 248, 15⟩) "Web" "volume" ⟨248, 12, 248, 22⟩) (.var 4 "total" ⟨248, 25, 248, 30⟩) ⟨248, 12, 248, 30⟩) (.var 7 "bottom" ⟨248, 33, 248, 39⟩) ⟨248, 12, 248, 39⟩) (.cons (.var 7 "bottom" ⟨248, 41, 248, 47⟩) .nil)) 0 ⟨248, 11, 248, 48⟩) ⟨248, 4, 248, 48⟩)
    .nil)))))
def f25 : Fn := ⟨"stray_numbers", 3, ["web", "numbers", "scale", "whole", "total", "number", "degree", "bottom"], defScope (topS 39), ir25⟩
theorem irOk25 : ir25.ss = defBody (topS 39) := by rfl
def e26_0 : IE :=
    .lc false (.bin false .mul (.ix (.var 0 "left" ⟨282, 16, 282, 20⟩) (.var 2 "k" ⟨282, 21, 282, 22⟩) ⟨282, 16, 282, 23⟩) (.ix (.var 1 "right" ⟨282, 26, 282, 31⟩) (.var 2 "k" ⟨282, 32, 282, 33⟩) ⟨282, 26, 282, 34⟩) ⟨282, 16, 282, 34⟩) (.one 2 "k" ⟨282, 39, 282, 40⟩) (.rng1 (.bi false .len (.var 0 "left" ⟨282, 54, 282, 58⟩) .nil ⟨282, 50, 282, 53⟩ ⟨282, 50, 282, 59⟩) ⟨282, 44, 282, 49⟩ ⟨282, 44, 282, 60⟩) .nil [("k", 2)] { kind := .function, names := [(".0", .«local»), ("k", .«local»), ("left", .free), ("right", .free)], isGenerator := false, isCoroutine := false, more := [] } ⟨282, 15, 282, 61⟩
/-- _law_dot -/
def ir26 : ISs :=
    (.cons (.ret (.bi false .sum e26_0 .nil ⟨282, 11, 282, 14⟩ ⟨282, 11, 282, 62⟩) ⟨282, 4, 282, 62⟩)
    .nil)
def f26 : Fn := ⟨"_law_dot", 2, ["left", "right", "k"], defScope (topS 46), ir26⟩
theorem irOk26 : ir26.ss = defBody (topS 46) := by rfl
/-- _law_let -/
def ir27 : ISs :=
    (.cons (.ite (.cmp .eq (.var 0 "shape" ⟨284, 7, 284, 12⟩) (.int (2) 0 ⟨284, 16, 284, 17⟩) ⟨284, 7, 284, 17⟩) (.cons (.ret (.cmp .ne (.var 1 "i" ⟨285, 15, 285, 16⟩) (.var 2 "j" ⟨285, 20, 285, 21⟩) ⟨285, 15, 285, 21⟩) ⟨285, 8, 285, 21⟩)
    .nil) .nil ⟨284, 4, 285, 21⟩)
    (.cons (.ite (.cmp .eq (.var 0 "shape" ⟨286, 7, 286, 12⟩) (.int (3) 0 ⟨286, 16, 286, 17⟩) ⟨286, 7, 286, 17⟩) (.cons (.ret (.cmp .eq (.bin false .mod (.bi false .int (.bin false .add (.var 1 "i" ⟨287, 19, 287, 20⟩) (.var 2 "j" ⟨287, 23, 287, 24⟩) ⟨287, 19, 287, 24⟩) .nil ⟨287, 15, 287, 18⟩ ⟨287, 15, 287, 25⟩) (.int (2) 0 ⟨287, 28, 287, 29⟩) ⟨287, 15, 287, 29⟩) (.int (1) 0 ⟨287, 33, 287, 34⟩) ⟨287, 15, 287, 34⟩) ⟨287, 8, 287, 34⟩)
    .nil) .nil ⟨286, 4, 287, 34⟩)
    (.cons (.ite (.cmp .eq (.var 0 "shape" ⟨288, 7, 288, 12⟩) (.int (4) 0 ⟨288, 16, 288, 17⟩) ⟨288, 7, 288, 17⟩) (.cons (.ret (.cmp .le (.var 2 "j" ⟨289, 15, 289, 16⟩) (.bin false .add (.var 1 "i" ⟨289, 20, 289, 21⟩) (.int (1) 0 ⟨289, 24, 289, 25⟩) ⟨289, 20, 289, 25⟩) ⟨289, 15, 289, 25⟩) ⟨289, 8, 289, 25⟩)
    .nil) .nil ⟨288, 4, 289, 25⟩)
    (.cons (.ite (.cmp .eq (.var 0 "shape" ⟨290, 7, 290, 12⟩) (.int (5) 0 ⟨290, 16, 290, 17⟩) ⟨290, 7, 290, 17⟩) (.cons (.ret (.cmp .eq (.var 1 "i" ⟨291, 15, 291, 16⟩) (.int (0) 0 ⟨291, 20, 291, 21⟩) ⟨291, 15, 291, 21⟩) ⟨291, 8, 291, 21⟩)
    .nil) .nil ⟨290, 4, 291, 21⟩)
    (.cons (.ite (.cmp .eq (.var 0 "shape" ⟨292, 7, 292, 12⟩) (.int (6) 0 ⟨292, 16, 292, 17⟩) ⟨292, 7, 292, 17⟩) (.cons (.ret (.cmp .eq (.cmp .lt (.bin false .mul (.int (2) 0 ⟨293, 16, 293, 17⟩) (.var 1 "i" ⟨293, 20, 293, 21⟩) ⟨293, 16, 293, 21⟩) (.var 3 "size" ⟨293, 24, 293, 28⟩) ⟨293, 16, 293, 28⟩) (.cmp .lt (.bin false .mul (.int (2) 0 ⟨293, 34, 293, 35⟩) (.var 2 "j" ⟨293, 38, 293, 39⟩) ⟨293, 34, 293, 39⟩) (.var 3 "size" ⟨293, 42, 293, 46⟩) ⟨293, 34, 293, 46⟩) ⟨293, 15, 293, 47⟩) ⟨293, 8, 293, 47⟩)
    .nil) .nil ⟨292, 4, 293, 47⟩)
    (.cons (.ite (.cmp .eq (.var 0 "shape" ⟨294, 7, 294, 12⟩) (.int (7) 0 ⟨294, 16, 294, 17⟩) ⟨294, 7, 294, 17⟩) (.cons (.ret (.cmp .eq (.bin false .mod (.bi false .int (.bin false .add (.var 1 "i" ⟨295, 19, 295, 20⟩) (.var 2 "j" ⟨295, 23, 295, 24⟩) ⟨295, 19, 295, 24⟩) .nil ⟨295, 15, 295, 18⟩ ⟨295, 15, 295, 25⟩) (.int (2) 0 ⟨295, 28, 295, 29⟩) ⟨295, 15, 295, 29⟩) (.int (0) 0 ⟨295, 33, 295, 34⟩) ⟨295, 15, 295, 34⟩) ⟨295, 8, 295, 34⟩)
    .nil) .nil ⟨294, 4, 295, 34⟩)
    (.cons (.ret (.bl true 0 ⟨296, 11, 296, 15⟩) ⟨296, 4, 296, 15⟩)
    .nil)))))))
def f27 : Fn := ⟨"_law_let", 4, ["shape", "i", "j", "size"], defScope (topS 47), ir27⟩
theorem irOk27 : ir27.ss = defBody (topS 47) := by rfl
end K27
set_option Elab.async false
set_option linter.all false
set_option maxRecDepth 1000000
set_option maxHeartbeats 0
/-! K27Tab: the tables. -/
namespace K27
open PySem PySem.Spec PyProof.Rows L2 MP He
def subs : List ((Str × Str) × Bool) := [(("OutOfRange", "BadPlace"), false), (("OutOfRange", "GapError"), true), (("OutOfRange", "OutOfRange"), true)]
def xfs : List (Str × Str) := [("OutOfRange", "value")]
def xcs : List (Str × List Str) := [("OutOfRange", ["value"])]
def fns : List Fn := [f0, f1, f2, f3, f4, f5, f6, f7, f8, f9, f10, f11, f12, f13, f14, f15, f16, f17, f18, f19, f20, f21, f22, f23, f24, f25, f26, f27]
def st : ST where
  T := mkTab fns subs xfs xcs
  tops := [(0, "law"), (1, "_law_range"), (2, "_law_draw"), (3, "_law_number"), (4, "settles"), (5, "_law_due"), (7, "_law_edge"), (8, "_law_worst"), (9, "_law_plain"), (10, "_law_whole"), (11, "dealt"), (12, "is_settled"), (13, "begun"), (14, "step_numbers"), (15, "common_degree"), (16, "need_grain"), (17, "_need_tied"), (18, "_need_symmetric"), (19, "_need_weights"), (20, "_need_square"), (21, "_law_spread"), (22, "_law_dealt"), (23, "_law_base"), (24, "_law_drawn"), (25, "stray_numbers"), (26, "_law_dot"), (27, "_law_let")]
  hots := [(10, "_law_whole")]
  cls := [("Web", 6)]
  attrs := [("Web", "_ties"), ("Web", "degrees"), ("Web", "rows"), ("Web", "size"), ("Web", "volume")]
  xcs := xcs
  blt := ["abs", "all", "bool", "enumerate", "int", "isinstance", "len", "max", "min", "range", "sum", "tuple", "zip"]
  gis := [("MOST_GRAIN", 1000000), ("MOST_PLACES", 40), ("MOST_STEPS_shares", 60), ("MOST_WEIGHT", 1000000000000000000000000000000)]
  exn := ["BadPlace", "GapError", "OutOfRange"]
  kws := [(4, 0, ["grain", "web"], [1, 0]), (4, 1, ["grain"], [0, 1])]
  math := [("lcm", "math.lcm")]
def d0 : DefD := ⟨("law", none), "law", "law", defArgs (topS 57), defBody (topS 57), defScope (topS 57), [], []⟩
def d1 : DefD := ⟨("_law_range", none), "_law_range", "_law_range", defArgs (topS 55), defBody (topS 55), defScope (topS 55), [], []⟩
def d2 : DefD := ⟨("_law_draw", none), "_law_draw", "_law_draw", defArgs (topS 43), defBody (topS 43), defScope (topS 43), [], []⟩
def d3 : DefD := ⟨("_law_number", none), "_law_number", "_law_number", defArgs (topS 45), defBody (topS 45), defScope (topS 45), [], []⟩
def d4 : DefD := ⟨("settles", none), "settles", "settles", defArgs (topS 41), defBody (topS 41), defScope (topS 41), [], []⟩
def d5 : DefD := ⟨("_law_due", none), "_law_due", "_law_due", defArgs (topS 53), defBody (topS 53), defScope (topS 53), [], []⟩
def d6 : DefD := ⟨("Web", some "__init__"), "__init__", "Web.__init__", defArgs (methS (topS 28) 0), defBody (methS (topS 28) 0), defScope (methS (topS 28) 0), [], []⟩
def d7 : DefD := ⟨("_law_edge", none), "_law_edge", "_law_edge", defArgs (topS 54), defBody (topS 54), defScope (topS 54), [], []⟩
def d8 : DefD := ⟨("_law_worst", none), "_law_worst", "_law_worst", defArgs (topS 52), defBody (topS 52), defScope (topS 52), [], []⟩
def d9 : DefD := ⟨("_law_plain", none), "_law_plain", "_law_plain", defArgs (topS 56), defBody (topS 56), defScope (topS 56), [], []⟩
def d10 : DefD := ⟨("_law_whole", none), "_law_whole", "_law_whole", defArgs (topS 44), defBody (topS 44), defScope (topS 44), [], []⟩
def d11 : DefD := ⟨("dealt", none), "dealt", "dealt", defArgs (topS 37), defBody (topS 37), defScope (topS 37), [], []⟩
def d12 : DefD := ⟨("is_settled", none), "is_settled", "is_settled", defArgs (topS 40), defBody (topS 40), defScope (topS 40), [], []⟩
def d13 : DefD := ⟨("begun", none), "begun", "begun", defArgs (topS 36), defBody (topS 36), defScope (topS 36), [], []⟩
def d14 : DefD := ⟨("step_numbers", none), "step_numbers", "step_numbers", defArgs (topS 35), defBody (topS 35), defScope (topS 35), [], []⟩
def d15 : DefD := ⟨("common_degree", none), "common_degree", "common_degree", defArgs (topS 34), defBody (topS 34), defScope (topS 34), [], []⟩
def d16 : DefD := ⟨("need_grain", none), "need_grain", "need_grain", defArgs (topS 14), defBody (topS 14), defScope (topS 14), [], []⟩
def d17 : DefD := ⟨("_need_tied", none), "_need_tied", "_need_tied", defArgs (topS 26), defBody (topS 26), defScope (topS 26), [], []⟩
def d18 : DefD := ⟨("_need_symmetric", none), "_need_symmetric", "_need_symmetric", defArgs (topS 25), defBody (topS 25), defScope (topS 25), [], []⟩
def d19 : DefD := ⟨("_need_weights", none), "_need_weights", "_need_weights", defArgs (topS 24), defBody (topS 24), defScope (topS 24), [], []⟩
def d20 : DefD := ⟨("_need_square", none), "_need_square", "_need_square", defArgs (topS 23), defBody (topS 23), defScope (topS 23), [], []⟩
def d21 : DefD := ⟨("_law_spread", none), "_law_spread", "_law_spread", defArgs (topS 51), defBody (topS 51), defScope (topS 51), [], []⟩
def d22 : DefD := ⟨("_law_dealt", none), "_law_dealt", "_law_dealt", defArgs (topS 50), defBody (topS 50), defScope (topS 50), [], []⟩
def d23 : DefD := ⟨("_law_base", none), "_law_base", "_law_base", defArgs (topS 49), defBody (topS 49), defScope (topS 49), [], []⟩
def d24 : DefD := ⟨("_law_drawn", none), "_law_drawn", "_law_drawn", defArgs (topS 48), defBody (topS 48), defScope (topS 48), [], []⟩
def d25 : DefD := ⟨("stray_numbers", none), "stray_numbers", "stray_numbers", defArgs (topS 39), defBody (topS 39), defScope (topS 39), [], []⟩
def d26 : DefD := ⟨("_law_dot", none), "_law_dot", "_law_dot", defArgs (topS 46), defBody (topS 46), defScope (topS 46), [], []⟩
def d27 : DefD := ⟨("_law_let", none), "_law_let", "_law_let", defArgs (topS 47), defBody (topS 47), defScope (topS 47), [], []⟩
def fn : List DefD := [d0, d1, d2, d3, d4, d5, d6, d7, d8, d9, d10, d11, d12, d13, d14, d15, d16, d17, d18, d19, d20, d21, d22, d23, d24, d25, d26, d27]
def x0 : DefD := ⟨("OutOfRange", some "__init__"), "__init__", "OutOfRange.__init__", defArgs (methS (topS 5) 0), defBody (methS (topS 5) 0), defScope (methS (topS 5) 0), [], []⟩
def xfn : List DefD := [x0]
theorem row0 : RowOk f0 d0 := ⟨irOk0.symm, rfl, rfl, rfl, ⟨rfl, rfl, rfl, by decide +kernel, by decide +kernel, by decide +kernel, by decide +kernel⟩, by decide +kernel, fun _ _ _ _ _ _ us hl => match us, hl with | [_], _ => rfl⟩
theorem row1 : RowOk f1 d1 := ⟨irOk1.symm, rfl, rfl, rfl, ⟨rfl, rfl, rfl, by decide +kernel, by decide +kernel, by decide +kernel, by decide +kernel⟩, by decide +kernel, fun _ _ _ _ _ _ us hl => match us, hl with | [_, _], _ => rfl⟩
theorem row2 : RowOk f2 d2 := ⟨irOk2.symm, rfl, rfl, rfl, ⟨rfl, rfl, rfl, by decide +kernel, by decide +kernel, by decide +kernel, by decide +kernel⟩, by decide +kernel, fun _ _ _ _ _ _ us hl => match us, hl with | [_, _], _ => rfl⟩
theorem row3 : RowOk f3 d3 := ⟨irOk3.symm, rfl, rfl, rfl, ⟨rfl, rfl, rfl, by decide +kernel, by decide +kernel, by decide +kernel, by decide +kernel⟩, by decide +kernel, fun _ _ _ _ _ _ us hl => match us, hl with | [_, _], _ => rfl⟩
theorem row4 : RowOk f4 d4 := ⟨irOk4.symm, rfl, rfl, rfl, ⟨rfl, rfl, rfl, by decide +kernel, by decide +kernel, by decide +kernel, by decide +kernel⟩, by decide +kernel, fun _ _ _ _ _ _ us hl => match us, hl with | [_, _], _ => rfl⟩
theorem row5 : RowOk f5 d5 := ⟨irOk5.symm, rfl, rfl, rfl, ⟨rfl, rfl, rfl, by decide +kernel, by decide +kernel, by decide +kernel, by decide +kernel⟩, by decide +kernel, fun _ _ _ _ _ _ us hl => match us, hl with | [_, _], _ => rfl⟩
theorem row6 : RowOk f6 d6 := ⟨irOk6.symm, rfl, rfl, rfl, ⟨rfl, rfl, rfl, by decide +kernel, by decide +kernel, by decide +kernel, by decide +kernel⟩, by decide +kernel, fun _ _ _ _ _ _ us hl => match us, hl with | [_, _], _ => rfl⟩
theorem row7 : RowOk f7 d7 := ⟨irOk7.symm, rfl, rfl, rfl, ⟨rfl, rfl, rfl, by decide +kernel, by decide +kernel, by decide +kernel, by decide +kernel⟩, by decide +kernel, fun _ _ _ _ _ _ us hl => match us, hl with | [_, _, _], _ => rfl⟩
theorem row8 : RowOk f8 d8 := ⟨irOk8.symm, rfl, rfl, rfl, ⟨rfl, rfl, rfl, by decide +kernel, by decide +kernel, by decide +kernel, by decide +kernel⟩, by decide +kernel, fun _ _ _ _ _ _ us hl => match us, hl with | [_], _ => rfl⟩
theorem row9 : RowOk f9 d9 := ⟨irOk9.symm, rfl, rfl, rfl, ⟨rfl, rfl, rfl, by decide +kernel, by decide +kernel, by decide +kernel, by decide +kernel⟩, by decide +kernel, fun _ _ _ _ _ _ us hl => match us, hl with | [_, _], _ => rfl⟩
theorem row10 : RowOk f10 d10 := ⟨irOk10.symm, rfl, rfl, rfl, ⟨rfl, rfl, rfl, by decide +kernel, by decide +kernel, by decide +kernel, by decide +kernel⟩, by decide +kernel, fun _ _ _ _ _ _ us hl => match us, hl with | [_], _ => rfl⟩
theorem row11 : RowOk f11 d11 := ⟨irOk11.symm, rfl, rfl, rfl, ⟨rfl, rfl, rfl, by decide +kernel, by decide +kernel, by decide +kernel, by decide +kernel⟩, by decide +kernel, fun _ _ _ _ _ _ us hl => match us, hl with | [_, _], _ => rfl⟩
theorem row12 : RowOk f12 d12 := ⟨irOk12.symm, rfl, rfl, rfl, ⟨rfl, rfl, rfl, by decide +kernel, by decide +kernel, by decide +kernel, by decide +kernel⟩, by decide +kernel, fun _ _ _ _ _ _ us hl => match us, hl with | [_, _, _, _], _ => rfl⟩
theorem row13 : RowOk f13 d13 := ⟨irOk13.symm, rfl, rfl, rfl, ⟨rfl, rfl, rfl, by decide +kernel, by decide +kernel, by decide +kernel, by decide +kernel⟩, by decide +kernel, fun _ _ _ _ _ _ us hl => match us, hl with | [_, _], _ => rfl⟩
theorem row14 : RowOk f14 d14 := ⟨irOk14.symm, rfl, rfl, rfl, ⟨rfl, rfl, rfl, by decide +kernel, by decide +kernel, by decide +kernel, by decide +kernel⟩, by decide +kernel, fun _ _ _ _ _ _ us hl => match us, hl with | [_], _ => rfl⟩
theorem row15 : RowOk f15 d15 := ⟨irOk15.symm, rfl, rfl, rfl, ⟨rfl, rfl, rfl, by decide +kernel, by decide +kernel, by decide +kernel, by decide +kernel⟩, by decide +kernel, fun _ _ _ _ _ _ us hl => match us, hl with | [_], _ => rfl⟩
theorem row16 : RowOk f16 d16 := ⟨irOk16.symm, rfl, rfl, rfl, ⟨rfl, rfl, rfl, by decide +kernel, by decide +kernel, by decide +kernel, by decide +kernel⟩, by decide +kernel, fun _ _ _ _ _ _ us hl => match us, hl with | [_], _ => rfl⟩
theorem row17 : RowOk f17 d17 := ⟨irOk17.symm, rfl, rfl, rfl, ⟨rfl, rfl, rfl, by decide +kernel, by decide +kernel, by decide +kernel, by decide +kernel⟩, by decide +kernel, fun _ _ _ _ _ _ us hl => match us, hl with | [_], _ => rfl⟩
theorem row18 : RowOk f18 d18 := ⟨irOk18.symm, rfl, rfl, rfl, ⟨rfl, rfl, rfl, by decide +kernel, by decide +kernel, by decide +kernel, by decide +kernel⟩, by decide +kernel, fun _ _ _ _ _ _ us hl => match us, hl with | [_], _ => rfl⟩
theorem row19 : RowOk f19 d19 := ⟨irOk19.symm, rfl, rfl, rfl, ⟨rfl, rfl, rfl, by decide +kernel, by decide +kernel, by decide +kernel, by decide +kernel⟩, by decide +kernel, fun _ _ _ _ _ _ us hl => match us, hl with | [_], _ => rfl⟩
theorem row20 : RowOk f20 d20 := ⟨irOk20.symm, rfl, rfl, rfl, ⟨rfl, rfl, rfl, by decide +kernel, by decide +kernel, by decide +kernel, by decide +kernel⟩, by decide +kernel, fun _ _ _ _ _ _ us hl => match us, hl with | [_], _ => rfl⟩
theorem row21 : RowOk f21 d21 := ⟨irOk21.symm, rfl, rfl, rfl, ⟨rfl, rfl, rfl, by decide +kernel, by decide +kernel, by decide +kernel, by decide +kernel⟩, by decide +kernel, fun _ _ _ _ _ _ us hl => match us, hl with | [_, _, _], _ => rfl⟩
theorem row22 : RowOk f22 d22 := ⟨irOk22.symm, rfl, rfl, rfl, ⟨rfl, rfl, rfl, by decide +kernel, by decide +kernel, by decide +kernel, by decide +kernel⟩, by decide +kernel, fun _ _ _ _ _ _ us hl => match us, hl with | [_, _, _], _ => rfl⟩
theorem row23 : RowOk f23 d23 := ⟨irOk23.symm, rfl, rfl, rfl, ⟨rfl, rfl, rfl, by decide +kernel, by decide +kernel, by decide +kernel, by decide +kernel⟩, by decide +kernel, fun _ _ _ _ _ _ us hl => match us, hl with | [_], _ => rfl⟩
theorem row24 : RowOk f24 d24 := ⟨irOk24.symm, rfl, rfl, rfl, ⟨rfl, rfl, rfl, by decide +kernel, by decide +kernel, by decide +kernel, by decide +kernel⟩, by decide +kernel, fun _ _ _ _ _ _ us hl => match us, hl with | [_, _, _], _ => rfl⟩
theorem row25 : RowOk f25 d25 := ⟨irOk25.symm, rfl, rfl, rfl, ⟨rfl, rfl, rfl, by decide +kernel, by decide +kernel, by decide +kernel, by decide +kernel⟩, by decide +kernel, fun _ _ _ _ _ _ us hl => match us, hl with | [_, _, _], _ => rfl⟩
theorem row26 : RowOk f26 d26 := ⟨irOk26.symm, rfl, rfl, rfl, ⟨rfl, rfl, rfl, by decide +kernel, by decide +kernel, by decide +kernel, by decide +kernel⟩, by decide +kernel, fun _ _ _ _ _ _ us hl => match us, hl with | [_, _], _ => rfl⟩
theorem row27 : RowOk f27 d27 := ⟨irOk27.symm, rfl, rfl, rfl, ⟨rfl, rfl, rfl, by decide +kernel, by decide +kernel, by decide +kernel, by decide +kernel⟩, by decide +kernel, fun _ _ _ _ _ _ us hl => match us, hl with | [_, _, _, _], _ => rfl⟩
theorem rows : RowsOk fns fn := .cons row0 (.cons row1 (.cons row2 (.cons row3 (.cons row4 (.cons row5 (.cons row6 (.cons row7 (.cons row8 (.cons row9 (.cons row10 (.cons row11 (.cons row12 (.cons row13 (.cons row14 (.cons row15 (.cons row16 (.cons row17 (.cons row18 (.cons row19 (.cons row20 (.cons row21 (.cons row22 (.cons row23 (.cons row24 (.cons row25 (.cons row26 (.cons row27 (.nil))))))))))))))))))))))))))))
theorem xrow0 : XRow ("OutOfRange", ["value"]) x0 := ⟨rfl, rfl, rfl, by decide, by decide +kernel, by decide, .cons rfl (.nil rfl), ⟨rfl, rfl, rfl, by decide +kernel, by decide +kernel, by decide +kernel, by decide +kernel⟩, by decide +kernel, by decide +kernel, fun _ _ _ _ _ _ us hl => match us, hl with | [_, _], _ => rfl⟩
theorem xrows : ∀ (i : Nat) q, st.xcs[i]? = some q → ∃ d, xfn[i]? = some d ∧ XRow q d := fun i q h => by
  match i, h with
  | 0, h => cases h; exact ⟨x0, rfl, xrow0⟩
  | i + 1, h => cases h
theorem ok0 : (fns.all fun F => okSs st ⟨F.N, F.sc, true⟩ F.body) = true := by decide +kernel
theorem kw0 : ∃ d F, fn[4]? = some d ∧ fns[4]? = some F ∧ ∀ (kV doc pm : Value) (an : Option Addr) (cdv ct : Value) (us ws zs : List Value), us.length = 0 → ws.length = 2 → (([1, 0] : List Nat).mapM fun i => (us ++ ws)[i]?) = some zs →
    bindArgs (PySem.W.fnOf d.name d.qual d.params d.body d.scope .none kV doc pm an cdv ct) ⟨us, (["grain", "web"] : List Str).zip ws⟩ = pure ((F.N.take F.np).zip zs) :=
  ⟨d4, f4, rfl, rfl, fun _ _ _ _ _ _ us ws zs l1 l2 e => match us, ws, l1, l2, e with | [], [w0, w1], _, _, e => by cases e; rfl⟩
theorem kw1 : ∃ d F, fn[4]? = some d ∧ fns[4]? = some F ∧ ∀ (kV doc pm : Value) (an : Option Addr) (cdv ct : Value) (us ws zs : List Value), us.length = 1 → ws.length = 1 → (([0, 1] : List Nat).mapM fun i => (us ++ ws)[i]?) = some zs →
    bindArgs (PySem.W.fnOf d.name d.qual d.params d.body d.scope .none kV doc pm an cdv ct) ⟨us, (["grain"] : List Str).zip ws⟩ = pure ((F.N.take F.np).zip zs) :=
  ⟨d4, f4, rfl, rfl, fun _ _ _ _ _ _ us ws zs l1 l2 e => match us, ws, l1, l2, e with | [u0], [w0], _, _, e => by cases e; rfl⟩
theorem stat : Stat st fns subs xfs fn xfn where
  T := rfl
  rows := rows
  xrows := xrows
  tops := tops_by (by decide +kernel)
  hots := by decide +kernel
  cls := cls_by (by decide +kernel)
  exn := exn_by (by decide +kernel)
  kws := fun q hq => by
    rcases List.mem_cons.mp hq with rfl | hq
    · exact kw0
    rcases List.mem_cons.mp hq with rfl | hq
    · exact kw1
    cases hq
  ok := ok0
  hot := hot_by (by decide +kernel)
end K27
set_option Elab.async false
set_option linter.all false
set_option maxRecDepth 100000
set_option maxHeartbeats 1000000
/-! K27A: what the defs compute, one by one. -/
namespace K27
open PySem PySem.Spec PyProof.Rows L2 MP
abbrev IL (ns : List Int) : D := .lst (ns.map D.int)
abbrev RL (ns : List Int) : R := .dat (IL ns)
abbrev RI (i : Int) : R := .dat (.int i)
abbrev RM (rows : List (List Int)) : R := .dat (.lst (rows.map IL))
variable {n : Nat} {S : Store}
theorem e_whole (i : Int) (h : WF S) : callN st.T (n + 1) 10 [RI i] S = .ok (.dat (.bl true)) S :=
  run_ret (F := f10) rfl rfl h (by simp [RetOk, f10, ir10, evSs, evS, evE, evEs, evKs, evAnd, evOr, evTs, M.bind, M.pure, SRes.of, getV, truB, optI, MP.start, isTR, tyR, isTy, cmpR, biR])
theorem e_number (told due : R) (b : Bool) (h : WF S) (hd : (∃ i j, told = RI i ∧ due = RI j ∧ b = decide (i = j)) ∨ (told = .dat .non ∧ due = .dat .non ∧ b = true)) : callN st.T (n + 2) 3 [told, due] S = .ok (.dat (.bl b)) S := by
  rcases hd with ⟨i, j, rfl, rfl, rfl⟩ | ⟨rfl, rfl, rfl⟩
  · have e : (st.T.C (n + 1)).fn 10 [RI i] S = .ok (.dat (.bl true)) S := e_whole (n := n) i h
    exact run_ret (F := f3) rfl rfl h (by simp [RetOk, f3, ir3, e, eqD, evSs, evS, evE, evEs, evKs, evAnd, evOr, evTs, M.bind, M.pure, SRes.of, getV, truB, optI, MP.start, isTR, tyR, isTy, cmpR, biR])
  · exact run_ret (F := f3) rfl rfl h (by simp [RetOk, f3, ir3, evSs, evS, evE, evEs, evKs, evAnd, evOr, evTs, M.bind, M.pure, SRes.of, getV, truB, optI, MP.start, isTR, tyR, isTy, cmpR, biR])
/-! ### sums -/
/-- the k-th of a row -/
def el (a : List Int) (k : Nat) : Int := a[k]?.getD 0
/-- f 0 + .. + f (n - 1) -/
def sm (n : Nat) (f : Nat → Int) : Int := ((List.range n).map f).sum
theorem el_at {a : List Int} {k : Nat} (h : k < a.length) : (a.map D.int)[k]? = some (.int (el a k)) := by
  unfold el
  rw [List.getElem?_map, List.getElem?_eq_getElem h]
  rfl
theorem el_mem {a : List Int} {k : Nat} (h : k < a.length) : el a k ∈ a := by
  unfold el
  rw [List.getElem?_eq_getElem h]
  exact List.getElem_mem _
theorem sum_rng {m : Bool} {k : Nat} {f : Nat → Int} : biR m .sum [.dat (.lst ((List.range k).map fun i => D.int (f i)))] S = .ok (RI (sm k f)) S := by
  have e : ((List.range k).map fun i => D.int (f i)) = ((List.range k).map f).map D.int := by rw [List.map_map]; rfl
  rw [e]
  exact sum_dat
theorem e_dot {a b : List Int} {k1 k2 : Nat} (hl : a.length = b.length) (hz : a.length ≤ 1000000) (ha : ∀ x ∈ a, Sm k1 x) (hb : ∀ x ∈ b, Sm k2 x) (hk : k1 + k2 ≤ 999999) (h : WF S) : callN st.T (n + 1) 26 [RL a, RL b] S = .ok (RI (sm a.length fun k => el a k * el b k)) S := by
  have e : evE (st.T.C n).toCalls e26_0 [some (RL a), some (RL b), none] S = .ok (.dat (.lst ((List.range a.length).map fun k => D.int (el a k * el b k)))) S := by
    refine lc_rng (lo := 0) (n := a.length) (ii_rng1 (n := a.length) (by simp [evSs, evS, evE, evEs, evKs, evAnd, evOr, evTs, M.bind, M.pure, SRes.of, getV, truB, optI, MP.start, isTR, tyR, isTy, cmpR, biR, itemsR]) hz) (fun k hk' => ?_) hz
    have h1 := ix_nat (S := S) (el_at hk')
    have h2 := ix_nat (S := S) (el_at (a := b) (by omega : k < b.length))
    have hm : mulOk (el a k) (el b k) = true := mulOk_of (ha _ (el_mem hk')) (hb _ (el_mem (by omega))) hk
    simp [wipeE, evSs, evS, evE, evEs, evKs, evAnd, evOr, evTs, M.bind, M.pure, SRes.of, getV, truB, optI, MP.start, isTR, tyR, isTy, cmpR, biR, h1, h2, binR, hm]
  refine run_ret (F := f26) rfl rfl h ?_
  have e2 := sum_rng (m := false) (S := S) (k := a.length) (f := fun k => el a k * el b k)
  simp only [f26, ir26, evSs, evS, evE, evEs, M.bind, M.pure, SRes.of, MP.start]
  simp [e, e2, RetOk, SRes.of]
/-! ### the law's base, spread -/
def ps (rows : List (List Int)) : Int := rows.foldl (fun t r => t * r.sum) 1
theorem ps_take {rows : List (List Int)} {i : Nat} {r : List Int} (h : rows[i]? = some r) : ps (rows.take (i + 1)) = ps (rows.take i) * r.sum := by
  unfold ps
  rw [List.take_add_one, h, List.foldl_append]
  rfl
theorem ps_sm {k : Nat} {rows : List (List Int)} (hs : ∀ r ∈ rows, Sm k r.sum) : ∀ i, i ≤ rows.length → Sm (1 + k * i) (ps (rows.take i))
  | 0, _ => by show (1 : Int).natAbs < 2 ^ (1 + k * 0); rw [Nat.mul_zero]; decide
  | i + 1, hi => by
    have hr : rows[i]? = some rows[i] := List.getElem?_eq_getElem (by omega)
    rw [ps_take hr]
    exact ((ps_sm hs i (by omega)).mul (hs _ (List.getElem_mem _))).mono (by rw [Nat.mul_succ]; omega)
theorem e_base {rows : List (List Int)} {k : Nat} (hs : ∀ r ∈ rows, Sm k r.sum) (hk : 1 + k * rows.length ≤ 999999) (h : WF S) : callN st.T (n + 1) 23 [RM rows] S = .ok (RI (ps rows)) S := by
  have hfor : ∀ p1 p2 p3, ∃ y, evS (st.T.C n) (.for_ (.one 2 "row" p1) (.of (.var 0 "rows" p2)) b23_0 p3) [some (RM rows), some (RI 1), none] S = .go .next [some (RM rows), some (RI (ps rows)), y] S := by
    intro p1 p2 p3
    have hi : evII (st.T.C n).toCalls (.of (.var 0 "rows" p2)) [some (RM rows), some (RI 1), none] S = .ok (((rows.map IL).map R.dat).map .one, []) S := ii_of (by simp [evSs, evS, evE, evEs, evKs, evAnd, evOr, evTs, M.bind, M.pure, SRes.of, getV, truB, optI, MP.start, isTR, tyR, isTy, cmpR, biR])
    obtain ⟨ρ', S', h1, h2, _, y, h3⟩ := for_ind (t := .one 2 "row" p1) (g := []) (b := fun ρ' S' => evSs (st.T.C n) b23_0 ρ' S') (fun i ρ S' => S' = S ∧ i ≤ rows.length ∧ ∃ y, ρ = [some (RM rows), some (RI (ps (rows.take i))), y]) (((rows.map IL).map R.dat).map .one) 0 [some (RM rows), some (RI 1), none] S ⟨rfl, Nat.zero_le _, none, rfl⟩ (fun _ _ _ _ => gd_nil) (by
      intro i x ρ S1 hx ⟨e1, e2, y, e3⟩
      subst e1 e3
      rw [List.getElem?_map, List.getElem?_map, List.getElem?_map] at hx
      cases hr : rows[i]? with
      | none => rw [hr] at hx; cases hx
      | some r =>
        rw [hr] at hx
        cases hx
        have hl := (List.getElem?_eq_some_iff.mp hr).1
        have hm : mulOk (ps (rows.take i)) r.sum = true := mulOk_of (ps_sm hs i (by omega)) (hs r (List.mem_of_getElem? hr)) (by
          have : k * i + k ≤ k * rows.length := by rw [← Nat.mul_succ]; exact Nat.mul_le_mul_left k hl
          omega)
        have e4 := sum_dat (m := false) (ns := r) (S := S1)
        refine ⟨_, rfl, [some (RM rows), some (RI (ps (rows.take (i + 1)))), some (RL r)], S1, ?_, rfl, by omega, _, by rw [Nat.zero_add]⟩
        rw [ps_take hr]
        simp only [Nat.zero_add] at hm ⊢
        simp only [b23_0, evSs, evS, evE, evEs, M.bind, M.pure, SRes.of]
        simp [getV, e4, binR, hm, SRes.of, bindT, M.bind, M.pure])
    subst h2 h3
    have e : (0 : Nat) + (((rows.map IL).map R.dat).map Itm.one).length = rows.length := by simp
    rw [e, List.take_length] at h1
    exact ⟨y, by rw [r_for hi]; exact h1⟩
  refine run_ret (F := f23) rfl rfl h ?_
  refine p_asg (RI 1) rfl (p_next (hfor _ _ _).choose_spec (p_ret rfl))
/-- the sums of the rows -/
theorem e_sums {C : Calls} {m : Bool} {a : IE} {i : Nat} {own : List (Str × Nat)} {sc : Scope} {x : Str} {p1 p2 p3 p4 p5 : Pos} {ρ : MP.Env} {rows : List (List Int)} (h : evE C a ρ S = .ok (RM rows) S) (hi : i < ρ.length) (hz : rows.length ≤ 1000000) :
    evE C (.lc false (.bi m .sum (.var i x p1) .nil p2 p3) (.one i x p4) (.of a) .nil own sc p5) ρ S = .ok (RL (rows.map List.sum)) S := by
  have q := lc_lst (C := C) (e := .bi m .sum (.var i x p1) .nil p2 p3) (i := i) (x := x) (px := p4) (it := .of a) (own := own) (sc := sc) (p := p5) (ρ := ρ) (S := S) (l := rows.map IL) (gd := []) (g := fun d => match d with
    | .lst l => (match intsR (l.map R.dat) with
      | some ns => .int ns.sum
      | none => .non)
    | _ => .non) (ii_of h) gd_nil (fun d hd => by
      obtain ⟨r, hr, e⟩ := List.mem_map.mp hd
      subst e
      have e4 := sum_dat (m := m) (ns := r) (S := S)
      have e5 : intsR ((r.map D.int).map R.dat) = some r := by
        rw [List.map_map]
        exact intsR_map r
      have hl : i < (wipeE ρ (own.map (·.2))).length := by
        have : ∀ vs : List Nat, (wipeE ρ vs).length = ρ.length := fun vs => by
          induction vs with
          | nil => rfl
          | cons v vs ih => show ((wipeE ρ vs).set v none).length = _; rw [List.length_set, ih]
        rw [this]
        exact hi
      have eg : getV ((wipeE ρ (own.map (·.2))).set i (some (RL r))) i = M.pure (RL r) := by
        unfold getV
        rw [List.getElem?_set_self hl]
      show M.bind (getV ((wipeE ρ (own.map (·.2))).set i (some (RL r))) i) (fun x => M.bind (M.pure []) fun xs => biR m .sum (x :: xs)) S = _
      rw [eg]
      show biR m .sum [RL r] S = _
      rw [e4]
      simp only [e5]) (by rw [List.length_map]; exact hz)
  rw [q, List.map_map]
  have e : (rows.map ((fun d => match d with
    | D.lst l => (match intsR (l.map R.dat) with
      | some ns => D.int ns.sum
      | none => .non)
    | _ => .non) ∘ IL)) = (rows.map List.sum).map D.int := by
    rw [List.map_map]
    refine List.map_congr_left fun r _ => ?_
    have e5 : intsR ((r.map D.int).map R.dat) = some r := by
      rw [List.map_map]
      exact intsR_map r
    show (match intsR ((r.map D.int).map R.dat) with
      | some ns => D.int ns.sum
      | none => .non) = _
    rw [e5]
    rfl
  rw [e]
theorem sm_zero (f : Nat → Int) : sm 0 f = 0 := rfl
theorem sm_succ (n : Nat) (f : Nat → Int) : sm (n + 1) f = sm n f + f n := by
  unfold sm
  rw [List.range_succ, List.map_append, List.sum_append]
  simp
theorem sm_congr {n : Nat} {f g : Nat → Int} (h : ∀ k, k < n → f k = g k) : sm n f = sm n g := by
  unfold sm
  congr 1
  exact List.map_congr_left fun k hk => h k (List.mem_range.mp hk)
theorem sm_abs {a : Nat} {f : Nat → Int} : ∀ n, (∀ k, k < n → Sm a (f k)) → (sm n f).natAbs ≤ n * 2 ^ a
  | 0, _ => by rw [sm_zero]; simp
  | n + 1, h => by
    rw [sm_succ, Nat.succ_mul]
    have h1 := sm_abs n fun k hk => h k (by omega)
    have h2 : (f n).natAbs < 2 ^ a := h n (by omega)
    have h3 := Int.natAbs_add_le (sm n f) (f n)
    omega
/-- at most 15 of them -/
theorem sm_sm {a n : Nat} {f : Nat → Int} (h : ∀ k, k < n → Sm a (f k)) (hn : n ≤ 15) : Sm (a + 4) (sm n f) := by
  have h1 := sm_abs n h
  have h2 : 0 < 2 ^ a := Nat.pow_pos (by decide)
  show (sm n f).natAbs < 2 ^ (a + 4)
  rw [Nat.pow_add]
  have h3 : n * 2 ^ a ≤ 15 * 2 ^ a := Nat.mul_le_mul_right _ hn
  omega
theorem e_spread {rows : List (List Int)} {tops parts : List Int} {kt kp kv : Nat} (h1 : tops.length = rows.length) (h2 : parts.length = rows.length) (hn : rows.length ≤ 15) (ht : ∀ x ∈ tops, Sm kt x) (hp : ∀ x ∈ parts, Sm kp x) (hv : Sm kv (rows.map List.sum).sum)
    (hk : kt + kt + kp + 4 + kv ≤ 999999) (h : WF S) : callN st.T (n + 1) 21 [RM rows, RL tops, RL parts] S = .ok (RI ((rows.map List.sum).sum * sm rows.length fun j => el tops j * el tops j * el parts j)) S := by
  have e1 : evE (st.T.C n).toCalls e21_1 [some (RM rows), some (RL tops), some (RL parts), none, none, none] S = .ok (.dat (.lst ((List.range rows.length).map fun j => D.int (el tops j * el tops j * el parts j)))) S := by
    refine lc_rng (lo := 0) (n := rows.length) (ii_rng1 (n := rows.length) (by simp [evSs, evS, evE, evEs, evKs, evAnd, evOr, evTs, M.bind, M.pure, SRes.of, getV, truB, optI, MP.start, isTR, tyR, isTy, cmpR, biR, itemsR]) (by omega)) (fun k hk' => ?_) (by omega)
    have q1 := ix_nat (S := S) (el_at (a := tops) (by omega : k < tops.length))
    have q2 := ix_nat (S := S) (el_at (a := parts) (by omega : k < parts.length))
    have s1 := ht _ (el_mem (a := tops) (by omega : k < tops.length))
    have s2 := hp _ (el_mem (a := parts) (by omega : k < parts.length))
    have m1 : mulOk (el tops k) (el tops k) = true := mulOk_of s1 s1 (by omega)
    have m2 : mulOk (el tops k * el tops k) (el parts k) = true := mulOk_of (s1.mul s1) s2 (by omega)
    simp [wipeE, evSs, evS, evE, evEs, evKs, evAnd, evOr, evTs, M.bind, M.pure, SRes.of, getV, truB, optI, MP.start, isTR, tyR, isTy, cmpR, biR, q1, q2, binR, m1, m2]
  have st1 : Sm (kt + kt + kp + 4) (sm rows.length fun j => el tops j * el tops j * el parts j) := sm_sm (fun k hk' => ((ht _ (el_mem (by omega))).mul (ht _ (el_mem (by omega)))).mul (hp _ (el_mem (by omega)))) hn
  have m3 : mulOk (rows.map List.sum).sum (sm rows.length fun j => el tops j * el tops j * el parts j) = true := mulOk_of hv st1 (by omega)
  have e2 : evE (st.T.C n).toCalls e21_0 [some (RM rows), some (RL tops), some (RL parts), some (.dat (.lst ((List.range rows.length).map fun j => D.int (el tops j * el tops j * el parts j)))), none, none] S = .ok (RL (rows.map List.sum)) S := e_sums rfl (show 4 < 6 by decide) (by omega)
  refine run_ret (F := f21) rfl rfl h ?_
  refine p_asg _ e1 (p_ret ?_)
  have q3 := sum_dat (m := false) (ns := rows.map List.sum) (S := S)
  have q4 := sum_rng (m := false) (S := S) (k := rows.length) (f := fun j => el tops j * el tops j * el parts j)
  have e3 : List.set (MP.start f21 [RM rows, RL tops, RL parts]) 3 (some (R.dat (D.lst ((List.range rows.length).map fun j => D.int (el tops j * el tops j * el parts j))))) = [some (RM rows), some (RL tops), some (RL parts), some (.dat (.lst ((List.range rows.length).map fun j => D.int (el tops j * el tops j * el parts j)))), none, none] := rfl
  rw [e3]
  simp only [evE, evEs, M.bind, M.pure]
  simp [e2, q3, q4, getV, binR, m3, M.pure]
/-- grow // sum(row) for each row -/
theorem e_parts {C : Calls} {m : Bool} {gi i ri : Nat} {own : List (Str × Nat)} {sc : Scope} {x xg xr' : Str} {p1 p2 p3 p4 p5 p6 p7 p8 : Pos} {ρ : MP.Env} {rows : List (List Int)} {g : Int} (hr : ρ[ri]? = some (some (RM rows))) (hg : ρ[gi]? = some (some (RI g))) (hne : gi ≠ i) (hi : i < ρ.length) (hown : own.map (·.2) = [i]) (hz : rows.length ≤ 1000000)
    (hd : ∀ r ∈ rows, divOk r.sum = true) :
    evE C (.lc false (.bin m .fdiv (.var gi xg p1) (.bi m .sum (.var i x p2) .nil p3 p4) p5) (.one i x p6) (.of (.var ri xr' p7)) .nil own sc p8) ρ S = .ok (RL (rows.map fun r => g / r.sum)) S := by
  have hrr : evE C (.var ri xr' p7) ρ S = .ok (.dat (.lst (rows.map IL))) S := by
    show getV ρ ri S = _
    unfold getV
    rw [hr]
    rfl
  have gs : ∀ r : List Int, intsR ((r.map D.int).map R.dat) = some r := fun r => by
    rw [List.map_map]
    exact intsR_map r
  have q := lc_lst (C := C) (e := .bin m .fdiv (.var gi xg p1) (.bi m .sum (.var i x p2) .nil p3 p4) p5) (i := i) (x := x) (px := p6) (it := .of (.var ri xr' p7)) (own := own) (sc := sc) (p := p8) (ρ := ρ) (S := S) (l := rows.map IL) (gd := []) (g := fun d => match d with
    | .lst l => (match intsR (l.map R.dat) with
      | some ns => .int (g / ns.sum)
      | none => .non)
    | _ => .non) (ii_of hrr) gd_nil (fun d hd' => by
      obtain ⟨r, hr', e⟩ := List.mem_map.mp hd'
      subst e
      have e4 := sum_dat (m := m) (ns := r) (S := S)
      rw [hown]
      show M.bind (getV ((ρ.set i none).set i (some (RL r))) gi) (fun a => M.bind (M.bind (getV ((ρ.set i none).set i (some (RL r))) i) (fun x => M.bind (M.pure []) fun xs => biR m .sum (x :: xs))) fun b => binR m .fdiv a b) S = _
      have eg : getV ((ρ.set i none).set i (some (RL r))) i = M.pure (RL r) := by
        unfold getV
        rw [List.getElem?_set_self (by rw [List.length_set]; exact hi)]
      have eg2 : getV ((ρ.set i none).set i (some (RL r))) gi = M.pure (RI g) := by
        unfold getV
        rw [List.getElem?_set_ne hne.symm, List.getElem?_set_ne hne.symm, hg]
      rw [eg, eg2]
      simp only [M.bind, M.pure, e4, binR, hd r hr', if_pos, gs]) (by rw [List.length_map]; exact hz)
  rw [q, List.map_map]
  have e : (rows.map ((fun d => match d with
    | D.lst l => (match intsR (l.map R.dat) with
      | some ns => D.int (g / ns.sum)
      | none => .non)
    | _ => .non) ∘ IL)) = (rows.map fun r => g / r.sum).map D.int := by
    rw [List.map_map]
    refine List.map_congr_left fun r _ => ?_
    show (match intsR ((r.map D.int).map R.dat) with
      | some ns => D.int (g / ns.sum)
      | none => .non) = _
    rw [gs]
    rfl
  rw [e]
/-! ### the law's walk -/
def row (rows : List (List Int)) (j : Nat) : List Int := rows[j]?.getD []
theorem row_at {rows : List (List Int)} {k : Nat} (h : k < rows.length) : (rows.map IL)[k]? = some (IL (row rows k)) := by
  unfold row
  rw [List.getElem?_map, List.getElem?_eq_getElem h]
  rfl
theorem row_mem {rows : List (List Int)} {k : Nat} (h : k < rows.length) : row rows k ∈ rows := by
  unfold row
  rw [List.getElem?_eq_getElem h]
  exact List.getElem_mem _
def lawDeal (rows : List (List Int)) (parts t : List Int) : List Int := (List.range rows.length).map fun i => el t i * el parts i
def lawStep (rows : List (List Int)) (parts t : List Int) : List Int := (List.range rows.length).map fun j => sm rows.length fun k => el (row rows j) k * el (lawDeal rows parts t) k
def unit (n b : Nat) : List Int := (List.range n).map fun j => if j = b then 1 else 0
def lawWalk (rows : List (List Int)) (parts : List Int) (b : Nat) : Nat → List Int
  | 0 => unit rows.length b
  | k + 1 => lawStep rows parts (lawWalk rows parts b k)
theorem el_map {n : Nat} {f : Nat → Int} {k : Nat} (h : k < n) : el ((List.range n).map f) k = f k := by
  unfold el
  rw [List.getElem?_map, List.getElem?_range h]
  rfl
theorem lw_len (rows : List (List Int)) (parts : List Int) (b : Nat) : ∀ k, (lawWalk rows parts b k).length = rows.length
  | 0 => by show ((List.range rows.length).map _).length = _; simp
  | k + 1 => by show ((List.range rows.length).map _).length = _; simp
theorem mem_rng {n : Nat} {f : Nat → Int} {x : Int} (h : x ∈ (List.range n).map f) : ∃ k, k < n ∧ x = f k := by
  obtain ⟨k, hk, e⟩ := List.mem_map.mp h
  exact ⟨k, List.mem_range.mp hk, e.symm⟩
theorem lw_sm {rows : List (List Int)} {parts : List Int} {b kw kp : Nat} (hn : rows.length ≤ 15) (hl : ∀ r ∈ rows, r.length = rows.length) (hp : parts.length = rows.length) (hw : ∀ r ∈ rows, ∀ x ∈ r, Sm kw x) (hpp : ∀ x ∈ parts, Sm kp x) : ∀ k, ∀ x ∈ lawWalk rows parts b k, Sm (1 + (kw + kp + 4) * k) x
  | 0, x, hx => by
    obtain ⟨j, _, e⟩ := mem_rng (show x ∈ (List.range rows.length).map _ from hx)
    subst e
    show (if j = b then (1 : Int) else 0).natAbs < 2 ^ (1 + (kw + kp + 4) * 0)
    rw [Nat.mul_zero]
    split <;> decide
  | k + 1, x, hx => by
    obtain ⟨j, hj, e⟩ := mem_rng (show x ∈ (List.range rows.length).map _ from hx)
    subst e
    have ih := lw_sm hn hl hp hw hpp (b := b) k
    refine (sm_sm (a := kw + (1 + (kw + kp + 4) * k + kp)) (fun i hi => ?_) hn).mono (by rw [Nat.mul_succ]; omega)
    refine (hw _ (row_mem hj) _ (el_mem (by rw [hl _ (row_mem hj)]; exact hi))).mul ?_
    unfold lawDeal
    rw [el_map hi]
    exact (ih _ (el_mem (by rw [lw_len]; exact hi))).mul (hpp _ (el_mem (by omega)))
/-- the entries of the law's told list -/
def wkD (rows : List (List Int)) (parts : List Int) (b k : Nat) : List D := (List.range k).map fun i => IL (lawWalk rows parts b i)
end K27
set_option Elab.async false
set_option linter.all false
set_option maxRecDepth 100000
set_option maxHeartbeats 1000000
/-! K27B: the law's walks. -/
namespace K27
open PySem PySem.Spec PyProof.Rows L2 MP
variable {n : Nat} {S : Store}
/-- what is asked of the rows -/
structure Good (rows : List (List Int)) (kw kv kp : Nat) : Prop where
  le : rows.length ≤ 15
  sq : ∀ r ∈ rows, r.length = rows.length
  w : ∀ r ∈ rows, ∀ x ∈ r, Sm kw x
  v : ∀ r ∈ rows, Sm kv r.sum
  d : ∀ r ∈ rows, divOk r.sum = true
  p : ∀ r ∈ rows, Sm kp (ps rows / r.sum)
  b1 : 1 + kv * rows.length ≤ 999999
  b2 : kw + (1 + (kw + kp + 4) * 61 + kp) ≤ 999999
  b3 : 2 * (1 + (kw + kp + 4) * 61) + kp + 4 + (kv + 4) ≤ 999999
  b4 : (1 + kv * rows.length) * 130 ≤ 999999
  ne : 0 < rows.length
def prt (rows : List (List Int)) : List Int := rows.map fun r => ps rows / r.sum
section
variable {rows : List (List Int)} {kw kv kp : Nat}
theorem Good.pl (g : Good rows kw kv kp) : (prt rows).length = rows.length := by unfold prt; rw [List.length_map]
theorem Good.pp (g : Good rows kw kv kp) : ∀ x ∈ prt rows, Sm kp x := fun x hx => by
  obtain ⟨r, hr, e⟩ := List.mem_map.mp hx
  rw [← e]
  exact g.p r hr
abbrev W (rows : List (List Int)) (b k : Nat) : List Int := lawWalk rows (prt rows) b k
theorem Good.ws (g : Good rows kw kv kp) (b k : Nat) : ∀ x ∈ W rows b k, Sm (1 + (kw + kp + 4) * k) x := lw_sm g.le g.sq g.pl g.w g.pp k
theorem e_deal (g : Good rows kw kv kp) {b t : Nat} (ht : t ≤ 60) {k0 : Nat} {rs : List R} (hk : S[k0]? = some (.lst rs)) (hr : rs[t]? = some (RL (W rows b t))) (a1 a2 a8 a9 a10 a11 : Option R) :
    evE (st.T.C n).toCalls e22_1 [some (RM rows), a1, a2, some (RI rows.length), some (RI (ps rows)), some (RL (prt rows)), some (.own k0), some (RI (t : Int)), a8, a9, a10, a11] S = .ok (RL (lawDeal rows (prt rows) (W rows b t))) S := by
  have e : lawDeal rows (prt rows) (W rows b t) = (List.range rows.length).map fun i => el (W rows b t) i * el (prt rows) i := rfl
  have e2 : RL (lawDeal rows (prt rows) (W rows b t)) = .dat (.lst ((List.range rows.length).map fun i => D.int (el (W rows b t) i * el (prt rows) i))) := by
    rw [e]
    show R.dat (.lst (List.map D.int _)) = _
    rw [List.map_map]
    rfl
  rw [e2]
  have hz := g.le
  refine lc_rng (lo := 0) (n := rows.length) (ii_rng1 (n := rows.length) (by simp [evSs, evS, evE, evEs, evKs, evAnd, evOr, evTs, M.bind, M.pure, SRes.of, getV, truB, optI, MP.start, isTR, tyR, isTy, cmpR, biR]) (by omega)) (fun k hk' => ?_) (by omega)
  have q0 := ix_own (S := S) hk hr
  have q1 := ix_nat (S := S) (el_at (a := W rows b t) (k := k) (by rw [lw_len]; exact hk'))
  have q2 := ix_nat (S := S) (el_at (a := prt rows) (k := k) (by rw [g.pl]; exact hk'))
  have m1 : mulOk (el (W rows b t) k) (el (prt rows) k) = true := mulOk_of (g.ws b t _ (el_mem (by rw [lw_len]; exact hk'))) (g.pp _ (el_mem (by rw [g.pl]; exact hk'))) (by
    have := g.b2
    have : (kw + kp + 4) * t ≤ (kw + kp + 4) * 61 := Nat.mul_le_mul_left _ (by omega)
    omega)
  simp [wipeE, evSs, evS, evE, evEs, evKs, evAnd, evOr, evTs, M.bind, M.pure, SRes.of, getV, truB, optI, MP.start, isTR, tyR, isTy, cmpR, biR, q0, q1, q2, binR, m1]
theorem e_next (g : Good rows kw kv kp) (h : WF S) {b t : Nat} (ht : t ≤ 60) (a1 a2 a4 a5 a6 a7 a9 a10 a11 : Option R) :
    evE (st.T.C (n + 1)).toCalls e22_0 [some (RM rows), a1, a2, some (RI rows.length), a4, a5, a6, a7, some (RL (lawDeal rows (prt rows) (W rows b t))), a9, a10, a11] S = .ok (RL (W rows b (t + 1))) S := by
  have e2 : RL (W rows b (t + 1)) = .dat (.lst ((List.range rows.length).map fun j => D.int (sm rows.length fun k => el (row rows j) k * el (lawDeal rows (prt rows) (W rows b t)) k))) := by
    show R.dat (.lst (List.map D.int (List.map _ _))) = _
    rw [List.map_map]
    rfl
  rw [e2]
  have hz := g.le
  refine lc_rng (lo := 0) (n := rows.length) (ii_rng1 (n := rows.length) (by simp [evSs, evS, evE, evEs, evKs, evAnd, evOr, evTs, M.bind, M.pure, SRes.of, getV, truB, optI, MP.start, isTR, tyR, isTy, cmpR, biR]) (by omega)) (fun k hk' => ?_) (by omega)
  have q0 := ix_nat (S := S) (row_at hk')
  have hl := g.sq _ (row_mem hk')
  have q1 : callN st.T (n + 1) 26 [RL (row rows k), RL (lawDeal rows (prt rows) (W rows b t))] S = .ok (RI (sm rows.length fun i => el (row rows k) i * el (lawDeal rows (prt rows) (W rows b t)) i)) S := by
    have q := e_dot (n := n) (S := S) (a := row rows k) (b := lawDeal rows (prt rows) (W rows b t)) (k1 := kw) (k2 := 1 + (kw + kp + 4) * t + kp) (by rw [hl]; unfold lawDeal; simp) (by omega) (g.w _ (row_mem hk')) (fun x hx => by
      obtain ⟨i, hi, e⟩ := mem_rng (show x ∈ (List.range rows.length).map _ from hx)
      subst e
      exact (g.ws b t _ (el_mem (by rw [lw_len]; exact hi))).mul (g.pp _ (el_mem (by rw [g.pl]; exact hi)))) (by
        have := g.b2
        have : (kw + kp + 4) * t ≤ (kw + kp + 4) * 61 := Nat.mul_le_mul_left _ (by omega)
        omega) h
    rw [hl] at q
    exact q
  have q2 : (st.T.C (n + 1)).toCalls.fn 26 = callN st.T (n + 1) 26 := rfl
  simp [wipeE, evSs, evS, evE, evEs, evKs, evAnd, evOr, evTs, M.bind, M.pure, SRes.of, getV, truB, optI, MP.start, isTR, tyR, isTy, cmpR, biR, q0, q1, q2]
theorem e_unit (hz : rows.length ≤ 1000000) {b : Nat} (a0 a2 a4 a5 a6 a7 a8 a9 a10 a11 : Option R) :
    evE (st.T.C n).toCalls e22_3 [a0, some (RI b), a2, some (RI rows.length), a4, a5, a6, a7, a8, a9, a10, a11] S = .ok (RL (unit rows.length b)) S := by
  have e2 : RL (unit rows.length b) = .dat (.lst ((List.range rows.length).map fun (j : Nat) => D.int (if j = b then 1 else 0))) := by
    show R.dat (.lst (List.map D.int (List.map _ _))) = _
    rw [List.map_map]
    rfl
  rw [e2]
  refine lc_rng (lo := 0) (n := rows.length) (ii_rng1 (n := rows.length) (by simp [evSs, evS, evE, evEs, evKs, evAnd, evOr, evTs, M.bind, M.pure, SRes.of, getV, truB, optI, MP.start, isTR, tyR, isTy, cmpR, biR]) hz) (fun k hk' => ?_) hz
  by_cases hb : k = b
  · subst hb
    simp [wipeE, evSs, evS, evE, evEs, evKs, evAnd, evOr, evTs, M.bind, M.pure, SRes.of, getV, truB, optI, MP.start, isTR, tyR, isTy, cmpR, biR, eqD]
  · have hb' : ¬ (k : Int) = (b : Int) := fun z => hb (by omega)
    simp [wipeE, evSs, evS, evE, evEs, evKs, evAnd, evOr, evTs, M.bind, M.pure, SRes.of, getV, truB, optI, MP.start, isTR, tyR, isTy, cmpR, biR, eqD, hb, hb']
/-- _law_dealt -/
theorem e_dealt (g : Good rows kw kv kp) (h : WF S) {b many : Nat} (hm : many ≤ 60) : callN st.T (n + 2) 22 [RM rows, RI b, RI many] S = .ok (.dat (.lst (wkD rows (prt rows) b (many + 1)))) S := by
  have hz := g.le
  have hS1 : (S ++ [Cell.lst [RL (unit rows.length b)]])[S.length]? = some (.lst [RL (unit rows.length b)]) := by simp
  have hcell : ∀ t, (S ++ [Cell.lst ((wkD rows (prt rows) b t).map R.dat)])[S.length]? = some (.lst ((wkD rows (prt rows) b t).map R.dat)) := fun t => by simp
  have hwf : ∀ t, WF (S ++ [Cell.lst ((wkD rows (prt rows) b t).map R.dat)]) := fun t => wf_push h (below_dats _)
  have hwk : ∀ t, ((wkD rows (prt rows) b (t + 1)).map R.dat)[t]? = some (RL (W rows b t)) := fun t => by
    unfold wkD
    rw [List.getElem?_map, List.getElem?_map, List.getElem?_range (by omega)]
    rfl
  have hwk2 : ∀ t, wkD rows (prt rows) b (t + 1) = wkD rows (prt rows) b t ++ [IL (W rows b t)] := fun t => by
    unfold wkD
    rw [List.range_succ, List.map_append]
    rfl
  have hfor : ∀ p1 p2 p3 p4 p5, ∃ a7 a8, evS (st.T.C (n + 1)) (.for_ (.one 7 "turn" p1) (.rng1 (.var 2 "many" p2) p3 p4) b22_2 p5) [some (RM rows), some (RI b), some (RI many), some (RI rows.length), some (RI (ps rows)), some (RL (prt rows)), some (.own S.length), none, none, none, none, none] (S ++ [Cell.lst ((wkD rows (prt rows) b 1).map R.dat)]) =
      .go .next [some (RM rows), some (RI b), some (RI many), some (RI rows.length), some (RI (ps rows)), some (RL (prt rows)), some (.own S.length), a7, a8, none, none, none] (S ++ [Cell.lst ((wkD rows (prt rows) b (many + 1)).map R.dat)]) := by
    intro p1 p2 p3 p4 p5
    have hi : evII (st.T.C (n + 1)).toCalls (.rng1 (.var 2 "many" p2) p3 p4) [some (RM rows), some (RI b), some (RI many), some (RI rows.length), some (RI (ps rows)), some (RL (prt rows)), some (.own S.length), none, none, none, none, none] (S ++ [Cell.lst ((wkD rows (prt rows) b 1).map R.dat)]) = .ok (rngI 0 many, []) (S ++ [Cell.lst ((wkD rows (prt rows) b 1).map R.dat)]) := ii_rng1 (by simp [evSs, evS, evE, evEs, evKs, evAnd, evOr, evTs, M.bind, M.pure, SRes.of, getV, truB, optI, MP.start, isTR, tyR, isTy, cmpR, biR]) (by omega)
    obtain ⟨ρ', S', h1, a7, a8, h2, h3⟩ := for_ind (t := .one 7 "turn" p1) (g := []) (b := fun ρ' S' => evSs (st.T.C (n + 1)) b22_2 ρ' S') (fun t ρ S' => ∃ a7 a8, S' = S ++ [Cell.lst ((wkD rows (prt rows) b (t + 1)).map R.dat)] ∧ ρ = [some (RM rows), some (RI b), some (RI many), some (RI rows.length), some (RI (ps rows)), some (RL (prt rows)), some (.own S.length), a7, a8, none, none, none])
      (rngI 0 many) 0 _ _ ⟨none, none, rfl, rfl⟩ (fun _ _ _ _ => gd_nil) (by
      intro t x ρ S1 hx ⟨a7, a8, e1, e2⟩
      subst e1 e2
      have ht : t < many := by
        have := (List.getElem?_eq_some_iff.mp hx).1
        rw [rng_len] at this
        exact this
      rw [rng_get _ _ _ _ hx, Int.zero_add, Nat.zero_add]
      refine ⟨_, rfl, [some (RM rows), some (RI b), some (RI many), some (RI rows.length), some (RI (ps rows)), some (RL (prt rows)), some (.own S.length), some (RI (t : Int)), some (RL (lawDeal rows (prt rows) (W rows b t))), none, none, none], _, ?_, _, _, rfl, rfl⟩
      have d1 := e_deal (n := n + 1) (S := S ++ [Cell.lst ((wkD rows (prt rows) b (t + 1)).map R.dat)]) g (b := b) (t := t) (by omega) (hcell (t + 1)) (hwk t) (some (RI b)) (some (RI many)) a8 none none none
      have d2 := e_next (n := n) (S := S ++ [Cell.lst ((wkD rows (prt rows) b (t + 1)).map R.dat)]) g (hwf (t + 1)) (b := b) (t := t) (by omega) (some (RI b)) (some (RI many)) (some (RI (ps rows))) (some (RL (prt rows))) (some (.own S.length)) (some (RI (t : Int))) none none none
      refine (ss_next (r_asg d1)).trans ((ss_next (r_expr (app_own (rs := (wkD rows (prt rows) b (t + 1)).map R.dat) rfl (hcell (t + 1)) d2 (hcell (t + 1)) ?_))).trans ?_)
      · unfold wkD
        simp
        omega
      · have e : (S ++ [Cell.lst ((wkD rows (prt rows) b (t + 1)).map R.dat)]).set S.length (.lst ((wkD rows (prt rows) b (t + 1)).map R.dat ++ [RL (W rows b (t + 1))])) = S ++ [Cell.lst ((wkD rows (prt rows) b (t + 1 + 1)).map R.dat)] := by
          rw [hwk2 (t + 1), List.map_append, List.set_append_right _ _ (Nat.le_refl _), Nat.sub_self]
          rfl
        rw [e]
        rfl)
    rw [rng_len, Nat.zero_add] at h2
    subst h2 h3
    exact ⟨a7, a8, by rw [r_for hi]; exact h1⟩
  have b0 : (st.T.C (n + 1)).toCalls.fn 23 [RM rows] S = .ok (RI (ps rows)) S := e_base g.v g.b1 h
  have body : ∃ ρ, evSs (st.T.C (n + 1)) f22.body (MP.start f22 [RM rows, RI b, RI many]) S = .go (.ret (.own S.length)) ρ (S ++ [Cell.lst ((wkD rows (prt rows) b (many + 1)).map R.dat)]) := by
    have s1 : ∀ p1 p2 p3, evE (st.T.C (n + 1)).toCalls (.bi false .len (.var 0 "rows" p1) .nil p2 p3) (MP.start f22 [RM rows, RI b, RI many]) S = .ok (RI rows.length) S := fun _ _ _ => by simp [evSs, evS, evE, evEs, evKs, evAnd, evOr, evTs, M.bind, M.pure, SRes.of, getV, truB, optI, MP.start, isTR, tyR, isTy, cmpR, biR, f22, itemsR]
    have s2 : ∀ p1 p2 p3, evE (st.T.C (n + 1)).toCalls (.call 23 "_law_base" (.var 0 "rows" p1) .nil p2 p3) ((MP.start f22 [RM rows, RI b, RI many]).set 3 (some (RI rows.length))) S = .ok (RI (ps rows)) S := fun _ _ _ => by simp [evSs, evS, evE, evEs, evKs, evAnd, evOr, evTs, M.bind, M.pure, SRes.of, getV, truB, optI, MP.start, isTR, tyR, isTy, cmpR, biR, f22, b0]
    have s3 : evE (st.T.C (n + 1)).toCalls e22_4 (((MP.start f22 [RM rows, RI b, RI many]).set 3 (some (RI rows.length))).set 4 (some (RI (ps rows)))) S = .ok (RL (prt rows)) S := e_parts (gi := 4) (i := 11) (ri := 0) rfl rfl (by decide) (show 11 < 12 by decide) rfl (by omega) g.d
    have s4 : ∀ p, evE (st.T.C (n + 1)).toCalls (.lst true (.cons e22_3 .nil) p) ((((MP.start f22 [RM rows, RI b, RI many]).set 3 (some (RI rows.length))).set 4 (some (RI (ps rows)))).set 5 (some (RL (prt rows)))) S = .ok (.own S.length) (S ++ [Cell.lst ((wkD rows (prt rows) b 1).map R.dat)]) := fun _ => by
      have u : evE (st.T.C (n + 1)).toCalls e22_3 ((((MP.start f22 [RM rows, RI b, RI many]).set 3 (some (RI rows.length))).set 4 (some (RI (ps rows)))).set 5 (some (RL (prt rows)))) S = .ok (RL (unit rows.length b)) S := e_unit (n := n + 1) (S := S) (rows := rows) (by omega) (b := b) (some (RM rows)) (some (RI many)) (some (RI (ps rows))) (some (RL (prt rows))) none none none none none none
      show M.bind (M.bind (evE (st.T.C (n + 1)).toCalls e22_3 _) fun x => M.bind (M.pure []) fun xs => M.pure (x :: xs)) (mkL true) S = _
      rw [bind_assoc, bind_at u]
      rfl
    exact ⟨_, (ss_next (r_asg (s1 _ _ _))).trans ((ss_next (r_asg (s2 _ _ _))).trans ((ss_next (r_asg s3)).trans ((ss_next (r_asg (s4 _))).trans ((ss_next (hfor _ _ _ _ _).choose_spec.choose_spec).trans (ss_ret (r_ret rfl))))))⟩
  obtain ⟨ρ, body⟩ := body
  refine run_call (F := f22) rfl rfl body (seal_own rfl h (Nat.le_refl _) ?_)
  have e1 : toD S.length (S ++ [Cell.lst ((wkD rows (prt rows) b (many + 1)).map R.dat)]) 8 (.own S.length) = (allD (toD S.length (S ++ [Cell.lst ((wkD rows (prt rows) b (many + 1)).map R.dat)]) 7) ((wkD rows (prt rows) b (many + 1)).map R.dat)).map D.lst := by
    show (if S.length < S.length then none else match (S ++ [Cell.lst ((wkD rows (prt rows) b (many + 1)).map R.dat)])[S.length]? with
      | some (.lst rs) => (allD (toD S.length (S ++ [Cell.lst ((wkD rows (prt rows) b (many + 1)).map R.dat)]) 7) rs).map D.lst
      | some (.tup rs) => (allD (toD S.length (S ++ [Cell.lst ((wkD rows (prt rows) b (many + 1)).map R.dat)]) 7) rs).map D.tup
      | some (.obj c ns rs) => (allD (toD S.length (S ++ [Cell.lst ((wkD rows (prt rows) b (many + 1)).map R.dat)]) 7) rs).map (D.obj c ns)
      | none => none) = _
    rw [if_neg (Nat.lt_irrefl _), hcell]
  rw [e1, allD_dat]
  rfl
/-! ### the worst -/
def stray (rows : List (List Int)) (k i : Nat) : Int := (rows.map List.sum).sum * sm rows.length fun j => el (W rows i k) j * el (W rows i k) j * el (prt rows) j
def und (rows : List (List Int)) : Nat → Int
  | 0 => ps rows
  | k + 1 => und rows k * ps rows * ps rows
def strays (rows : List (List Int)) (k : Nat) : List Int := (List.range rows.length).map (stray rows k)
def wst (rows : List (List Int)) (k : Nat) : D := .tup [.int (maxI (strays rows k) - und rows k), .int (und rows k)]
theorem sum_sm {a : Nat} : ∀ (l : List Int), (∀ x ∈ l, Sm a x) → l.sum.natAbs ≤ l.length * 2 ^ a
  | [], _ => by simp
  | x :: l, h => by
    have h1 := sum_sm l fun y hy => h y (List.mem_cons_of_mem _ hy)
    have h2 : x.natAbs < 2 ^ a := h x List.mem_cons_self
    have h3 := Int.natAbs_add_le x l.sum
    rw [List.sum_cons, List.length_cons, Nat.succ_mul]
    omega
theorem Good.vol (g : Good rows kw kv kp) : Sm (kv + 4) (rows.map List.sum).sum := by
  have h1 := sum_sm (a := kv) (rows.map List.sum) fun x hx => by
    obtain ⟨r, hr, e⟩ := List.mem_map.mp hx
    rw [← e]
    exact g.v r hr
  rw [List.length_map] at h1
  have h2 : 0 < 2 ^ kv := Nat.pow_pos (by decide)
  show (rows.map List.sum).sum.natAbs < 2 ^ (kv + 4)
  rw [Nat.pow_add]
  have h3 : rows.length * 2 ^ kv ≤ 15 * 2 ^ kv := Nat.mul_le_mul_right _ g.le
  omega
theorem Good.ps (g : Good rows kw kv kp) : Sm (1 + kv * rows.length) (K27.ps rows) := by
  have q := ps_sm g.v rows.length (Nat.le_refl _)
  rw [List.take_length] at q
  exact q
theorem Good.und (g : Good rows kw kv kp) : ∀ k, Sm ((1 + kv * rows.length) * (2 * k + 1)) (K27.und rows k)
  | 0 => by
    rw [Nat.mul_zero, Nat.zero_add, Nat.mul_one]
    exact g.ps
  | k + 1 => by
    refine ((Good.und g k).mul g.ps |>.mul g.ps).mono ?_
    have e : (1 + kv * rows.length) * (2 * (k + 1) + 1) = (1 + kv * rows.length) * (2 * k + 1) + (1 + kv * rows.length) + (1 + kv * rows.length) := by
      rw [show 2 * (k + 1) + 1 = (2 * k + 1) + 1 + 1 by omega, Nat.mul_succ, Nat.mul_succ]
    omega
theorem max_dat {m : Bool} {x : Int} {xs : List Int} : biR m .max [RL (x :: xs)] S = .ok (RI (maxI (x :: xs))) S := by
  have e : itemsL S (RL (x :: xs)) = some (((x :: xs).map D.int).map R.dat) := rfl
  have e2 : intsR (((x :: xs).map D.int).map R.dat) = some (x :: xs) := by
    rw [List.map_map]
    exact intsR_map (x :: xs)
  show (match (itemsL S (RL (x :: xs))).bind intsR with
    | some (x :: xs) => Res.ok (R.dat (.int (maxI (x :: xs)))) S
    | _ => .stuck) = _
  rw [e, Option.bind_some, e2]
def wksD (rows : List (List Int)) : List D := (List.range rows.length).map fun i => .lst (wkD rows (prt rows) i 61)
theorem e_walks (g : Good rows kw kv kp) (h : WF S) (a2 a3 a4 a5 a6 a7 a8 a9 a10 a11 : Option R) :
    evE (st.T.C (n + 2)).toCalls e8_2 [some (RM rows), some (RI rows.length), a2, a3, a4, a5, a6, a7, a8, a9, a10, a11] S = .ok (.dat (.lst (wksD rows))) S := by
  have hz := g.le
  refine lc_rng (lo := 0) (n := rows.length) (ii_rng1 (n := rows.length) (by simp [evSs, evS, evE, evEs, evKs, evAnd, evOr, evTs, M.bind, M.pure, SRes.of, getV, truB, optI, MP.start, isTR, tyR, isTy, cmpR, biR]) (by omega)) (fun k hk' => ?_) (by omega)
  have q1 : (st.T.C (n + 2)).toCalls.fn 22 [RM rows, RI (k : Int), RI 60] S = .ok (.dat (.lst (wkD rows (prt rows) k 61))) S := e_dealt (n := n) g h (b := k) (many := 60) (Nat.le_refl _)
  simp [wipeE, evSs, evS, evE, evEs, evKs, evAnd, evOr, evTs, M.bind, M.pure, SRes.of, getV, truB, optI, MP.start, isTR, tyR, isTy, cmpR, biR, q1]
theorem e_strays (g : Good rows kw kv kp) (h : WF S) {k : Nat} (hk : k ≤ 60) (a1 a2 a5 a6 a8 a9 a10 a11 : Option R) :
    evE (st.T.C (n + 1)).toCalls e8_0 [some (RM rows), a1, a2, some (RL (prt rows)), some (.dat (.lst (wksD rows))), a5, a6, some (RI (k : Int)), a8, a9, a10, a11] S = .ok (RL (strays rows k)) S := by
  have hz := g.le
  have e2 : RL (strays rows k) = .dat (.lst ((List.range rows.length).map fun i => D.int (stray rows k i))) := by
    show R.dat (.lst (List.map D.int (List.map _ _))) = _
    rw [List.map_map]
    rfl
  rw [e2]
  refine lc_at (l := wksD rows) (ii_of rfl) (by unfold wksD; simp) (fun i d hd => ?_) (by omega)
  have hi : i < rows.length := by
    have := (List.getElem?_eq_some_iff.mp hd).1
    unfold wksD at this
    simpa using this
  unfold wksD at hd
  rw [List.getElem?_map, List.getElem?_range hi] at hd
  cases hd
  have q0 := ix_nat (S := S) (l := wkD rows (prt rows) i 61) (k := k) (d := IL (W rows i k)) (by
    unfold wkD
    rw [List.getElem?_map, List.getElem?_range (by omega)]
    rfl)
  have q1 : (st.T.C (n + 1)).toCalls.fn 21 [RM rows, RL (W rows i k), RL (prt rows)] S = .ok (RI (stray rows k i)) S := e_spread (n := n) (kt := 1 + (kw + kp + 4) * k) (kp := kp) (kv := kv + 4) (lw_len _ _ _ _) g.pl g.le (g.ws i k) g.pp g.vol (by
    have := g.b3
    have : (kw + kp + 4) * k ≤ (kw + kp + 4) * 61 := Nat.mul_le_mul_left _ (by omega)
    omega) h
  simp [wipeE, evSs, evS, evE, evEs, evKs, evAnd, evOr, evTs, M.bind, M.pure, SRes.of, getV, truB, optI, MP.start, isTR, tyR, isTy, cmpR, biR, q0, q1]
def wsD (rows : List (List Int)) (k : Nat) : List D := (List.range k).map (wst rows)
theorem strays_cons (g : Good rows kw kv kp) (k : Nat) : ∃ x xs, strays rows k = x :: xs := by
  cases e : strays rows k with
  | nil =>
    have q := congrArg List.length e
    unfold strays at q
    rw [List.length_map, List.length_range] at q
    have := g.ne
    rw [q] at this
    exact absurd this (by decide)
  | cons x xs => exact ⟨x, xs, rfl⟩
/-- _law_worst -/
theorem e_worst (g : Good rows kw kv kp) (h : WF S) : callN st.T (n + 3) 8 [RM rows] S = .ok (.dat (.lst (wsD rows 61))) S := by
  have hz := g.le
  have hcell : ∀ t, (S ++ [Cell.lst ((wsD rows t).map R.dat)])[S.length]? = some (.lst ((wsD rows t).map R.dat)) := fun t => by simp
  have hwf : ∀ t, WF (S ++ [Cell.lst ((wsD rows t).map R.dat)]) := fun t => wf_push h (below_dats _)
  have hws : ∀ t, wsD rows (t + 1) = wsD rows t ++ [wst rows t] := fun t => by
    unfold wsD
    rw [List.range_succ, List.map_append]
    rfl
  have hfor : ∀ p1 p2 p3 p4 p5, ∃ a6 a7 a8, evS (st.T.C (n + 2)) (.for_ (.one 7 "k" p1) (.rng1 (.int 61 0 p2) p3 p4) b8_1 p5) [some (RM rows), some (RI rows.length), some (RI (ps rows)), some (RL (prt rows)), some (.dat (.lst (wksD rows))), some (.own S.length), some (RI (ps rows)), none, none, none, none, none] (S ++ [Cell.lst ((wsD rows 0).map R.dat)]) =
      .go .next [some (RM rows), some (RI rows.length), some (RI (ps rows)), some (RL (prt rows)), some (.dat (.lst (wksD rows))), some (.own S.length), a6, a7, a8, none, none, none] (S ++ [Cell.lst ((wsD rows 61).map R.dat)]) := by
    intro p1 p2 p3 p4 p5
    have hi : evII (st.T.C (n + 2)).toCalls (.rng1 (.int 61 0 p2) p3 p4) [some (RM rows), some (RI rows.length), some (RI (ps rows)), some (RL (prt rows)), some (.dat (.lst (wksD rows))), some (.own S.length), some (RI (ps rows)), none, none, none, none, none] (S ++ [Cell.lst ((wsD rows 0).map R.dat)]) = .ok (rngI 0 61, []) (S ++ [Cell.lst ((wsD rows 0).map R.dat)]) := ii_rng1 (n := 61) rfl (by omega)
    obtain ⟨ρ', S', h1, a7, a8, h2, h3⟩ := for_ind (t := .one 7 "k" p1) (g := []) (b := fun ρ' S' => evSs (st.T.C (n + 2)) b8_1 ρ' S') (fun t ρ S' => ∃ a7 a8, S' = S ++ [Cell.lst ((wsD rows t).map R.dat)] ∧ ρ = [some (RM rows), some (RI rows.length), some (RI (ps rows)), some (RL (prt rows)), some (.dat (.lst (wksD rows))), some (.own S.length), some (RI (und rows t)), a7, a8, none, none, none])
      (rngI 0 61) 0 _ _ ⟨none, none, rfl, rfl⟩ (fun _ _ _ _ => gd_nil) (by
      intro t x ρ S1 hx ⟨a7, a8, e1, e2⟩
      subst e1 e2
      have ht : t < 61 := by
        have := (List.getElem?_eq_some_iff.mp hx).1
        rw [rng_len] at this
        exact this
      rw [rng_get _ _ _ _ hx, Int.zero_add, Nat.zero_add]
      refine ⟨_, rfl, [some (RM rows), some (RI rows.length), some (RI (ps rows)), some (RL (prt rows)), some (.dat (.lst (wksD rows))), some (.own S.length), some (RI (und rows (t + 1))), some (RI (t : Int)), some (RL (strays rows t)), none, none, none], _, ?_, _, _, rfl, rfl⟩
      have d1 := e_strays (n := n + 1) (S := S ++ [Cell.lst ((wsD rows t).map R.dat)]) g (hwf t) (k := t) (by omega) (some (RI rows.length)) (some (RI (ps rows))) (some (.own S.length)) (some (RI (und rows t))) a8 none none none
      obtain ⟨y, ys, ey⟩ := strays_cons g t
      have m1 : mulOk (und rows t) (ps rows) = true := mulOk_of (g.und t) g.ps (by
        have := g.b4
        have : (1 + kv * rows.length) * (2 * t + 1) ≤ (1 + kv * rows.length) * 129 := Nat.mul_le_mul_left _ (by omega)
        omega)
      have m2 : mulOk (und rows t * ps rows) (ps rows) = true := mulOk_of ((g.und t).mul g.ps) g.ps (by
        have := g.b4
        have : (1 + kv * rows.length) * (2 * t + 1) ≤ (1 + kv * rows.length) * 127 := Nat.mul_le_mul_left _ (by omega)
        omega)
      have d2 : ∀ q1 q2 q3 q4 q5 q6 q7, evE (st.T.C (n + 2)).toCalls (.tup (.cons (.bin false .sub (.bi false .max (.var 8 "strays" q1) .nil q2 q3) (.var 6 "under" q4) q5) (.cons (.var 6 "under" q6) .nil)) 0 q7) [some (RM rows), some (RI rows.length), some (RI (ps rows)), some (RL (prt rows)), some (.dat (.lst (wksD rows))), some (.own S.length), some (RI (und rows t)), some (RI (t : Int)), some (RL (strays rows t)), none, none, none] (S ++ [Cell.lst ((wsD rows t).map R.dat)]) = .ok (.dat (wst rows t)) (S ++ [Cell.lst ((wsD rows t).map R.dat)]) := fun _ _ _ _ _ _ _ => by
        have q := max_dat (m := false) (x := y) (xs := ys) (S := S ++ [Cell.lst ((wsD rows t).map R.dat)])
        unfold wst
        rw [ey]
        simp only [evE, evEs, M.bind, getV, M.pure]
        simp [q, binR, M.pure, mkT, datsR]
      have d3 : ∀ q1 q2 q3 q4 q5 (S1 : Store), evE (st.T.C (n + 2)).toCalls (.bin false .mul (.bin false .mul (.var 6 "under" q1) (.var 2 "grow" q2) q3) (.var 2 "grow" q4) q5) [some (RM rows), some (RI rows.length), some (RI (ps rows)), some (RL (prt rows)), some (.dat (.lst (wksD rows))), some (.own S.length), some (RI (und rows t)), some (RI (t : Int)), some (RL (strays rows t)), none, none, none] S1 = .ok (RI (und rows (t + 1))) S1 := fun _ _ _ _ _ _ => by
        simp only [evE, M.bind, getV, M.pure]
        simp [binR, m1, m2, M.pure, und]
      refine (ss_next (r_asg d1)).trans ((ss_next (r_expr (app_own (rs := (wsD rows t).map R.dat) rfl (hcell t) (d2 _ _ _ _ _ _ _) (hcell t) ?_))).trans ((ss_next (r_asg (d3 _ _ _ _ _ _))).trans ?_))
      · unfold wsD
        simp
        omega
      · have e : (S ++ [Cell.lst ((wsD rows t).map R.dat)]).set S.length (.lst ((wsD rows t).map R.dat ++ [R.dat (wst rows t)])) = S ++ [Cell.lst ((wsD rows (t + 1)).map R.dat)] := by
          rw [hws t, List.map_append, List.set_append_right _ _ (Nat.le_refl _), Nat.sub_self]
          rfl
        rw [e]
        rfl)
    rw [rng_len, Nat.zero_add] at h2
    subst h2 h3
    exact ⟨_, a7, a8, by rw [r_for hi]; exact h1⟩
  have b0 : (st.T.C (n + 2)).toCalls.fn 23 [RM rows] S = .ok (RI (ps rows)) S := e_base (n := n + 1) g.v g.b1 h
  have body : ∃ ρ, evSs (st.T.C (n + 2)) f8.body (MP.start f8 [RM rows]) S = .go (.ret (.own S.length)) ρ (S ++ [Cell.lst ((wsD rows 61).map R.dat)]) := by
    have s1 : ∀ p1 p2 p3, evE (st.T.C (n + 2)).toCalls (.bi false .len (.var 0 "rows" p1) .nil p2 p3) (MP.start f8 [RM rows]) S = .ok (RI rows.length) S := fun _ _ _ => by simp [evSs, evS, evE, evEs, evKs, evAnd, evOr, evTs, M.bind, M.pure, SRes.of, getV, truB, optI, MP.start, isTR, tyR, isTy, cmpR, biR, f8, itemsR]
    have s2 : ∀ p1 p2 p3, evE (st.T.C (n + 2)).toCalls (.call 23 "_law_base" (.var 0 "rows" p1) .nil p2 p3) ((MP.start f8 [RM rows]).set 1 (some (RI rows.length))) S = .ok (RI (ps rows)) S := fun _ _ _ => by simp [evSs, evS, evE, evEs, evKs, evAnd, evOr, evTs, M.bind, M.pure, SRes.of, getV, truB, optI, MP.start, isTR, tyR, isTy, cmpR, biR, f8, b0]
    have s3 : evE (st.T.C (n + 2)).toCalls e8_3 (((MP.start f8 [RM rows]).set 1 (some (RI rows.length))).set 2 (some (RI (ps rows)))) S = .ok (RL (prt rows)) S := e_parts (gi := 2) (i := 11) (ri := 0) rfl rfl (by decide) (show 11 < 12 by decide) rfl (by omega) g.d
    have s4 : evE (st.T.C (n + 2)).toCalls e8_2 ((((MP.start f8 [RM rows]).set 1 (some (RI rows.length))).set 2 (some (RI (ps rows)))).set 3 (some (RL (prt rows)))) S = .ok (.dat (.lst (wksD rows))) S := e_walks (n := n) g h (some (RI (ps rows))) (some (RL (prt rows))) none none none none none none none none
    exact ⟨_, (ss_next (r_asg (s1 _ _ _))).trans ((ss_next (r_asg (s2 _ _ _))).trans ((ss_next (r_asg s3)).trans ((ss_next (r_asg s4)).trans ((ss_next (r_asg (r := .own S.length) (S1 := S ++ [Cell.lst ((wsD rows 0).map R.dat)]) rfl)).trans ((ss_next (r_asg (r := RI (ps rows)) (S1 := S ++ [Cell.lst ((wsD rows 0).map R.dat)]) rfl)).trans
      ((ss_next (hfor _ _ _ _ _).choose_spec.choose_spec.choose_spec).trans (ss_ret (r_ret rfl))))))))⟩
  obtain ⟨ρ, body⟩ := body
  refine run_call (F := f8) rfl rfl body (seal_own rfl h (Nat.le_refl _) ?_)
  rw [toD_lst (hcell 61) (Nat.le_refl _), allD_dat]
  rfl
end
end K27
set_option Elab.async false
set_option linter.all false
set_option maxRecDepth 100000
set_option maxHeartbeats 1000000
/-! K27C: the due step. -/
namespace MP
open PySem PySem.Spec PyProof.Rows L2
/-- a for whose body may return -/
theorem for_stop {t : IT} {g : Gd} {b : Env → Store → SRes} (Pv : Nat → Env → Store → Prop) (q : Nat → Bool) (v : Nat → R) (Z : Nat → Store → Prop) : ∀ (xs : List Itm) (k : Nat) (ρ : Env) (S : Store), Pv k ρ S → (∀ i ρ S, Pv i ρ S → gdOk S g = true) →
    (∀ i x ρ S, xs[i]? = some x → Pv (k + i) ρ S → ∃ ρ1, bindT t x ρ S = some ρ1 ∧ ((q (k + i) = false ∧ ∃ ρ2 S2, b ρ1 S = .go .next ρ2 S2 ∧ Pv (k + i + 1) ρ2 S2) ∨ (q (k + i) = true ∧ ∃ ρ2 S2, b ρ1 S = .go (.ret (v (k + i))) ρ2 S2 ∧ Z (k + i) S2))) →
    ((∀ i, i < xs.length → q (k + i) = false) ∧ ∃ ρ' S', forL t g b xs ρ S = .go .next ρ' S' ∧ Pv (k + xs.length) ρ' S') ∨
      ∃ i, i < xs.length ∧ q (k + i) = true ∧ (∀ j, j < i → q (k + j) = false) ∧ ∃ ρ' S', forL t g b xs ρ S = .go (.ret (v (k + i))) ρ' S' ∧ Z (k + i) S'
  | [], k, ρ, S, h0, hg, _ => .inl ⟨fun i hi => absurd hi (Nat.not_lt_zero _), ρ, S, by
      show (if gdOk S g = true then _ else _) = _
      rw [if_pos (hg _ _ _ h0)], h0⟩
  | x :: xs, k, ρ, S, h0, hg, hs => by
    obtain ⟨ρ1, h1, h2⟩ := hs 0 x ρ S rfl h0
    rcases h2 with ⟨hq, ρ2, S2, h2, h3⟩ | ⟨hq, ρ2, S2, h2, h3⟩
    · have e0 : forL t g b (x :: xs) ρ S = forL t g b xs ρ2 S2 := by
        show (if gdOk S g = true then _ else _) = _
        rw [if_pos (hg _ _ _ h0)]
        simp only [h1, h2]
      have ih := for_stop Pv q v Z xs (k + 1) ρ2 S2 h3 hg fun i y ρ S hy hp => by
        have e : k + 1 + i = k + (i + 1) := by omega
        rw [e] at hp ⊢
        exact hs (i + 1) y ρ S hy hp
      rcases ih with ⟨a, ρ', S', h4, h5⟩ | ⟨i, hi, a, c, ρ', S', h4, h5⟩
      · refine .inl ⟨fun i hi => ?_, ρ', S', by rw [e0]; exact h4, by rw [List.length_cons, show k + (xs.length + 1) = k + 1 + xs.length by omega]; exact h5⟩
        cases i with
        | zero => exact hq
        | succ i =>
          have e : k + (i + 1) = k + 1 + i := by omega
          rw [e]
          exact a i (by rw [List.length_cons] at hi; omega)
      · have e : k + (i + 1) = k + 1 + i := by omega
        refine .inr ⟨i + 1, by rw [List.length_cons]; omega, by rw [e]; exact a, fun j hj => ?_, ρ', S', by rw [e0, e]; exact h4, by rw [e]; exact h5⟩
        cases j with
        | zero => exact hq
        | succ j =>
          have e : k + (j + 1) = k + 1 + j := by omega
          rw [e]
          exact c j (by omega)
    · refine .inr ⟨0, by rw [List.length_cons]; omega, hq, fun j hj => absurd hj (Nat.not_lt_zero _), ρ2, S2, ?_, h3⟩
      show (if gdOk S g = true then _ else _) = _
      rw [if_pos (hg _ _ _ h0)]
      simp only [h1, h2]
end MP
namespace K27
open PySem PySem.Spec PyProof.Rows L2 MP
variable {n : Nat} {S : Store}
/-- r tells the first step below 61 at which q holds -/
def Due (q : Nat → Bool) (r : R) : Prop := (∃ i, i < 61 ∧ q i = true ∧ (∀ j, j < i → q j = false) ∧ r = RI (i : Int)) ∨ ((∀ i, i < 61 → q i = false) ∧ r = .dat .non)
theorem Due.eq {q q' : Nat → Bool} {r r' : R} (h : Due q r) (h' : Due q' r') (e : ∀ i, i < 61 → q i = q' i) : (∃ i j, r = RI i ∧ r' = RI j ∧ true = decide (i = j)) ∨ (r = .dat .non ∧ r' = .dat .non ∧ true = true) := by
  rcases h with ⟨i, h1, h2, h3, h4⟩ | ⟨h1, h2⟩
  · rcases h' with ⟨j, g1, g2, g3, g4⟩ | ⟨g1, g2⟩
    · have ij : i = j := by
        rcases Nat.lt_trichotomy i j with z | z | z
        · have := g3 i z
          rw [← e i h1, h2] at this
          cases this
        · exact z
        · have := h3 j z
          rw [e j g1, g2] at this
          cases this
      subst ij
      exact .inl ⟨_, _, h4, g4, (decide_eq_true rfl).symm⟩
    · have := g1 i h1
      rw [← e i h1, h2] at this
      cases this
  · rcases h' with ⟨j, g1, g2, g3, g4⟩ | ⟨g1, g2⟩
    · have := h1 j g1
      rw [e j g1, g2] at this
      cases this
    · exact .inr ⟨h2, g2, rfl⟩
section
variable {rows : List (List Int)} {kw kv kp : Nat}
def wtop (rows : List (List Int)) (k : Nat) : Int := maxI (strays rows k) - und rows k
def lawQ (rows : List (List Int)) (grain : Int) (k : Nat) : Bool := decide (wtop rows k * grain ≤ und rows k)
theorem wst_at {k : Nat} (h : k < 61) : (wsD rows 61)[k]? = some (.tup [.int (wtop rows k), .int (und rows k)]) := by
  unfold wsD
  rw [List.getElem?_map, List.getElem?_range h]
  rfl
theorem ix_tup {l : List D} {k : Nat} {d : D} {S : Store} (h : l[k]? = some d) : ixR (.dat (.tup l)) (.dat (.int (k : Int))) S = .ok (.dat d) S := ix_nat h
/-- _law_due -/
theorem e_due {grain : Int} {kt kg : Nat} (ht : ∀ k, k < 61 → Sm kt (wtop rows k)) (hg : Sm kg grain) (hk : kt + kg ≤ 999999) (h : WF S) : ∃ r, Due (lawQ rows grain) r ∧ callN st.T (n + 1) 5 [.dat (.lst (wsD rows 61)), RI grain] S = .ok r S := by
  have step : ∀ k : Nat, k < 61 → evSs (st.T.C n) b5_0 [some (.dat (.lst (wsD rows 61))), some (RI grain), some (RI (k : Int))] S = if lawQ rows grain k = true then .go (.ret (RI (k : Int))) [some (.dat (.lst (wsD rows 61))), some (RI grain), some (RI (k : Int))] S else .go .next [some (.dat (.lst (wsD rows 61))), some (RI grain), some (RI (k : Int))] S := by
    intro k hk'
    have q0 := ix_nat (S := S) (wst_at (rows := rows) hk')
    have q1 := ix_tup (S := S) (l := [.int (wtop rows k), .int (und rows k)]) (k := 0) rfl
    have q2 := ix_tup (S := S) (l := [.int (wtop rows k), .int (und rows k)]) (k := 1) rfl
    have m1 : mulOk (wtop rows k) grain = true := mulOk_of (ht k hk') hg hk
    have q1' : ixR (.dat (.tup [.int (wtop rows k), .int (und rows k)])) (RI 0) S = .ok (RI (wtop rows k)) S := q1
    have q2' : ixR (.dat (.tup [.int (wtop rows k), .int (und rows k)])) (RI 1) S = .ok (RI (und rows k)) S := q2
    have cnd : ∀ p1 p2 p3 p4 p5 p6 p7 p8 p9 p10 p11 p12 p13, evE (st.T.C n).toCalls (.cmp .le (.bin false .mul (.ix (.ix (.var 0 "worst" p1) (.var 2 "k" p2) p3) (.int 0 0 p4) p5) (.var 1 "grain" p6) p7) (.ix (.ix (.var 0 "worst" p8) (.var 2 "k" p9) p10) (.int 1 0 p11) p12) p13) [some (.dat (.lst (wsD rows 61))), some (RI grain), some (RI (k : Int))] S = .ok (.dat (.bl (lawQ rows grain k))) S := fun _ _ _ _ _ _ _ _ _ _ _ _ _ => by
      simp only [evE, M.bind, getV, M.pure]
      simp [q0, q1', q2', binR, m1, M.pure, cmpR, lawQ]
    cases hq : lawQ rows grain k with
    | true =>
      rw [hq] at cnd
      exact p_if (P := fun x => x = _) (cnd _ _ _ _ _ _ _ _ _ _ _ _ _) rfl
    | false =>
      rw [hq] at cnd
      exact p_if (P := fun x => x = _) (cnd _ _ _ _ _ _ _ _ _ _ _ _ _) rfl
  have hfor : ∀ p1 p2 p3 p4 p5, (∃ i, i < 61 ∧ lawQ rows grain i = true ∧ (∀ j, j < i → lawQ rows grain j = false) ∧ ∃ ρ', evS (st.T.C n) (.for_ (.one 2 "k" p1) (.rng1 (.int 61 0 p2) p3 p4) b5_0 p5) [some (.dat (.lst (wsD rows 61))), some (RI grain), none] S = .go (.ret (RI (i : Int))) ρ' S) ∨
      ((∀ i, i < 61 → lawQ rows grain i = false) ∧ ∃ ρ', evS (st.T.C n) (.for_ (.one 2 "k" p1) (.rng1 (.int 61 0 p2) p3 p4) b5_0 p5) [some (.dat (.lst (wsD rows 61))), some (RI grain), none] S = .go .next ρ' S) := by
    intro p1 p2 p3 p4 p5
    have hi : evII (st.T.C n).toCalls (.rng1 (.int 61 0 p2) p3 p4) [some (.dat (.lst (wsD rows 61))), some (RI grain), none] S = .ok (rngI 0 61, []) S := ii_rng1 (n := 61) rfl (by omega)
    rcases for_stop (t := .one 2 "k" p1) (g := []) (b := fun ρ' S' => evSs (st.T.C n) b5_0 ρ' S') (fun k ρ S' => S' = S ∧ ∃ y, ρ = [some (.dat (.lst (wsD rows 61))), some (RI grain), y]) (lawQ rows grain) (fun k => RI (k : Int)) (fun _ S' => S' = S) (rngI 0 61) 0 _ S ⟨rfl, none, rfl⟩ (fun _ _ _ _ => gd_nil) (by
      intro k x ρ S1 hx ⟨e1, y, e2⟩
      subst e1 e2
      have hk' : k < 61 := by
        have := (List.getElem?_eq_some_iff.mp hx).1
        rw [rng_len] at this
        exact this
      rw [rng_get _ _ _ _ hx, Int.zero_add, Nat.zero_add]
      refine ⟨_, rfl, ?_⟩
      have q := step k hk'
      cases hq : lawQ rows grain k with
      | true =>
        rw [hq, if_pos rfl] at q
        exact .inr ⟨rfl, _, _, q, rfl⟩
      | false =>
        rw [hq, if_neg Bool.false_ne_true] at q
        exact .inl ⟨rfl, _, _, q, rfl, _, rfl⟩) with ⟨a, ρ', S', h1, h2, _⟩ | ⟨i, hi', a, c, ρ', S', h1, h2⟩
    · subst h2
      refine .inr ⟨fun i hi => ?_, ρ', by rw [r_for hi]; exact h1⟩
      have := a i (by rw [rng_len]; exact hi)
      rw [Nat.zero_add] at this
      exact this
    · subst h2
      rw [rng_len] at hi'
      rw [Nat.zero_add] at a h1
      exact .inl ⟨i, hi', a, fun j hj => by
        have := c j hj
        rw [Nat.zero_add] at this
        exact this, ρ', by rw [r_for hi]; exact h1⟩
  by_cases z : ∃ i, i < 61 ∧ lawQ rows grain i = true ∧ ∀ j, j < i → lawQ rows grain j = false
  · obtain ⟨i, z1, z2, z3⟩ := z
    refine ⟨RI (i : Int), .inl ⟨i, z1, z2, z3, rfl⟩, ?_⟩
    have uni : ∀ j, j < 61 → lawQ rows grain j = true → (∀ k, k < j → lawQ rows grain k = false) → j = i := fun j h1 h2 h3 => by
      rcases Nat.lt_trichotomy i j with y | y | y
      · rw [h3 i y] at z2
        cases z2
      · exact y.symm
      · rw [z3 j y] at h2
        cases h2
    have hf : ∀ p1 p2 p3 p4 p5, ∃ ρ', evS (st.T.C n) (.for_ (.one 2 "k" p1) (.rng1 (.int 61 0 p2) p3 p4) b5_0 p5) [some (.dat (.lst (wsD rows 61))), some (RI grain), none] S = .go (.ret (RI (i : Int))) ρ' S := fun p1 p2 p3 p4 p5 => by
      rcases hfor p1 p2 p3 p4 p5 with ⟨j, h1, h2, h3, ρ', h4⟩ | ⟨h1, _⟩
      · rw [uni j h1 h2 h3] at h4
        exact ⟨ρ', h4⟩
      · rw [h1 i z1] at z2
        cases z2
    exact run_call (F := f5) rfl rfl (ss_ret (hf _ _ _ _ _).choose_spec) (seal_dat h)
  · have hf : ∀ p1 p2 p3 p4 p5, ∃ ρ', evS (st.T.C n) (.for_ (.one 2 "k" p1) (.rng1 (.int 61 0 p2) p3 p4) b5_0 p5) [some (.dat (.lst (wsD rows 61))), some (RI grain), none] S = .go .next ρ' S := fun p1 p2 p3 p4 p5 => by
      rcases hfor p1 p2 p3 p4 p5 with ⟨j, h1, h2, h3, _⟩ | ⟨_, h4⟩
      · exact absurd ⟨j, h1, h2, h3⟩ z
      · exact h4
    have all : ∀ i, i < 61 → lawQ rows grain i = false := by
      rcases hfor ⟨0, 0, 0, 0⟩ ⟨0, 0, 0, 0⟩ ⟨0, 0, 0, 0⟩ ⟨0, 0, 0, 0⟩ ⟨0, 0, 0, 0⟩ with ⟨j, h1, h2, h3, _⟩ | ⟨h4, _⟩
      · exact absurd ⟨j, h1, h2, h3⟩ z
      · exact h4
    exact ⟨.dat .non, .inr ⟨all, rfl⟩, run_call (F := f5) rfl rfl ((ss_next (hf _ _ _ _ _).choose_spec).trans (ss_ret (r_ret rfl))) (seal_dat h)⟩
end
end K27
set_option Elab.async false
set_option linter.all false
set_option maxRecDepth 100000
set_option maxHeartbeats 1000000
/-! K27D: the program's own defs. -/
namespace K27
open PySem PySem.Spec PyProof.Rows L2 MP
variable {n : Nat} {S : Store}
abbrev TL (ns : List Int) : D := .tup (ns.map D.int)
/-- a web as data -/
def webOf (rows : List (List Int)) (ties : List D) : D := .obj "Web" ["rows", "size", "degrees", "volume", "_ties"] [.tup (rows.map TL), .int rows.length, TL (rows.map List.sum), .int (rows.map List.sum).sum, .tup ties]
section
variable {rows : List (List Int)} {ties : List D}
theorem a_rows : attrR (.dat (webOf rows ties)) "Web" "rows" S = .ok (.dat (.tup (rows.map TL))) S := rfl
theorem a_size : attrR (.dat (webOf rows ties)) "Web" "size" S = .ok (RI rows.length) S := rfl
theorem a_degs : attrR (.dat (webOf rows ties)) "Web" "degrees" S = .ok (.dat (TL (rows.map List.sum))) S := rfl
theorem a_vol : attrR (.dat (webOf rows ties)) "Web" "volume" S = .ok (RI (rows.map List.sum).sum) S := rfl
/-! ### common_degree -/
def lcmI (w d : Int) : Int := (Nat.lcm w.natAbs d.natAbs : Nat)
def cdeg (ds : List Int) : Int := ds.foldl lcmI 1
theorem cdeg_take {ds : List Int} {i : Nat} {d : Int} (h : ds[i]? = some d) : cdeg (ds.take (i + 1)) = lcmI (cdeg (ds.take i)) d := by
  unfold cdeg
  rw [List.take_add_one, h, List.foldl_append]
  rfl
theorem lcm_sm {a b : Nat} {w d : Int} (hw : Sm a w) (hd : Sm b d) : Sm (a + b) (lcmI w d) := by
  show (Nat.lcm w.natAbs d.natAbs) < 2 ^ (a + b)
  have h1 : Nat.lcm w.natAbs d.natAbs ≤ w.natAbs * d.natAbs := Nat.div_le_self _ _
  rw [Nat.pow_add]
  exact Nat.lt_of_le_of_lt h1 (Nat.mul_lt_mul'' hw hd)
theorem cdeg_sm {k : Nat} {ds : List Int} (hs : ∀ d ∈ ds, Sm k d) : ∀ i, i ≤ ds.length → Sm (1 + k * i) (cdeg (ds.take i))
  | 0, _ => by show (1 : Int).natAbs < 2 ^ (1 + k * 0); rw [Nat.mul_zero]; decide
  | i + 1, hi => by
    rw [cdeg_take (List.getElem?_eq_getElem (by omega : i < ds.length))]
    exact (lcm_sm (cdeg_sm hs i (by omega)) (hs _ (List.getElem_mem _))).mono (by rw [Nat.mul_succ]; omega)
theorem lcm_run {w d : Int} (hw : w.natAbs.log2 < 9000) (hd : d.natAbs.log2 < 9000) : gcdR true (RI w) (RI d) S = .ok (RI (lcmI w d)) S := by
  show (if true = true then (if decide (w.natAbs.log2 < 9000 ∧ d.natAbs.log2 < 9000) = true then Res.ok (R.dat (.int (Nat.lcm w.natAbs d.natAbs))) S else .stuck) else Res.ok (R.dat (.int (Nat.gcd w.natAbs d.natAbs))) S) = _
  rw [if_pos rfl, if_pos (decide_eq_true ⟨hw, hd⟩)]
  rfl
theorem e_common {k : Nat} (hs : ∀ r ∈ rows, Sm k r.sum) (hk : 1 + k * rows.length + k ≤ 8999) (h : WF S) : callN st.T (n + 1) 15 [.dat (webOf rows ties)] S = .ok (RI (cdeg (rows.map List.sum))) S := by
  have hs' : ∀ d ∈ rows.map List.sum, Sm k d := fun d hd => by
    obtain ⟨r, hr, e⟩ := List.mem_map.mp hd
    rw [← e]
    exact hs r hr
  have hfor : ∀ p1 p2 p3 p4, ∃ y, evS (st.T.C n) (.for_ (.one 2 "degree" p1) (.of (.attr (.var 0 "web" p2) "Web" "degrees" p3)) b15_0 p4) [some (.dat (webOf rows ties)), some (RI 1), none] S = .go .next [some (.dat (webOf rows ties)), some (RI (cdeg (rows.map List.sum))), y] S := by
    intro p1 p2 p3 p4
    have hi : evII (st.T.C n).toCalls (.of (.attr (.var 0 "web" p2) "Web" "degrees" p3)) [some (.dat (webOf rows ties)), some (RI 1), none] S = .ok ((((rows.map List.sum).map D.int).map R.dat).map .one, []) S := ii_tup rfl
    obtain ⟨ρ', S', h1, h2, _, y, h3⟩ := for_ind (t := .one 2 "degree" p1) (g := []) (b := fun ρ' S' => evSs (st.T.C n) b15_0 ρ' S') (fun i ρ S' => S' = S ∧ i ≤ rows.length ∧ ∃ y, ρ = [some (.dat (webOf rows ties)), some (RI (cdeg ((rows.map List.sum).take i))), y]) ((((rows.map List.sum).map D.int).map R.dat).map .one) 0 [some (.dat (webOf rows ties)), some (RI 1), none] S ⟨rfl, Nat.zero_le _, none, rfl⟩ (fun _ _ _ _ => gd_nil) (by
      intro i x ρ S1 hx ⟨e1, e2, y, e3⟩
      subst e1 e3
      rw [List.getElem?_map, List.getElem?_map, List.getElem?_map] at hx
      cases hr : (rows.map List.sum)[i]? with
      | none => rw [hr] at hx; cases hx
      | some d =>
        rw [hr] at hx
        cases hx
        have hl : i < rows.length := by
          have := (List.getElem?_eq_some_iff.mp hr).1
          rw [List.length_map] at this
          exact this
        have b1 := (cdeg_sm hs' i (by rw [List.length_map]; omega)).log
        have b2 := (hs' d (List.mem_of_getElem? hr)).log
        have b3 : k * i ≤ k * rows.length := Nat.mul_le_mul_left k (by omega)
        have q := lcm_run (S := S1) (w := cdeg ((rows.map List.sum).take i)) (d := d) (by omega) (by omega)
        rw [Nat.zero_add]
        refine ⟨_, rfl, [some (.dat (webOf rows ties)), some (RI (cdeg ((rows.map List.sum).take (i + 1)))), some (RI d)], S1, ?_, rfl, by omega, _, rfl⟩
        rw [cdeg_take hr]
        refine (ss_next (r_asg (r := RI (lcmI (cdeg ((rows.map List.sum).take i)) d)) (S1 := S1) ?_)).trans rfl
        simp only [evE, M.bind, getV, M.pure]
        simp [q, M.pure])
    subst h2 h3
    have e : (0 : Nat) + ((((rows.map List.sum).map D.int).map R.dat).map Itm.one).length = (rows.map List.sum).length := by simp
    rw [e, List.take_length] at h1
    exact ⟨y, by rw [r_for hi]; exact h1⟩
  refine run_ret (F := f15) rfl rfl h ?_
  exact p_asg (RI 1) rfl (p_next (hfor _ _ _ _).choose_spec (p_ret rfl))
/-- begun -/
theorem e_begun (hz : rows.length ≤ 1000000) {b : Nat} (h : WF S) : callN st.T (n + 1) 13 [.dat (webOf rows ties), RI b] S = .ok (RL (unit rows.length b)) S := by
  have e2 : RL (unit rows.length b) = .dat (.lst ((List.range rows.length).map fun (j : Nat) => D.int (if j = b then 1 else 0))) := by
    show R.dat (.lst (List.map D.int (List.map _ _))) = _
    rw [List.map_map]
    rfl
  have e1 : evE (st.T.C n).toCalls e13_0 [some (.dat (webOf rows ties)), some (RI b), none] S = .ok (RL (unit rows.length b)) S := by
    rw [e2]
    refine lc_rng (lo := 0) (n := rows.length) (ii_rng1 (n := rows.length) rfl hz) (fun k hk' => ?_) hz
    by_cases hb : k = b
    · subst hb
      simp [wipeE, evSs, evS, evE, evEs, evKs, evAnd, evOr, evTs, M.bind, M.pure, SRes.of, getV, truB, optI, MP.start, isTR, tyR, isTy, cmpR, biR, eqD]
    · have hb' : ¬ (k : Int) = (b : Int) := fun z => hb (by omega)
      simp [wipeE, evSs, evS, evE, evEs, evKs, evAnd, evOr, evTs, M.bind, M.pure, SRes.of, getV, truB, optI, MP.start, isTR, tyR, isTy, cmpR, biR, eqD, hb, hb']
  exact run_ret (F := f13) rfl rfl h (p_ret e1)
end
end K27
set_option Elab.async false
set_option linter.all false
set_option maxRecDepth 100000
set_option maxHeartbeats 1000000
/-! K27E: the program's steps. -/
namespace K27
open PySem PySem.Spec PyProof.Rows L2 MP
variable {n : Nat} {S : Store}
/-! ### zip of data -/
theorem zip_at : ∀ {l l' : List D} {i : Nat} {x : Itm}, (zipI (l.map R.dat) (l'.map R.dat))[i]? = some x → ∃ a b, l[i]? = some a ∧ l'[i]? = some b ∧ x = .tup [.dat a, .dat b]
  | [], _, i, x, h => by cases h
  | _ :: _, [], i, x, h => by cases h
  | a :: l, b :: l', 0, x, h => by
    cases h
    exact ⟨a, b, rfl, rfl, rfl⟩
  | a :: l, b :: l', i + 1, x, h => zip_at (l := l) (l' := l') (i := i) h
theorem zip_len : ∀ {l l' : List D}, l.length = l'.length → (zipI (l.map R.dat) (l'.map R.dat)).length = l.length
  | [], _, _ => rfl
  | _ :: _, [], h => by cases h
  | a :: l, b :: l', h => congrArg Nat.succ (zip_len (l := l) (l' := l') (Nat.succ.inj h))
inductive Seq : D → List D → Prop
  | l (l : List D) : Seq (.lst l) l
  | t (l : List D) : Seq (.tup l) l
theorem Seq.walk {d : D} {l : List D} (h : Seq d l) : walkR (.dat d) S = .ok (l.map .dat) S := by cases h <;> rfl
theorem ii_zip {C : Calls} {ρ : MP.Env} {a b : IE} {p0 p : Pos} {x y : D} {l l' : List D} (h1 : evE C a ρ S = .ok (.dat x) S) (h2 : evE C b ρ S = .ok (.dat y) S) (hx : Seq x l) (hy : Seq y l') :
    evII C (.zip a b p0 p) ρ S = .ok (zipI (l.map R.dat) (l'.map R.dat), []) S := by
  show M.bind (evE C a ρ) (fun x => M.bind (evE C b ρ) fun y => M.bind (walkR x) fun rs => M.bind (walkR y) fun qs => fun S => .ok (zipI rs qs, guardR S x ++ guardR S y) S) S = _
  simp only [M.bind, h1, h2, hx.walk, hy.walk]
  rfl
theorem lc_zip {C : Calls} {e a b : IE} {i j : Nat} {xn yn : Str} {px py p0 p1 p2 : Pos} {own : List (Str × Nat)} {sc : Scope} {p : Pos} {ρ : MP.Env} {x y : D} {l l' : List D} {G : Nat → D} {n : Nat} {q : Nat}
    (h1 : evE C a ρ S = .ok (.dat x) S) (h2 : evE C b ρ S = .ok (.dat y) S) (hx : Seq x l) (hy : Seq y l') (hn : l.length = n) (hn' : l'.length = n)
    (he : ∀ (k : Nat) d d', l[k]? = some d → l'[k]? = some d' → evE C e (((wipeE ρ (own.map (·.2))).set i (some (.dat d))).set j (some (.dat d'))) S = .ok (.dat (G k)) S) (hl : n ≤ 1000000) :
    evE C (.lc false e (.many [(i, xn, px), (j, yn, py)] q p0) (.zip a b p1 p2) .nil own sc p) ρ S = .ok (.dat (.lst ((List.range n).map G))) S :=
  lc_ix (ii_zip h1 h2 hx hy) gd_nil ((zip_len (hn.trans hn'.symm)).trans hn) (fun k z hz => by
    obtain ⟨d, d', e1, e2, e3⟩ := zip_at hz
    subst e3
    exact ⟨_, rfl, he k d d' e1 e2⟩) hl
/-! ### nets -/
structure Net (rows : List (List Int)) (kw kd : Nat) : Prop where
  le : rows.length ≤ 8
  sq : ∀ r ∈ rows, r.length = rows.length
  w : ∀ r ∈ rows, ∀ x ∈ r, Sm kw x
  v : ∀ r ∈ rows, Sm kd r.sum
  pos : ∀ r ∈ rows, 0 < r.sum
  b1 : 1 + kd * 9 ≤ 8999
  b2 : kw ≤ kd
section
variable {rows : List (List Int)} {ties : List D} {kw kd : Nat}
theorem Net.kdl (g : Net rows kw kd) : kd * rows.length ≤ kd * 8 := Nat.mul_le_mul_left _ g.le
abbrev degs (rows : List (List Int)) : List Int := rows.map List.sum
abbrev whole (rows : List (List Int)) : Int := cdeg (degs rows)
theorem Net.ws (g : Net rows kw kd) : Sm (1 + kd * 8) (whole rows) := by
  have h := cdeg_sm (k := kd) (ds := degs rows) (fun d hd => by
    obtain ⟨r, hr, e⟩ := List.mem_map.mp hd
    rw [← e]
    exact g.v r hr) (degs rows).length (Nat.le_refl _)
  rw [List.take_length] at h
  refine h.mono ?_
  rw [List.length_map]
  have := g.kdl
  omega
theorem div_sm {k : Nat} {x y : Int} (h : Sm k x) (hy : 0 < y) : Sm k (x / y) := by
  show (x / y).natAbs < 2 ^ k
  have h1 : (x / y).natAbs ≤ x.natAbs := Int.natAbs_ediv_le_natAbs x y
  exact Nat.lt_of_le_of_lt h1 h
theorem Net.common (g : Net rows kw kd) (h : WF S) : callN st.T (n + 1) 15 [.dat (webOf rows ties)] S = .ok (RI (whole rows)) S :=
  e_common (k := kd) g.v (by have := g.kdl; have := g.b1; omega) h
theorem Net.div (g : Net rows kw kd) {r : List Int} (hr : r ∈ rows) : divOk r.sum = true := decide_eq_true ⟨g.pos r hr, by have := (g.v r hr).log; have := g.b1; omega⟩
/-- the steps -/
def stepRows (rows : List (List Int)) : List (List Int) := (List.range rows.length).map fun r => (List.range rows.length).map fun j => el (row rows r) j * (whole rows / (row rows r).sum)
theorem tl_at {k : Nat} {d : D} (h : (rows.map TL)[k]? = some d) : k < rows.length ∧ d = TL (row rows k) := by
  rw [List.getElem?_map] at h
  cases e : rows[k]? with
  | none => rw [e] at h; cases h
  | some r =>
    rw [e] at h
    cases h
    exact ⟨(List.getElem?_eq_some_iff.mp e).1, by unfold row; rw [e]; rfl⟩
theorem dg_at {k : Nat} {d : D} (h : ((degs rows).map D.int)[k]? = some d) : k < rows.length ∧ d = .int (row rows k).sum := by
  rw [List.getElem?_map, List.getElem?_map] at h
  cases e : rows[k]? with
  | none => rw [e] at h; cases h
  | some r =>
    rw [e] at h
    cases h
    exact ⟨(List.getElem?_eq_some_iff.mp e).1, by unfold row; rw [e]; rfl⟩
theorem in_at {a : List Int} {k : Nat} {d : D} (h : (a.map D.int)[k]? = some d) : k < a.length ∧ d = .int (el a k) := by
  rw [List.getElem?_map] at h
  cases e : a[k]? with
  | none => rw [e] at h; cases h
  | some r =>
    rw [e] at h
    cases h
    exact ⟨(List.getElem?_eq_some_iff.mp e).1, by unfold el; rw [e]; rfl⟩
theorem RM_map {m : Nat} {f : Nat → List Int} : RM ((List.range m).map f) = .dat (.lst ((List.range m).map fun r => IL (f r))) := by
  show R.dat (.lst (List.map IL (List.map f _))) = _
  rw [List.map_map]
  rfl
theorem RL_map {m : Nat} {f : Nat → Int} : IL ((List.range m).map f) = .lst ((List.range m).map fun r => D.int (f r)) := by
  show D.lst (List.map D.int (List.map f _)) = _
  rw [List.map_map]
  rfl
theorem e_steps (g : Net rows kw kd) (h : WF S) : callN st.T (n + 2) 14 [.dat (webOf rows ties)] S = .ok (RM (stepRows rows)) S := by
  have hz := g.le
  have e1 : evE (st.T.C (n + 1)).toCalls e14_1 [some (.dat (webOf rows ties)), some (RI (whole rows)), none, none, none] S = .ok (RM (stepRows rows)) S := by
    unfold stepRows
    rw [RM_map]
    refine lc_zip (x := .tup (rows.map TL)) (y := TL (degs rows)) rfl rfl (.t _) (.t _) (by rw [List.length_map]) (by rw [List.length_map, List.length_map]) (fun k d d' hd hd' => ?_) (by omega)
    obtain ⟨hk, rfl⟩ := tl_at hd
    obtain ⟨_, rfl⟩ := dg_at hd'
    rw [RL_map]
    refine lc_at (l := (row rows k).map D.int) (ii_tup rfl) (by rw [List.length_map]; exact g.sq _ (row_mem hk)) (fun j d hd => ?_) (by omega)
    obtain ⟨hj, rfl⟩ := in_at hd
    have d1 := g.div (row_mem hk)
    have m1 : mulOk (el (row rows k) j) (whole rows / (row rows k).sum) = true := mulOk_of (g.w _ (row_mem hk) _ (el_mem hj)) (div_sm g.ws (g.pos _ (row_mem hk))) (by
      have := g.b1
      have := g.b2
      omega)
    simp [wipeE, evSs, evS, evE, evEs, evKs, evAnd, evOr, evTs, M.bind, M.pure, SRes.of, getV, truB, optI, MP.start, isTR, tyR, isTy, cmpR, biR, binR, d1, m1]
  refine run_ret (F := f14) rfl rfl h ?_
  exact p_asg (RI (whole rows)) (g.common h) (p_ret e1)
/-- dealt -/
def deal (rs : List (List Int)) (ns : List Int) : List Int := (List.range rs.length).map fun p => sm rs.length fun k => el ns k * el (row rs k) p
theorem e_dealt2 {rs : List (List Int)} {ns : List Int} {k1 k2 : Nat} (hn : ns.length = rs.length) (hq : ∀ r ∈ rs, r.length = rs.length) (hz : rs.length ≤ 1000000) (ha : ∀ x ∈ ns, Sm k1 x) (hb : ∀ r ∈ rs, ∀ x ∈ r, Sm k2 x) (hk : k1 + k2 ≤ 999999) (h : WF S) :
    callN st.T (n + 1) 11 [RM rs, RL ns] S = .ok (RL (deal rs ns)) S := by
  have e1 : evE (st.T.C n).toCalls e11_1 [some (RM rs), some (RL ns), none, none, none] S = .ok (RL (deal rs ns)) S := by
    show _ = Res.ok (R.dat (IL (deal rs ns))) S
    unfold deal
    rw [RL_map]
    refine lc_rng (lo := 0) (n := rs.length) (ii_rng1 (n := rs.length) (by simp [evSs, evS, evE, evEs, evKs, evAnd, evOr, evTs, M.bind, M.pure, SRes.of, getV, truB, optI, MP.start, isTR, tyR, isTy, cmpR, biR, itemsR]) hz) (fun p hp => ?_) hz
    have e2 : evE (st.T.C n).toCalls e11_0 [some (RM rs), some (RL ns), some (RI (0 + (p : Int))), none, none] S = .ok (.dat (.lst ((List.range rs.length).map fun k => D.int (el ns k * el (row rs k) p)))) S := by
      refine lc_zip (x := IL ns) (y := .lst (rs.map IL)) rfl rfl (.l _) (.l _) (by rw [List.length_map]; exact hn) (by rw [List.length_map]) (fun k d d' hd hd' => ?_) hz
      obtain ⟨hk1, rfl⟩ := in_at hd
      have hk2 : k < rs.length := by omega
      rw [row_at hk2] at hd'
      cases hd'
      have hp2 : p < (row rs k).length := by rw [hq _ (row_mem hk2)]; exact hp
      have q := ix_nat (S := S) (el_at hp2)
      have m1 : mulOk (el ns k) (el (row rs k) p) = true := mulOk_of (ha _ (el_mem hk1)) (hb _ (row_mem hk2) _ (el_mem hp2)) hk
      simp [wipeE, evSs, evS, evE, evEs, evKs, evAnd, evOr, evTs, M.bind, M.pure, SRes.of, getV, truB, optI, MP.start, isTR, tyR, isTy, cmpR, biR, binR, q, m1]
    have e3 := sum_rng (m := false) (S := S) (k := rs.length) (f := fun k => el ns k * el (row rs k) p)
    refine Eq.trans (b := evE (st.T.C n).toCalls (.bi false .sum e11_0 .nil ⟨240, 12, 240, 15⟩ ⟨240, 12, 240, 76⟩) [some (RM rs), some (RL ns), some (RI (0 + (p : Int))), none, none] S) rfl ?_
    simp only [evE, evEs, M.bind, M.pure]
    rw [e2]
    exact e3
  exact run_ret (F := f11) rfl rfl h (p_ret e1)
end
end K27
set_option Elab.async false
set_option linter.all false
set_option maxRecDepth 100000
set_option maxHeartbeats 1000000
/-! K27F: stray_numbers, is_settled, need_grain. -/
namespace K27
open PySem PySem.Spec PyProof.Rows L2 MP
variable {n : Nat} {S : Store} {rows : List (List Int)} {ties : List D} {kw kd : Nat}
def strayT (rows : List (List Int)) (ns : List Int) (k : Nat) : Int := el ns k * el ns k * (whole rows / (row rows k).sum)
def tot (rows : List (List Int)) (ns : List Int) : Int := sm rows.length (strayT rows ns)
def botP (rows : List (List Int)) (sc : Int) : Int := whole rows * sc * sc
def topP (rows : List (List Int)) (ns : List Int) (sc : Int) : Int := (degs rows).sum * tot rows ns - botP rows sc
theorem Net.vol (g : Net rows kw kd) : Sm (kd + 4) (degs rows).sum := by
  have h1 := sum_sm (a := kd) (rows.map List.sum) fun x hx => by
    obtain ⟨r, hr, e⟩ := List.mem_map.mp hx
    rw [← e]
    exact g.v r hr
  rw [List.length_map] at h1
  have h2 : 0 < 2 ^ kd := Nat.pow_pos (by decide)
  show (rows.map List.sum).sum.natAbs < 2 ^ (kd + 4)
  rw [Nat.pow_add]
  have h3 : rows.length * 2 ^ kd ≤ 15 * 2 ^ kd := Nat.mul_le_mul_right _ (by have := g.le; omega)
  omega
theorem strayT_sm (g : Net rows kw kd) {ns : List Int} {k1 : Nat} (hn : ns.length = rows.length) (ha : ∀ x ∈ ns, Sm k1 x) {k : Nat} (hk : k < rows.length) : Sm (k1 + k1 + (1 + kd * 8)) (strayT rows ns k) :=
  ((ha _ (el_mem (by omega))).mul (ha _ (el_mem (by omega)))).mul (div_sm g.ws (g.pos _ (row_mem hk)))
theorem e_stray (g : Net rows kw kd) {ns : List Int} {k1 ks : Nat} {sc : Int} (hn : ns.length = rows.length) (ha : ∀ x ∈ ns, Sm k1 x) (hs : Sm ks sc) (hk : k1 + k1 + kd * 9 + 20 ≤ 999999) (hk2 : ks + ks + kd * 8 + 10 ≤ 999999) (h : WF S) :
    callN st.T (n + 2) 25 [.dat (webOf rows ties), RL ns, RI sc] S = .ok (.dat (.tup [.int (topP rows ns sc), .int (botP rows sc)])) S := by
  have hz := g.le
  have hfor : ∀ p1 p2 p3 p4 p5 p6 p7 p8 p9, ∃ y z, evS (st.T.C (n + 1)) (.for_ (.many [(5, "number", p1), (6, "degree", p2)] 0 p3) (.zip (.var 1 "numbers" p4) (.attr (.var 0 "web" p5) "Web" "degrees" p6) p7 p8) b25_0 p9) [some (.dat (webOf rows ties)), some (RL ns), some (RI sc), some (RI (whole rows)), some (RI 0), none, none, none] S = .go .next [some (.dat (webOf rows ties)), some (RL ns), some (RI sc), some (RI (whole rows)), some (RI (tot rows ns)), y, z, none] S := by
    intro p1 p2 p3 p4 p5 p6 p7 p8 p9
    have hi : evII (st.T.C (n + 1)).toCalls (.zip (.var 1 "numbers" p4) (.attr (.var 0 "web" p5) "Web" "degrees" p6) p7 p8) [some (.dat (webOf rows ties)), some (RL ns), some (RI sc), some (RI (whole rows)), some (RI 0), none, none, none] S = .ok (zipI ((ns.map D.int).map R.dat) (((degs rows).map D.int).map R.dat), []) S := ii_zip (x := IL ns) (y := TL (degs rows)) rfl rfl (.l _) (.t _)
    obtain ⟨ρ', S', h1, h2, _, y, z, h3⟩ := for_ind (t := .many [(5, "number", p1), (6, "degree", p2)] 0 p3) (g := []) (b := fun ρ' S' => evSs (st.T.C (n + 1)) b25_0 ρ' S') (fun i ρ S' => S' = S ∧ i ≤ rows.length ∧ ∃ y z, ρ = [some (.dat (webOf rows ties)), some (RL ns), some (RI sc), some (RI (whole rows)), some (RI (sm i (strayT rows ns))), y, z, none])
      (zipI ((ns.map D.int).map R.dat) (((degs rows).map D.int).map R.dat)) 0 [some (.dat (webOf rows ties)), some (RL ns), some (RI sc), some (RI (whole rows)), some (RI 0), none, none, none] S ⟨rfl, Nat.zero_le _, none, none, rfl⟩ (fun _ _ _ _ => gd_nil) (by
      intro i x ρ S1 hx ⟨e1, e2, y, z, e3⟩
      subst e1 e3
      obtain ⟨d, d', hd, hd', e4⟩ := zip_at hx
      subst e4
      obtain ⟨hi1, rfl⟩ := in_at hd
      obtain ⟨hi2, rfl⟩ := dg_at hd'
      have dk := g.div (row_mem hi2)
      have s1 := ha _ (el_mem hi1)
      have m1 : mulOk (el ns i) (el ns i) = true := mulOk_of s1 s1 (by omega)
      have m2 : mulOk (el ns i * el ns i) (whole rows / (row rows i).sum) = true := mulOk_of (s1.mul s1) (div_sm g.ws (g.pos _ (row_mem hi2))) (by omega)
      rw [Nat.zero_add]
      refine ⟨_, rfl, [some (.dat (webOf rows ties)), some (RL ns), some (RI sc), some (RI (whole rows)), some (RI (sm (i + 1) (strayT rows ns))), some (RI (el ns i)), some (RI (row rows i).sum), none], S1, ?_, rfl, by omega, _, _, rfl⟩
      rw [sm_succ]
      refine (ss_next (r_asg (r := RI (sm i (strayT rows ns) + strayT rows ns i)) (S1 := S1) ?_)).trans rfl
      simp only [evE, M.bind, getV, M.pure]
      simp [binR, dk, m1, m2, M.pure, strayT])
    subst h2 h3
    have e : (0 : Nat) + (zipI ((ns.map D.int).map R.dat) (((degs rows).map D.int).map R.dat)).length = rows.length := by
      rw [zip_len (by rw [List.length_map, List.length_map, List.length_map]; exact hn), List.length_map]
      omega
    rw [e] at h1
    exact ⟨y, z, by rw [r_for hi]; exact h1⟩
  have m1 : mulOk (whole rows) sc = true := mulOk_of g.ws hs (by omega)
  have m2 : mulOk (whole rows * sc) sc = true := mulOk_of (g.ws.mul hs) hs (by omega)
  have m3 : mulOk (degs rows).sum (tot rows ns) = true := mulOk_of g.vol (sm_sm (fun k hk' => strayT_sm g hn ha hk') (by omega)) (by omega)
  have q := (hfor ⟨245, 8, 245, 14⟩ ⟨245, 16, 245, 22⟩ ⟨245, 8, 245, 22⟩ ⟨245, 30, 245, 37⟩ ⟨245, 39, 245, 42⟩ ⟨245, 39, 245, 50⟩ ⟨245, 26, 245, 29⟩ ⟨245, 26, 245, 51⟩ ⟨245, 4, 246, 59⟩)
  obtain ⟨y, z, q⟩ := q
  refine run_ret (F := f25) rfl rfl h ?_
  refine p_asg (RI (whole rows)) (g.common h) (p_asg (RI 0) rfl (p_next q (p_asg (RI (botP rows sc)) ?_ (p_ret ?_))))
  · simp only [evE, M.bind, getV, M.pure]
    simp [binR, m1, m2, M.pure, botP]
  · have m3' : mulOk (rows.map List.sum).sum (tot rows ns) = true := m3
    simp only [evE, evEs, M.bind, getV, M.pure]
    simp [a_vol, binR, m3', M.pure, topP]
    rfl
theorem botP_sm (g : Net rows kw kd) {ks : Nat} {sc : Int} (hs : Sm ks sc) : Sm (1 + kd * 8 + ks + ks) (botP rows sc) := (g.ws.mul hs).mul hs
theorem sub_sm {a b : Nat} {x y : Int} (hx : Sm a x) (hy : Sm b y) : Sm (a + b + 1) (x - y) := by
  have h1 : x.natAbs < 2 ^ a := hx
  have h2 : y.natAbs < 2 ^ b := hy
  have h3 : 2 ^ a ≤ 2 ^ (a + b) := Nat.pow_le_pow_right (by decide) (by omega)
  have h4 : 2 ^ b ≤ 2 ^ (a + b) := Nat.pow_le_pow_right (by decide) (by omega)
  show (x - y).natAbs < 2 ^ (a + b + 1)
  rw [Nat.pow_succ]
  omega
theorem topP_sm (g : Net rows kw kd) {ns : List Int} {k1 ks : Nat} {sc : Int} (hn : ns.length = rows.length) (ha : ∀ x ∈ ns, Sm k1 x) (hs : Sm ks sc) : Sm (k1 + k1 + kd * 17 + ks + ks + 20) (topP rows ns sc) :=
  (sub_sm (g.vol.mul (sm_sm (fun k hk' => strayT_sm g hn ha hk') (by have := g.le; omega))) (botP_sm g hs)).mono (by omega)
def setQ (rows : List (List Int)) (ns : List Int) (sc grain : Int) : Bool := decide (topP rows ns sc * grain ≤ botP rows sc)
theorem e_settled (g : Net rows kw kd) {ns : List Int} {k1 ks kg : Nat} {sc grain : Int} (hn : ns.length = rows.length) (ha : ∀ x ∈ ns, Sm k1 x) (hs : Sm ks sc) (hg : Sm kg grain) (hk : k1 + k1 + kd * 17 + ks + ks + 20 + kg ≤ 999999) (h : WF S) :
    callN st.T (n + 3) 12 [.dat (webOf rows ties), RL ns, RI sc, RI grain] S = .ok (.dat (.bl (setQ rows ns sc grain))) S := by
  have e : (st.T.C (n + 2)).fn 25 [.dat (webOf rows ties), RL ns, RI sc] S = .ok (.dat (.tup [.int (topP rows ns sc), .int (botP rows sc)])) S := e_stray (n := n) g hn ha hs (by omega) (by omega) h
  have m1 : mulOk (topP rows ns sc) grain = true := mulOk_of (topP_sm g hn ha hs) hg hk
  refine run_ret (F := f12) rfl rfl h ?_
  simp [RetOk, f12, ir12, evSs, evS, evE, evEs, evKs, evAnd, evOr, evTs, M.bind, M.pure, SRes.of, getV, truB, optI, MP.start, isTR, tyR, isTy, cmpR, biR, e, bindT, setM, binR, m1, setQ]
theorem e_grain {grain : Int} (h1 : 1 ≤ grain) (h2 : grain ≤ 1000000) (h : WF S) : callN st.T (n + 1) 16 [RI grain] S = .ok (.dat .non) S := by
  have a1 : ¬ grain < 1 := by omega
  have a2 : ¬ 1000000 < grain := by omega
  have e : evSs (st.T.C n) f16.body (MP.start f16 [RI grain]) S = .go .next (MP.start f16 [RI grain]) S := by
    simp [f16, ir16, evSs, evS, evE, evEs, evKs, evAnd, evOr, evTs, M.bind, M.pure, SRes.of, getV, truB, optI, MP.start, isTR, tyR, isTy, cmpR, biR, a1, a2]
  exact run_call (F := f16) rfl rfl e (seal_next h)
theorem raise_grain {grain : Int} : raiseR (st.T.C n) "OutOfRange" [RI grain] S = .exc "OutOfRange" ["value"] [.int grain] S := rfl
theorem xc_grain : ∃ v, (st.T.C n).xc "OutOfRange" = some v := ⟨_, rfl⟩
theorem e_grainX {grain : Int} (h1 : grain < 1 ∨ 1000000 < grain) (h : WF S) : callN st.T (n + 1) 16 [RI grain] S = .exc "OutOfRange" ["value"] [.int grain] S := by
  have e : evSs (st.T.C n) f16.body (MP.start f16 [RI grain]) S = .exc "OutOfRange" ["value"] [.int grain] (MP.start f16 [RI grain]) S := by
    obtain ⟨v, hv⟩ := xc_grain (n := n)
    by_cases a1 : grain < 1
    · simp [f16, ir16, evSs, evS, evE, evEs, evKs, evAnd, evOr, evTs, M.bind, M.pure, SRes.of, getV, truB, optI, MP.start, isTR, tyR, isTy, cmpR, biR, a1, hv, raise_grain]
    · have a2 : 1000000 < grain := by omega
      simp [f16, ir16, evSs, evS, evE, evEs, evKs, evAnd, evOr, evTs, M.bind, M.pure, SRes.of, getV, truB, optI, MP.start, isTR, tyR, isTy, cmpR, biR, a1, a2, hv, raise_grain]
  exact run_call (F := f16) rfl rfl e (seal_exc h)
end K27
set_option Elab.async false
set_option linter.all false
set_option maxRecDepth 100000
set_option maxHeartbeats 1000000
/-! K27G: settles. -/
namespace K27
open PySem PySem.Spec PyProof.Rows L2 MP
variable {n : Nat} {S : Store} {rows : List (List Int)} {ties : List D} {kw kd : Nat}
theorem deal_len (rs : List (List Int)) (ns : List Int) : (deal rs ns).length = rs.length := by unfold deal; rw [List.length_map, List.length_range]
theorem sr_len (rows : List (List Int)) : (stepRows rows).length = rows.length := by unfold stepRows; rw [List.length_map, List.length_range]
theorem sr_row {r : Nat} (h : r < rows.length) : row (stepRows rows) r = (List.range rows.length).map fun j => el (row rows r) j * (whole rows / (row rows r).sum) := by
  unfold row stepRows
  rw [List.getElem?_map, List.getElem?_range h]
  rfl
theorem sr_mem {r : List Int} (h : r ∈ stepRows rows) : ∃ k, k < rows.length ∧ r = (List.range rows.length).map fun j => el (row rows k) j * (whole rows / (row rows k).sum) := by
  obtain ⟨k, hk, e⟩ := List.mem_map.mp (show r ∈ (List.range rows.length).map _ from h)
  exact ⟨k, List.mem_range.mp hk, e.symm⟩
theorem sr_sq {r : List Int} (h : r ∈ stepRows rows) : r.length = (stepRows rows).length := by
  obtain ⟨k, hk, e⟩ := sr_mem h
  rw [e, sr_len, List.length_map, List.length_range]
theorem sr_sm (g : Net rows kw kd) {r : List Int} (h : r ∈ stepRows rows) : ∀ x ∈ r, Sm (kd * 9 + 1) x := fun x hx => by
  obtain ⟨k, hk, e⟩ := sr_mem h
  rw [e] at hx
  obtain ⟨j, hj, rfl⟩ := mem_rng hx
  exact ((g.w _ (row_mem hk) _ (el_mem (by rw [g.sq _ (row_mem hk)]; exact hj))).mul (div_sm g.ws (g.pos _ (row_mem hk)))).mono (by have := g.b2; omega)
/-- the program's walk -/
def pw (rows : List (List Int)) (b : Nat) : Nat → List Int
  | 0 => unit rows.length b
  | k + 1 => deal (stepRows rows) (pw rows b k)
def sc (rows : List (List Int)) : Nat → Int
  | 0 => 1
  | k + 1 => sc rows k * whole rows
theorem pw_len (rows : List (List Int)) (b : Nat) : ∀ k, (pw rows b k).length = rows.length
  | 0 => by show ((List.range rows.length).map _).length = _; simp
  | k + 1 => by show (deal _ _).length = _; rw [deal_len, sr_len]
theorem pw_sm (g : Net rows kw kd) (b : Nat) : ∀ k, ∀ x ∈ pw rows b k, Sm (1 + (kd * 9 + 5) * k) x
  | 0, x, hx => by
    obtain ⟨j, _, e⟩ := mem_rng (show x ∈ (List.range rows.length).map _ from hx)
    subst e
    show (if j = b then (1 : Int) else 0).natAbs < 2 ^ (1 + (kd * 9 + 5) * 0)
    rw [Nat.mul_zero]
    split <;> decide
  | k + 1, x, hx => by
    obtain ⟨j, hj, e⟩ := mem_rng (show x ∈ (List.range (stepRows rows).length).map _ from hx)
    subst e
    have ih := pw_sm g b k
    have hz := g.le
    refine (sm_sm (a := 1 + (kd * 9 + 5) * k + (kd * 9 + 1)) (fun i hi => ?_) (by rw [sr_len]; omega)).mono (by rw [Nat.mul_succ (kd * 9 + 5) k]; omega)
    have hi' : i < (pw rows b k).length := by rw [pw_len, ← sr_len]; exact hi
    exact (ih _ (el_mem hi')).mul (sr_sm g (row_mem hi) _ (el_mem (by rw [sr_sq (row_mem hi)]; exact hj)))
theorem sc_sm (g : Net rows kw kd) : ∀ k, Sm (1 + (1 + kd * 8) * k) (sc rows k)
  | 0 => by show (1 : Int).natAbs < 2 ^ (1 + (1 + kd * 8) * 0); rw [Nat.mul_zero]; decide
  | k + 1 => ((sc_sm g k).mul g.ws).mono (by rw [Nat.mul_succ (1 + kd * 8) k]; omega)
def nowR (rows : List (List Int)) (k : Nat) : List (List Int) := (List.range rows.length).map fun b => pw rows b k
theorem now_at {k b : Nat} {d : D} (h : ((nowR rows k).map IL)[b]? = some d) : b < rows.length ∧ d = IL (pw rows b k) := by
  unfold nowR at h
  rw [List.getElem?_map, List.getElem?_map] at h
  cases e : (List.range rows.length)[b]? with
  | none => rw [e] at h; cases h
  | some r =>
    rw [e] at h
    cases h
    have hb := (List.getElem?_eq_some_iff.mp e).1
    rw [List.length_range] at hb
    rw [List.getElem?_range hb] at e
    cases e
    exact ⟨hb, rfl⟩
theorem now_len (rows : List (List Int)) (k : Nat) : ((nowR rows k).map IL).length = rows.length := by unfold nowR; rw [List.length_map, List.length_map, List.length_range]
def qP (rows : List (List Int)) (grain : Int) (k : Nat) : Bool := ((List.range rows.length).map fun b => setQ rows (pw rows b k) (sc rows k) grain).all id
theorem bls_map : ∀ bs : List Bool, blsR ((bs.map D.bl).map R.dat) = some bs
  | [] => rfl
  | b :: bs => by
    show (blsR ((bs.map D.bl).map R.dat)).map (b :: ·) = _
    rw [bls_map bs]
    rfl
theorem all_dat {m : Bool} {bs : List Bool} : biR m .all [.dat (.lst (bs.map D.bl))] S = .ok (.dat (.bl (bs.all id))) S := by
  have e : itemsL S (.dat (.lst (bs.map D.bl))) = some ((bs.map D.bl).map R.dat) := rfl
  show (match (itemsL S (.dat (.lst (bs.map D.bl)))).bind blsR with
    | some xs => Res.ok (R.dat (.bl (xs.all id))) S
    | none => .stuck) = _
  rw [e]
  show (match blsR ((bs.map D.bl).map R.dat) with
    | some xs => Res.ok (R.dat (.bl (xs.all id))) S
    | none => .stuck) = _
  rw [bls_map]
theorem e_settles (g : Net rows kw kd) (hkd : kd ≤ 200) {kg : Nat} {grain : Int} (hg : Sm kg grain) (hkg : kg ≤ 1000) (h1 : 1 ≤ grain) (h2 : grain ≤ 1000000) (h : WF S) :
    ∃ r, Due (qP rows grain) r ∧ callN st.T (n + 4) 4 [.dat (webOf rows ties), RI grain] S = .ok r S := by
  have hz := g.le
  let E (k : Nat) (y z : Option R) : MP.Env := [some (.dat (webOf rows ties)), some (RI grain), some (RI (whole rows)), some (RM (stepRows rows)), some (RM (nowR rows k)), some (RI (sc rows k)), y, z, none]
  have hall : ∀ k y z, k ≤ 60 → evE (st.T.C (n + 3)).toCalls e4_1 (E k y z) S = .ok (.dat (.lst (((List.range rows.length).map fun b => setQ rows (pw rows b k) (sc rows k) grain).map D.bl))) S := by
    intro k y z hk
    rw [List.map_map]
    refine lc_at (l := (nowR rows k).map IL) (n := rows.length) (ii_of rfl) (now_len rows k) (fun b d hd => ?_) (by omega)
    obtain ⟨hb, rfl⟩ := now_at hd
    have e : (st.T.C (n + 3)).fn 12 [.dat (webOf rows ties), RL (pw rows b k), RI (sc rows k), RI grain] S = .ok (.dat (.bl (setQ rows (pw rows b k) (sc rows k) grain))) S :=
      e_settled (n := n) g (pw_len rows b k) (pw_sm g b k) (sc_sm g k) hg (by
        have z1 : (kd * 9 + 5) * k ≤ (kd * 9 + 5) * 60 := Nat.mul_le_mul_left _ hk
        have z2 : (1 + kd * 8) * k ≤ (1 + kd * 8) * 60 := Nat.mul_le_mul_left _ hk
        omega) h
    simp [E, wipeE, evSs, evS, evE, evEs, evKs, evAnd, evOr, evTs, M.bind, M.pure, SRes.of, getV, truB, optI, MP.start, isTR, tyR, isTy, cmpR, biR, e]
  have hnow : ∀ k y z, k ≤ 60 → evE (st.T.C (n + 3)).toCalls e4_0 (E k y z) S = .ok (RM (nowR rows (k + 1))) S := by
    intro k y z hk
    rw [show RM (nowR rows (k + 1)) = _ from RM_map]
    refine lc_at (l := (nowR rows k).map IL) (n := rows.length) (ii_of rfl) (now_len rows k) (fun b d hd => ?_) (by omega)
    obtain ⟨hb, rfl⟩ := now_at hd
    have e : (st.T.C (n + 3)).fn 11 [RM (stepRows rows), RL (pw rows b k)] S = .ok (RL (pw rows b (k + 1))) S :=
      e_dealt2 (n := n + 2) (k1 := 1 + (kd * 9 + 5) * k) (k2 := kd * 9 + 1) (by rw [pw_len, sr_len]) (fun r hr => sr_sq hr) (by rw [sr_len]; omega) (pw_sm g b k) (fun r hr => sr_sm g hr) (by
        have z1 : (kd * 9 + 5) * k ≤ (kd * 9 + 5) * 60 := Nat.mul_le_mul_left _ hk
        omega) h
    simp [E, wipeE, evSs, evS, evE, evEs, evKs, evAnd, evOr, evTs, M.bind, M.pure, SRes.of, getV, truB, optI, MP.start, isTR, tyR, isTy, cmpR, biR, e]
  have hbeg : evE (st.T.C (n + 3)).toCalls e4_3 [some (.dat (webOf rows ties)), some (RI grain), some (RI (whole rows)), some (RM (stepRows rows)), none, none, none, none, none] S = .ok (RM (nowR rows 0)) S := by
    rw [show RM (nowR rows 0) = _ from RM_map]
    refine lc_rng (lo := 0) (n := rows.length) (ii_rng1 (n := rows.length) rfl (by omega)) (fun k hk' => ?_) (by omega)
    have e : (st.T.C (n + 3)).fn 13 [.dat (webOf rows ties), RI k] S = .ok (RL (unit rows.length k)) S := e_begun (n := n + 2) (by omega) h
    simp [wipeE, evSs, evS, evE, evEs, evKs, evAnd, evOr, evTs, M.bind, M.pure, SRes.of, getV, truB, optI, MP.start, isTR, tyR, isTy, cmpR, biR, e, pw]
  have step : ∀ k : Nat, k ≤ 60 → ∀ y z, evSs (st.T.C (n + 3)) b4_2 ((E k y z).set 6 (some (RI (k : Int)))) S = if qP rows grain k = true then .go (.ret (RI (k : Int))) (E k (some (RI (k : Int))) z) S else .go .next (E (k + 1) (some (RI (k : Int))) z) S := by
    intro k hk y z
    have e1 : (E k y z).set 6 (some (RI (k : Int))) = E k (some (RI (k : Int))) z := rfl
    rw [e1]
    have q1 := hall k (some (RI (k : Int))) z hk
    have q2 := hnow k (some (RI (k : Int))) z hk
    have q3 := all_dat (m := false) (S := S) (bs := (List.range rows.length).map fun b => setQ rows (pw rows b k) (sc rows k) grain)
    have m1 : mulOk (sc rows k) (whole rows) = true := mulOk_of (sc_sm g k) g.ws (by
        have z2 : (1 + kd * 8) * k ≤ (1 + kd * 8) * 60 := Nat.mul_le_mul_left _ hk
        omega)
    have cnd : ∀ p1 p2, evE (st.T.C (n + 3)).toCalls (.bi false .all e4_1 .nil p1 p2) (E k (some (RI (k : Int))) z) S = .ok (.dat (.bl (qP rows grain k))) S := fun p1 p2 => by
      simp only [evE, evEs, M.bind, M.pure]
      rw [q1]
      exact q3
    cases hq : qP rows grain k with
    | true =>
      rw [hq] at cnd
      exact p_if (P := fun x => x = _) (cnd _ _) rfl
    | false =>
      rw [hq] at cnd
      refine p_if (P := fun x => x = _) (cnd _ _) ?_
      refine p_asg (P := fun x => x = _) _ q2 (p_asg (P := fun x => x = _) (RI (sc rows (k + 1))) ?_ rfl)
      simp only [evE, M.bind, M.pure, E]
      simp [getV, binR, m1, M.pure, sc]
  have hi : evII (st.T.C (n + 3)).toCalls (.rng1 (.bin false .add (.gint (60) "MOST_STEPS_shares" ⟨258, 23, 258, 40⟩) (.int (1) 0 ⟨258, 43, 258, 44⟩) ⟨258, 23, 258, 44⟩) ⟨258, 17, 258, 22⟩ ⟨258, 17, 258, 45⟩) (E 0 none none) S = .ok (rngI 0 61, []) S := ii_rng1 (n := 61) rfl (by omega)
  have pre : ∀ {r : SRes}, evSs (st.T.C (n + 3)) (.cons (.for_ (.one 6 "steps" ⟨258, 8, 258, 13⟩) (.rng1 (.bin false .add (.gint (60) "MOST_STEPS_shares" ⟨258, 23, 258, 40⟩) (.int (1) 0 ⟨258, 43, 258, 44⟩) ⟨258, 23, 258, 44⟩) ⟨258, 17, 258, 22⟩ ⟨258, 17, 258, 45⟩) b4_2 ⟨258, 4, 262, 29⟩) (.cons (.ret (.non 0 ⟨263, 11, 263, 15⟩) ⟨263, 4, 263, 15⟩) .nil)) (E 0 none none) S = r →
      evSs (st.T.C (n + 3)) f4.body (MP.start f4 [.dat (webOf rows ties), RI grain]) S = r := fun {r} hr => by
    have e16 : (st.T.C (n + 3)).fn 16 [RI grain] S = .ok (.dat .non) S := e_grain (n := n + 2) h1 h2 h
    refine p_next (P := fun x => x = r) (r_expr (r := .dat .non) (S1 := S) ?_) ?_
    · simp [MP.start, evSs, evS, evE, evEs, evKs, evAnd, evOr, evTs, M.bind, M.pure, SRes.of, getV, truB, optI, MP.start, isTR, tyR, isTy, cmpR, biR, e16, f4]
    refine p_asg (P := fun x => x = r) (RI (whole rows)) (g.common (n := n + 2) h) ?_
    refine p_asg (P := fun x => x = r) (RM (stepRows rows)) (e_steps (n := n + 1) g h) ?_
    exact p_asg (P := fun x => x = r) (RM (nowR rows 0)) hbeg (p_asg (P := fun x => x = r) (RI 1) rfl hr)
  rcases for_stop (t := .one 6 "steps" ⟨258, 8, 258, 13⟩) (g := []) (b := fun ρ' S' => evSs (st.T.C (n + 3)) b4_2 ρ' S') (fun k ρ S' => S' = S ∧ ∃ y, ρ = E k y none) (qP rows grain) (fun k => RI (k : Int)) (fun _ S' => S' = S) (rngI 0 61) 0 (E 0 none none) S ⟨rfl, none, rfl⟩ (fun _ _ _ _ => gd_nil) (by
      intro k x ρ S1 hx ⟨e1, y, e2⟩
      subst e1 e2
      have hk' : k < 61 := by
        have := (List.getElem?_eq_some_iff.mp hx).1
        rw [rng_len] at this
        exact this
      rw [rng_get _ _ _ _ hx, Int.zero_add, Nat.zero_add]
      refine ⟨_, rfl, ?_⟩
      have q := step k (by omega) y none
      cases hq : qP rows grain k with
      | true =>
        rw [hq, if_pos rfl] at q
        exact .inr ⟨rfl, _, _, q, rfl⟩
      | false =>
        rw [hq, if_neg Bool.false_ne_true] at q
        exact .inl ⟨rfl, _, _, q, rfl, _, rfl⟩) with ⟨a, ρ', S', h3, h4, _⟩ | ⟨i, hi', a, c, ρ', S', h3, h4⟩
  · subst h4
    refine ⟨.dat .non, .inr ⟨fun i hi => ?_, rfl⟩, run_call (F := f4) rfl rfl (pre ((ss_next (by rw [r_for hi]; exact h3)).trans (ss_ret (r_ret rfl)))) (seal_dat h)⟩
    have := a i (by rw [rng_len]; exact hi)
    rw [Nat.zero_add] at this
    exact this
  · subst h4
    rw [rng_len] at hi'
    rw [Nat.zero_add] at a h3
    exact ⟨RI (i : Int), .inl ⟨i, hi', a, fun j hj => by
      have := c j hj
      rw [Nat.zero_add] at this
      exact this, rfl⟩, run_call (F := f4) rfl rfl (pre (ss_ret (by rw [r_for hi]; exact h3))) (seal_dat h)⟩
end K27
set_option Elab.async false
set_option linter.all false
set_option maxRecDepth 100000
set_option maxHeartbeats 1000000
/-! K27H: what Web asks of its rows. -/
namespace K27
open PySem PySem.Spec PyProof.Rows L2 MP
variable {n : Nat} {S : Store} {rows : List (List Int)} {ties : List D} {kw kd : Nat}
structure Tied (rows : List (List Int)) : Prop where
  ge : 1 ≤ rows.length
  le : rows.length ≤ 8
  sq : ∀ r ∈ rows, r.length = rows.length
  w : ∀ r ∈ rows, ∀ x ∈ r, 0 ≤ x ∧ x ≤ 1000000000000000000000000000000
  sym : ∀ i j, i < rows.length → j < rows.length → el (row rows i) j = el (row rows j) i
  pos : ∀ r ∈ rows, 0 < r.sum
theorem il_at {k : Nat} {d : R} (h : ((rows.map IL).map R.dat)[k]? = some d) : k < rows.length ∧ d = RL (row rows k) := by
  rw [List.getElem?_map, List.getElem?_map] at h
  cases e : rows[k]? with
  | none => rw [e] at h; cases h
  | some r =>
    rw [e] at h
    cases h
    exact ⟨(List.getElem?_eq_some_iff.mp e).1, by unfold row; rw [e]; rfl⟩
theorem one_at {l : List R} {k : Nat} {x : Itm} (h : (l.map Itm.one)[k]? = some x) : ∃ r, l[k]? = some r ∧ x = .one r := by
  rw [List.getElem?_map] at h
  cases e : l[k]? with
  | none => rw [e] at h; cases h
  | some r =>
    rw [e] at h
    cases h
    exact ⟨r, rfl, rfl⟩
theorem rin_at {a : List Int} {k : Nat} {d : R} (h : ((a.map D.int).map R.dat)[k]? = some d) : k < a.length ∧ d = RI (el a k) := by
  rw [List.getElem?_map] at h
  cases e : (a.map D.int)[k]? with
  | none => rw [e] at h; cases h
  | some r =>
    rw [e] at h
    cases h
    obtain ⟨h1, h2⟩ := in_at e
    exact ⟨h1, by rw [h2]⟩
theorem enum_at : ∀ {l : List R} {m i : Nat} {x : Itm}, (enumI m l)[i]? = some x → ∃ r, l[i]? = some r ∧ x = .tup [RI ((m + i : Nat) : Int), r]
  | [], m, i, x, h => by cases h
  | a :: l, m, 0, x, h => by
    cases h
    exact ⟨a, rfl, rfl⟩
  | a :: l, m, i + 1, x, h => by
    obtain ⟨r, h1, h2⟩ := enum_at (l := l) (m := m + 1) (i := i) h
    exact ⟨r, h1, by rw [h2, show m + 1 + i = m + (i + 1) by omega]⟩
theorem ii_enum {C : Calls} {ρ : MP.Env} {a : IE} {p0 p : Pos} {l : List D} (h : evE C a ρ S = .ok (.dat (.lst l)) S) : evII C (.enum a p0 p) ρ S = .ok (enumI 0 (l.map R.dat), []) S := by
  show M.bind (evE C a ρ) _ S = _
  simp only [M.bind, h]
  rfl
/-- a for that leaves the store -/
theorem for_same {C : CallsX} {t : IT} {it : II} {b : ISs} {p : Pos} {xs : List Itm} {ρ : MP.Env} (Pv : MP.Env → Prop) (hi : evII C.toCalls it ρ S = .ok (xs, []) S) (h0 : Pv ρ)
    (hs : ∀ (i : Nat) x ρ, xs[i]? = some x → Pv ρ → ∃ ρ1, bindT t x ρ S = some ρ1 ∧ ∃ ρ2, evSs C b ρ1 S = .go .next ρ2 S ∧ Pv ρ2) : ∃ ρ', evS C (.for_ t it b p) ρ S = .go .next ρ' S ∧ Pv ρ' := by
  obtain ⟨ρ', S', h1, h2, h3⟩ := for_ind (t := t) (g := []) (b := fun ρ' S' => evSs C b ρ' S') (fun _ ρ S' => S' = S ∧ Pv ρ) xs 0 ρ S ⟨rfl, h0⟩ (fun _ _ _ _ => gd_nil) (fun i x ρ S1 hx ⟨e1, e2⟩ => by
    subst e1
    obtain ⟨ρ1, h1, ρ2, h2, h3⟩ := hs i x ρ hx e2
    exact ⟨ρ1, h1, ρ2, S1, h2, rfl, h3⟩)
  subst h2
  exact ⟨ρ', by rw [r_for hi]; exact h1, h3⟩
theorem e_square (g : Tied rows) (h : WF S) : callN st.T (n + 1) 20 [RM rows] S = .ok (.dat .non) S := by
  have hz := g.le
  have hy := g.ge
  have hfor : ∀ p1 p2 p3, ∃ ρ', evS (st.T.C n) (.for_ (.one 2 "row" p1) (.of (.var 0 "rows" p2)) b20_0 p3) [some (RM rows), some (RI rows.length), none] S = .go .next ρ' S := by
    intro p1 p2 p3
    obtain ⟨ρ', q, _⟩ := for_same (S := S) (C := st.T.C n) (t := .one 2 "row" p1) (it := .of (.var 0 "rows" p2)) (b := b20_0) (p := p3) (fun ρ => ∃ y, ρ = [some (RM rows), some (RI rows.length), y]) (ii_of (l := rows.map IL) rfl) ⟨none, rfl⟩ (fun i x ρ hx ⟨y, e⟩ => by
      subst e
      obtain ⟨r, h1, h2⟩ := one_at hx
      subst h2
      obtain ⟨h3, rfl⟩ := il_at h1
      refine ⟨_, rfl, [some (RM rows), some (RI rows.length), some (RL (row rows i))], ?_, _, rfl⟩
      have q1 : itemsR S (R.dat (IL (row rows i))) = some (((row rows i).map D.int).map R.dat) := rfl
      have q2 : (((row rows i).map D.int).map R.dat).length = rows.length := by rw [List.length_map, List.length_map]; exact g.sq _ (row_mem h3)
      simp [b20_0, evSs, evS, evE, evEs, evKs, evAnd, evOr, evTs, M.bind, M.pure, SRes.of, getV, truB, optI, MP.start, isTR, tyR, isTy, cmpR, biR, q1, q2, eqD, g.sq _ (row_mem h3)])
    exact ⟨ρ', q⟩
  have q1 := len_dat (m := false) (l := rows.map IL) (S := S)
  rw [List.length_map] at q1
  have a1 : ¬ (rows.length : Int) < 1 := by omega
  have a2 : ¬ (40 : Int) < (rows.length : Int) := by omega
  have e : ∃ ρ', evSs (st.T.C n) f20.body (MP.start f20 [RM rows]) S = .go .next ρ' S := by
    refine ⟨(hfor ⟨122, 8, 122, 11⟩ ⟨122, 15, 122, 19⟩ ⟨122, 4, 124, 28⟩).choose, ?_⟩
    refine p_asg (S1 := S) (P := fun x => x = _) (RI rows.length) ?_ ?_
    · simp only [evE, evEs, M.bind, M.pure]
      exact q1
    refine p_if (S1 := S) (t := false) (P := fun x => x = _) ?_ ?_
    · simp [evSs, evS, evE, evEs, evKs, evAnd, evOr, evTs, M.bind, M.pure, SRes.of, getV, truB, optI, MP.start, isTR, tyR, isTy, cmpR, biR, MP.start, f20, a1, a2]
    refine p_next (P := fun x => x = _) (hfor _ _ _).choose_spec rfl
  exact run_call (F := f20) rfl rfl e.choose_spec (seal_next h)
theorem e_weights (g : Tied rows) (h : WF S) : callN st.T (n + 1) 19 [RM rows] S = .ok (.dat .non) S := by
  have hin : ∀ k, k < rows.length → ∀ p1 p2 p3 z, ∃ ρ', evS (st.T.C n) (.for_ (.one 2 "weight" p1) (.of (.var 1 "row" p2)) b19_0 p3) [some (RM rows), some (RL (row rows k)), z] S = .go .next ρ' S ∧ ∃ y, ρ' = [some (RM rows), some (RL (row rows k)), y] := fun k hk p1 p2 p3 z =>
    for_same (S := S) (C := st.T.C n) (t := .one 2 "weight" p1) (it := .of (.var 1 "row" p2)) (b := b19_0) (p := p3) (fun ρ => ∃ y, ρ = [some (RM rows), some (RL (row rows k)), y]) (ii_of (l := (row rows k).map D.int) rfl) ⟨z, rfl⟩ (fun i x ρ hx ⟨y, e⟩ => by
      subst e
      obtain ⟨r, h1, h2⟩ := one_at hx
      subst h2
      obtain ⟨h3, rfl⟩ := rin_at h1
      have h4 := g.w _ (row_mem hk) _ (el_mem h3)
      have a1 : ¬ el (row rows k) i < 0 := by omega
      have a2 : ¬ 1000000000000000000000000000000 < el (row rows k) i := by omega
      refine ⟨_, rfl, [some (RM rows), some (RL (row rows k)), some (RI (el (row rows k) i))], ?_, _, rfl⟩
      simp [b19_0, evSs, evS, evE, evEs, evKs, evAnd, evOr, evTs, M.bind, M.pure, SRes.of, getV, truB, optI, MP.start, isTR, tyR, isTy, cmpR, biR, a1, a2])
  have hfor : ∀ p1 p2 p3, ∃ ρ', evS (st.T.C n) (.for_ (.one 1 "row" p1) (.of (.var 0 "rows" p2)) b19_1 p3) [some (RM rows), none, none] S = .go .next ρ' S := by
    intro p1 p2 p3
    obtain ⟨ρ', q, _⟩ := for_same (S := S) (C := st.T.C n) (t := .one 1 "row" p1) (it := .of (.var 0 "rows" p2)) (b := b19_1) (p := p3) (fun ρ => ∃ y z, ρ = [some (RM rows), y, z]) (ii_of (l := rows.map IL) rfl) ⟨none, none, rfl⟩ (fun i x ρ hx ⟨y, z, e⟩ => by
      subst e
      obtain ⟨r, h1, h2⟩ := one_at hx
      subst h2
      obtain ⟨h3, rfl⟩ := il_at h1
      obtain ⟨ρ2, q1, y2, q2⟩ := hin i h3 ⟨127, 12, 127, 18⟩ ⟨127, 22, 127, 25⟩ ⟨127, 8, 129, 39⟩ z
      exact ⟨_, rfl, ρ2, p_next (P := fun x => x = _) q1 rfl, _, _, q2⟩)
    exact ⟨ρ', q⟩
  exact run_call (F := f19) rfl rfl (p_next (P := fun x => x = _) (hfor _ _ _).choose_spec rfl) (seal_next h)
theorem e_symm (g : Tied rows) (h : WF S) : callN st.T (n + 1) 18 [RM rows] S = .ok (.dat .non) S := by
  have hin : ∀ k, k < rows.length → ∀ p1 p2 p3 p4 p5 p6 p7 z1 z2, ∃ ρ', evS (st.T.C n) (.for_ (.many [(3, "j", p1), (4, "weight", p2)] 0 p3) (.enum (.var 2 "row" p4) p5 p6) b18_0 p7) [some (RM rows), some (RI (k : Int)), some (RL (row rows k)), z1, z2] S = .go .next ρ' S ∧ ∃ y z, ρ' = [some (RM rows), some (RI (k : Int)), some (RL (row rows k)), y, z] := fun k hk p1 p2 p3 p4 p5 p6 p7 z1 z2 =>
    for_same (S := S) (C := st.T.C n) (t := .many [(3, "j", p1), (4, "weight", p2)] 0 p3) (it := .enum (.var 2 "row" p4) p5 p6) (b := b18_0) (p := p7) (fun ρ => ∃ y z, ρ = [some (RM rows), some (RI (k : Int)), some (RL (row rows k)), y, z]) (ii_enum (l := (row rows k).map D.int) rfl) ⟨z1, z2, rfl⟩ (fun i x ρ hx ⟨y, z, e⟩ => by
      subst e
      obtain ⟨r, h1, h2⟩ := enum_at hx
      subst h2
      obtain ⟨h3, rfl⟩ := rin_at h1
      have h5 : i < rows.length := by rw [← g.sq _ (row_mem hk)]; exact h3
      have h4 := g.sym k i hk h5
      have q1 := ix_nat (S := S) (row_at h5)
      have q2 := ix_nat (S := S) (el_at (a := row rows i) (k := k) (by rw [g.sq _ (row_mem h5)]; exact hk))
      rw [Nat.zero_add]
      refine ⟨_, rfl, [some (RM rows), some (RI (k : Int)), some (RL (row rows k)), some (RI (i : Int)), some (RI (el (row rows k) i))], ?_, _, _, rfl⟩
      simp [b18_0, evSs, evS, evE, evEs, evKs, evAnd, evOr, evTs, M.bind, M.pure, SRes.of, getV, truB, optI, MP.start, isTR, tyR, isTy, cmpR, biR, q1, q2, eqD, h4])
  have hfor : ∀ p1 p2 p3 p4 p5 p6 p7, ∃ ρ', evS (st.T.C n) (.for_ (.many [(1, "i", p1), (2, "row", p2)] 0 p3) (.enum (.var 0 "rows" p4) p5 p6) b18_1 p7) [some (RM rows), none, none, none, none] S = .go .next ρ' S := by
    intro p1 p2 p3 p4 p5 p6 p7
    obtain ⟨ρ', q, _⟩ := for_same (S := S) (C := st.T.C n) (t := .many [(1, "i", p1), (2, "row", p2)] 0 p3) (it := .enum (.var 0 "rows" p4) p5 p6) (b := b18_1) (p := p7) (fun ρ => ∃ y z u v, ρ = [some (RM rows), y, z, u, v]) (ii_enum (l := rows.map IL) rfl) ⟨none, none, none, none, rfl⟩ (fun i x ρ hx ⟨y, z, u, v, e⟩ => by
      subst e
      obtain ⟨r, h1, h2⟩ := enum_at hx
      subst h2
      obtain ⟨h3, rfl⟩ := il_at h1
      rw [Nat.zero_add]
      obtain ⟨ρ2, q1, y2, z2, q2⟩ := hin i h3 ⟨132, 12, 132, 13⟩ ⟨132, 15, 132, 21⟩ ⟨132, 12, 132, 21⟩ ⟨132, 35, 132, 38⟩ ⟨132, 25, 132, 34⟩ ⟨132, 25, 132, 39⟩ ⟨132, 8, 134, 40⟩ u v
      exact ⟨_, rfl, ρ2, p_next (P := fun x => x = _) q1 rfl, _, _, _, _, q2⟩)
    exact ⟨ρ', q⟩
  exact run_call (F := f18) rfl rfl (p_next (P := fun x => x = _) (hfor _ _ _ _ _ _ _).choose_spec rfl) (seal_next h)
theorem e_tied (g : Tied rows) (h : WF S) : callN st.T (n + 1) 17 [RM rows] S = .ok (.dat .non) S := by
  have hfor : ∀ p1 p2 p3 p4 p5 p6 p7, ∃ ρ', evS (st.T.C n) (.for_ (.many [(1, "place", p1), (2, "row", p2)] 0 p3) (.enum (.var 0 "rows" p4) p5 p6) b17_0 p7) [some (RM rows), none, none] S = .go .next ρ' S := by
    intro p1 p2 p3 p4 p5 p6 p7
    obtain ⟨ρ', q, _⟩ := for_same (S := S) (C := st.T.C n) (t := .many [(1, "place", p1), (2, "row", p2)] 0 p3) (it := .enum (.var 0 "rows" p4) p5 p6) (b := b17_0) (p := p7) (fun ρ => ∃ y z, ρ = [some (RM rows), y, z]) (ii_enum (l := rows.map IL) rfl) ⟨none, none, rfl⟩ (fun i x ρ hx ⟨y, z, e⟩ => by
      subst e
      obtain ⟨r, h1, h2⟩ := enum_at hx
      subst h2
      obtain ⟨h3, rfl⟩ := il_at h1
      rw [Nat.zero_add]
      have h4 := g.pos _ (row_mem h3)
      have h5 : ¬ (row rows i).sum = 0 := by omega
      have q1 := sum_dat (m := false) (S := S) (ns := row rows i)
      refine ⟨_, rfl, [some (RM rows), some (RI (i : Int)), some (RL (row rows i))], ?_, _, _, rfl⟩
      refine p_if (S1 := S) (t := false) (P := fun x => x = _) ?_ rfl
      simp only [evE, evEs, M.bind, M.pure, getV]
      simp [q1, cmpR, eqD, h5, M.bind, M.pure])
    exact ⟨ρ', q⟩
  exact run_call (F := f17) rfl rfl (p_next (P := fun x => x = _) (hfor _ _ _ _ _ _ _).choose_spec rfl) (seal_next h)
end K27
set_option Elab.async false
set_option linter.all false
set_option maxRecDepth 100000
set_option maxHeartbeats 1000000
/-! K27I: a web is made. -/
namespace K27
open PySem PySem.Spec PyProof.Rows L2 MP
variable {n : Nat} {S : Store} {rows : List (List Int)} {ties : List D} {kw kd : Nat}
theorem loop_ex {t : IT} {g : Gd} {c : MP.Env → M Bool} {e : MP.Env → M (List R)} {ρ0 : MP.Env} {B : Nat} (hg : gdOk S g = true) : ∀ {xs : List Itm}, (∀ (i : Nat) x, xs[i]? = some x → ∃ ρ', bindT t x ρ0 S = some ρ' ∧ ∃ b, c ρ' S = .ok b S ∧ (b = true → ∃ ds : List D, ds.length ≤ B ∧ e ρ' S = .ok (ds.map R.dat) S)) →
    ∃ ds : List D, ds.length ≤ B * xs.length ∧ lcLoop g (lcTurn t g c e ρ0) xs S = .ok (ds.map R.dat) S
  | [], _ => ⟨[], Nat.zero_le _, by
    show (if gdOk S g = true then _ else _) = _
    rw [if_pos hg]
    rfl⟩
  | x :: xs, h => by
    obtain ⟨ρ', h1, b, h2, h3⟩ := h 0 x rfl
    obtain ⟨ds2, g1, g2⟩ := loop_ex (e := e) (B := B) hg (xs := xs) fun i y hy => h (i + 1) y hy
    have e1 : ∃ ds : List D, ds.length ≤ B ∧ lcTurn t g c e ρ0 x S = .ok (ds.map R.dat) S := by
      unfold lcTurn
      rw [if_pos hg]
      simp only [h1]
      unfold M.noX
      rw [bind_at h2]
      cases b with
      | false => exact ⟨[], Nat.zero_le _, rfl⟩
      | true =>
        obtain ⟨ds, k1, k2⟩ := h3 rfl
        exact ⟨ds, k1, by simp only [if_pos, k2]⟩
    obtain ⟨ds1, k1, k2⟩ := e1
    refine ⟨ds1 ++ ds2, by rw [List.length_append, List.length_cons, Nat.mul_succ]; omega, ?_⟩
    show M.bind (lcTurn t g c e ρ0 x) (fun a => M.bind (lcLoop g (lcTurn t g c e ρ0) xs) fun b => M.pure (a ++ b)) S = _
    rw [bind_at k2, bind_at g2, List.map_append]
    rfl
theorem enum_len : ∀ (l : List R) m, (enumI m l).length = l.length
  | [], _ => rfl
  | a :: l, m => congrArg Nat.succ (enum_len l (m + 1))
theorem lc2_ex {C : Calls} {e : IE} {t t2 : IT} {it it2 : II} {cs2 : IEs} {own : List (Str × Nat)} {vs2 : List Nat} {sc : Scope} {p : Pos} {ρ : MP.Env} {xs : List Itm} {g : Gd} {B : Nat} (hi : evII C it ρ S = .ok (xs, g) S) (hg : gdOk S g = true)
    (hx : ∀ (i : Nat) x, xs[i]? = some x → ∃ ρ', bindT t x (wipeE ρ (own.map (·.2))) S = some ρ' ∧ ∃ xs2 g2, evII C it2 ρ' S = .ok (xs2, g2) S ∧ gdOk S g2 = true ∧ xs2.length ≤ B ∧
      ∀ (j : Nat) y, xs2[j]? = some y → ∃ ρ2, bindT t2 y (wipeE ρ' vs2) S = some ρ2 ∧ ∃ b, evTs C cs2 ρ2 S = .ok b S ∧ (b = true → ∃ d, evE C e ρ2 S = .ok (.dat d) S)) (hB : B * xs.length ≤ 1000000) :
    ∃ ds : List D, evE C (.lc2 false e t it .nil t2 it2 cs2 own vs2 sc p) ρ S = .ok (.dat (.lst ds)) S := by
  obtain ⟨ds, h1, h2⟩ := loop_ex (S := S) (g := g) (t := t) (c := fun ρ' => evTs C .nil ρ') (e := fun ρ' => M.bind (evII C it2 ρ') fun q2 => lcLoop q2.2 (lcTurn t2 q2.2 (fun ρ2 => evTs C cs2 ρ2) (fun ρ2 => M.bind (evE C e ρ2) fun r => M.pure [r]) (wipeE ρ' vs2)) q2.1) (ρ0 := wipeE ρ (own.map (·.2))) (B := B) hg (xs := xs) (fun i x h => by
    obtain ⟨ρ', h1, xs2, g2, h2, h3, h4, h5⟩ := hx i x h
    refine ⟨ρ', h1, true, rfl, fun _ => ?_⟩
    obtain ⟨ds, k1, k2⟩ := loop_ex (S := S) (g := g2) (t := t2) (c := fun ρ2 => evTs C cs2 ρ2) (e := fun ρ2 => M.bind (evE C e ρ2) fun r => M.pure [r]) (ρ0 := wipeE ρ' vs2) (B := 1) h3 (xs := xs2) (fun j y hy => by
      obtain ⟨ρ2, l1, b, l2, l3⟩ := h5 j y hy
      refine ⟨ρ2, l1, b, l2, fun hb => ?_⟩
      obtain ⟨d, l4⟩ := l3 hb
      exact ⟨[d], Nat.le_refl _, by rw [bind_at l4]; rfl⟩)
    exact ⟨ds, by omega, by rw [bind_at h2]; exact k2⟩)
  refine ⟨ds, ?_⟩
  show M.bind (evII C it ρ) (fun q => M.bind (lcLoop q.2 (lcTurn t q.2 (fun ρ' => evTs C .nil ρ') (fun ρ' => M.bind (evII C it2 ρ') fun q2 =>
        lcLoop q2.2 (lcTurn t2 q2.2 (fun ρ2 => evTs C cs2 ρ2) (fun ρ2 => M.bind (evE C e ρ2) fun r => M.pure [r]) (wipeE ρ' vs2)) q2.1) (wipeE ρ (own.map (·.2)))) q.1) (lcOut false)) S = _
  rw [bind_at hi, bind_at h2]
  unfold lcOut
  rw [if_pos (show small (ds.map R.dat).length = true by rw [List.length_map]; exact decide_eq_true (by omega))]
  unfold mkL
  rw [datsR_map]
theorem e_ties (g : Tied rows) {C : Calls} {s : Option R} : ∃ ties, evE C e6_0 [s, some (RM rows), none, none, none, none] S = .ok (.dat (.lst ties)) S := by
  have hz := g.le
  unfold e6_0
  refine lc2_ex (B := 8) (ii_enum (l := rows.map IL) rfl) gd_nil (fun i x hx => ?_) (by rw [enum_len, List.length_map, List.length_map]; omega)
  obtain ⟨r, h1, h2⟩ := enum_at hx
  subst h2
  obtain ⟨h3, rfl⟩ := il_at h1
  rw [Nat.zero_add]
  refine ⟨[s, some (RM rows), some (RI (i : Int)), some (RL (row rows i)), none, none], rfl, _, _, ii_enum (l := (row rows i).map D.int) rfl, gd_nil, by rw [enum_len, List.length_map, List.length_map, g.sq _ (row_mem h3)]; exact hz, fun j y hy => ?_⟩
  obtain ⟨r, k1, k2⟩ := enum_at hy
  subst k2
  obtain ⟨k3, rfl⟩ := rin_at k1
  rw [Nat.zero_add]
  refine ⟨[s, some (RM rows), some (RI (i : Int)), some (RL (row rows i)), some (RI (j : Int)), some (RI (el (row rows i) j))], rfl, decide ((i : Int) ≤ j) && decide (0 < el (row rows i) j), ?_, fun _ => ⟨.tup [.int i, .int j, .int (el (row rows i) j)], rfl⟩⟩
  by_cases a : (i : Int) ≤ j
  · by_cases b : 0 < el (row rows i) j <;> simp [evSs, evS, evE, evEs, evKs, evAnd, evOr, evTs, M.bind, M.pure, SRes.of, getV, truB, optI, MP.start, isTR, tyR, isTy, cmpR, biR, a, b]
  · simp [evSs, evS, evE, evEs, evKs, evAnd, evOr, evTs, M.bind, M.pure, SRes.of, getV, truB, optI, MP.start, isTR, tyR, isTy, cmpR, biR, a]
def webNs : List Str := ["rows", "size", "degrees", "volume", "_ties"]
def webRs (rows : List (List Int)) (ties : List D) : List R := [.dat (.tup (rows.map TL)), RI rows.length, .dat (TL (degs rows)), RI (degs rows).sum, .dat (.tup ties)]
theorem set_last {c c' : Cell} : (S ++ [c]).set S.length c' = S ++ [c'] := by
  rw [List.set_append_right _ _ (Nat.le_refl _), Nat.sub_self]
  rfl
theorem get_last {c : Cell} : (S ++ [c])[S.length]? = some c := by simp
theorem map_row {α : Type} (f : List Int → α) : rows.map f = (List.range rows.length).map fun k => f (row rows k) := by
  refine List.ext_getElem (by simp) fun i h1 h2 => ?_
  have h3 : i < rows.length := by rw [List.length_map] at h1; exact h1
  simp [row, List.getElem?_eq_getElem h3]
theorem tup_dat {m : Bool} {l : List D} : biR m .tuple [.dat (.lst l)] S = .ok (.dat (.tup l)) S := by
  have e : biR m .tuple [.dat (.lst l)] S = mkT (l.map R.dat) S := rfl
  rw [e]
  unfold mkT
  rw [datsR_map]
theorem bi1 {C : Calls} {m : Bool} {f : Bf} {a : IE} {p1 p2 : Pos} {ρ : MP.Env} {r r' : R} (h : evE C a ρ S = .ok r S) (h2 : biR m f [r] S = .ok r' S) : evE C (.bi m f a .nil p1 p2) ρ S = .ok r' S := by
  show M.bind (evE C a ρ) (fun x => M.bind (evEs C .nil ρ) fun xs => biR m f (x :: xs)) S = _
  rw [bind_at h]
  exact h2
theorem e_tups {C : Calls} {s : Option R} (hz : rows.length ≤ 1000000) : evE C e6_2 [s, some (RM rows), none, none, none, none] S = .ok (.dat (.lst (rows.map TL))) S := by
  rw [map_row]
  refine lc_at (l := rows.map IL) (n := rows.length) (ii_of rfl) (by rw [List.length_map]) (fun k d hd => ?_) hz
  have h1 : ((rows.map IL).map R.dat)[k]? = some (.dat d) := by rw [List.getElem?_map, hd]; rfl
  obtain ⟨h3, h4⟩ := il_at h1
  cases h4
  exact bi1 (r := RL (row rows k)) rfl tup_dat
theorem sum_tup {m : Bool} {ns : List Int} : biR m .sum [.dat (TL ns)] S = .ok (RI ns.sum) S := sum_dat (m := m) (ns := ns) (S := S)
def cellOf (ns : List Str) (rs : List R) : Cell := .obj "Web" ns rs
theorem e_init (g : Tied rows) (h : WF S) : ∃ ties, callN st.T (n + 2) 6 [.own S.length, RM rows] (S ++ [cellOf [] []]) = .ok (.dat .non) (S ++ [cellOf webNs (webRs rows ties)]) := by
  have hz := g.le
  have w : ∀ ns (ds : List D), WF (S ++ [cellOf ns (ds.map R.dat)]) := fun ns ds => wf_push h (below_dats ds)
  let ρ : MP.Env := [some (.own S.length), some (RM rows), none, none, none, none]
  have w0 : WF (S ++ [cellOf [] []]) := w [] []
  have c20 : (st.T.C (n + 1)).fn 20 [RM rows] (S ++ [cellOf [] []]) = .ok (.dat .non) (S ++ [cellOf [] []]) := e_square (n := n) g w0
  have c19 : (st.T.C (n + 1)).fn 19 [RM rows] (S ++ [cellOf [] []]) = .ok (.dat .non) (S ++ [cellOf [] []]) := e_weights (n := n) g w0
  have c18 : (st.T.C (n + 1)).fn 18 [RM rows] (S ++ [cellOf [] []]) = .ok (.dat .non) (S ++ [cellOf [] []]) := e_symm (n := n) g w0
  have c17 : (st.T.C (n + 1)).fn 17 [RM rows] (S ++ [cellOf [] []]) = .ok (.dat .non) (S ++ [cellOf [] []]) := e_tied (n := n) g w0
  have call : ∀ i x p1 p2 p3 p4, (st.T.C (n + 1)).fn i [RM rows] (S ++ [cellOf [] []]) = .ok (.dat .non) (S ++ [cellOf [] []]) → evS (st.T.C (n + 1)) (.expr (.call i x (.var 1 "rows" p1) .nil p2 p3) p4) ρ (S ++ [cellOf [] []]) = .go .next ρ (S ++ [cellOf [] []]) := fun i x p1 p2 p3 p4 hc => by
    refine r_expr (r := .dat .non) ?_
    show M.bind (M.pure (RM rows)) (fun x => M.bind (M.pure []) fun xs => (st.T.C (n + 1)).fn i (x :: xs)) (S ++ [cellOf [] []]) = _
    exact hc
  have put : ∀ {e : IE} {f : Str} {ns : List Str} {rs : List R} {r : R} {p1 p2 p3 : Pos}, ns.length < 900 → evE (st.T.C (n + 1)).toCalls e ρ (S ++ [cellOf ns rs]) = .ok r (S ++ [cellOf ns rs]) → evS (st.T.C (n + 1)) (.setAt (.var 0 "self" p1) "Web" f e p2 p3) ρ (S ++ [cellOf ns rs]) = .go .next ρ (S ++ [cellOf (putN f r ns rs).1 (putN f r ns rs).2]) := fun {e f ns rs r p1 p2 p3} hl he => by
    have q : evE (st.T.C (n + 1)).toCalls (.var 0 "self" p1) ρ (S ++ [cellOf ns rs]) = .ok (.own S.length) (S ++ [cellOf ns rs]) := rfl
    have := r_setAt (C := st.T.C (n + 1)) (c := "Web") (f := f) (ps := p2) (p := p3) he q get_last hl
    rw [set_last] at this
    exact this
  obtain ⟨ties, ht⟩ := e_ties (S := S ++ [cellOf ["rows", "size", "degrees", "volume"] [.dat (.tup (rows.map TL)), RI rows.length, .dat (TL (degs rows)), RI (degs rows).sum]]) g (C := (st.T.C (n + 1)).toCalls) (s := some (.own S.length))
  refine ⟨ties, ?_⟩
  have e : evSs (st.T.C (n + 1)) f6.body (MP.start f6 [.own S.length, RM rows]) (S ++ [cellOf [] []]) = .go .next ρ (S ++ [cellOf webNs (webRs rows ties)]) := by
    refine p_next (P := fun x => x = _) (call _ _ _ _ _ _ c20) (p_next (P := fun x => x = _) (call _ _ _ _ _ _ c19) (p_next (P := fun x => x = _) (call _ _ _ _ _ _ c18) (p_next (P := fun x => x = _) (call _ _ _ _ _ _ c17) ?_)))
    refine p_next (P := fun x => x = _) (put (r := .dat (.tup (rows.map TL))) (by decide) (bi1 (e_tups (by omega)) tup_dat)) ?_
    refine p_next (P := fun x => x = _) (put (r := RI rows.length) (by show 1 < 900; decide) (bi1 (r := RM rows) rfl (by rw [len_dat, List.length_map]))) ?_
    refine p_next (P := fun x => x = _) (put (r := .dat (TL (degs rows))) (by show 2 < 900; decide) (bi1 (e_sums rfl (show 3 < 6 by decide) (by omega)) tup_dat)) ?_
    refine p_next (P := fun x => x = _) (put (r := RI (degs rows).sum) (by show 3 < 900; decide) (bi1 (r := .dat (TL (degs rows))) ?_ sum_tup)) ?_
    · show attrR (.own S.length) "Web" "degrees" (S ++ [cellOf _ _]) = _
      unfold attrR
      simp only [get_last]
      rfl
    refine p_next (P := fun x => x = _) (put (r := .dat (.tup ties)) (by show 4 < 900; decide) (bi1 ht tup_dat)) rfl
  refine run_call (F := f6) rfl rfl e ?_
  have e2 : (S ++ [cellOf [] []]).length = (S ++ [cellOf webNs (webRs rows ties)]).length := by simp
  rw [e2]
  exact seal_next (w webNs [.tup (rows.map TL), .int rows.length, TL (degs rows), .int (degs rows).sum, .tup ties])
theorem e_make (g : Tied rows) (h : WF S) {a : IE} {p1 p2 : Pos} {ρ : MP.Env} (ha : evE (st.T.C (n + 2)).toCalls a ρ S = .ok (RM rows) S) : ∃ ties, evE (st.T.C (n + 2)).toCalls (.make false 6 "Web" a .nil p1 p2) ρ S = .ok (.dat (webOf rows ties)) S := by
  obtain ⟨ties, hi⟩ := e_init (n := n) g h
  refine ⟨ties, ?_⟩
  show M.bind (evE (st.T.C (n + 2)).toCalls a ρ) (fun x => M.bind (M.pure []) fun xs => makeR (st.T.C (n + 2)).toCalls false 6 "Web" (x :: xs)) S = _
  rw [bind_at ha]
  show makeR (st.T.C (n + 2)).toCalls false 6 "Web" [RM rows] S = _
  have hi' : (st.T.C (n + 2)).fn 6 (.own S.length :: [RM rows]) (S ++ [.obj "Web" [] []]) = .ok (.dat .non) (S ++ [cellOf webNs (webRs rows ties)]) := hi
  unfold makeR
  rw [hi']
  have t1 : (S ++ [cellOf webNs (webRs rows ties)]).take S.length = S := by simp
  have t2 : (S.all (Cell.below S.length)) = true := h
  have t3 : toD S.length (S ++ [cellOf webNs (webRs rows ties)]) 8 (.own S.length) = some (webOf rows ties) := by
    show (if S.length < S.length then none else match (S ++ [cellOf webNs (webRs rows ties)])[S.length]? with
    | some (.lst rs) => (allD (toD S.length (S ++ [cellOf webNs (webRs rows ties)]) 7) rs).map D.lst
    | some (.tup rs) => (allD (toD S.length (S ++ [cellOf webNs (webRs rows ties)]) 7) rs).map D.tup
    | some (.obj c ns rs) => (allD (toD S.length (S ++ [cellOf webNs (webRs rows ties)]) 7) rs).map (D.obj c ns)
    | none => none) = _
    rw [if_neg (Nat.lt_irrefl _), get_last]
    rfl
  simp only [t1, t2, t3]
  simp
end K27
set_option Elab.async false
set_option linter.all false
set_option maxRecDepth 100000
set_option maxHeartbeats 1000000
/-! K27J: the program's walk and the law's. -/
namespace K27
open PySem PySem.Spec PyProof.Rows L2 MP
variable {rows : List (List Int)} {s : Int}
def scl (s : Int) (rows : List (List Int)) : List (List Int) := rows.map fun r => r.map (s * ·)
theorem scl_len : (scl s rows).length = rows.length := by unfold scl; rw [List.length_map]
theorem scl_row {i : Nat} (h : i < rows.length) : row (scl s rows) i = (row rows i).map (s * ·) := by
  unfold row scl
  rw [List.getElem?_map, List.getElem?_eq_getElem h]
  rfl
theorem el_scl {a : List Int} {j : Nat} : el (a.map (s * ·)) j = s * el a j := by
  unfold el
  rw [List.getElem?_map]
  cases a[j]? with
  | none => exact (Int.mul_zero s).symm
  | some x => rfl
theorem sum_scl : ∀ a : List Int, (a.map (s * ·)).sum = s * a.sum
  | [] => by simp
  | x :: a => by
    rw [List.map_cons, List.sum_cons, List.sum_cons, sum_scl a, Int.mul_add]
theorem degs_scl : degs (scl s rows) = (degs rows).map (s * ·) := by
  unfold degs scl
  rw [List.map_map, List.map_map]
  exact List.map_congr_left fun r _ => sum_scl r
theorem lcm_l (w d : Int) : w ∣ lcmI w d := Int.natAbs_dvd_natAbs.mp (Nat.dvd_lcm_left _ _)
theorem lcm_r (w d : Int) : d ∣ lcmI w d := Int.natAbs_dvd_natAbs.mp (Nat.dvd_lcm_right _ _)
theorem fold_dvd : ∀ (ds : List Int) (w : Int), w ∣ ds.foldl lcmI w
  | [], w => Int.dvd_refl w
  | d :: ds, w => Int.dvd_trans (lcm_l w d) (fold_dvd ds (lcmI w d))
theorem fold_mem : ∀ (ds : List Int) (w d : Int), d ∈ ds → d ∣ ds.foldl lcmI w
  | e :: ds, w, d, h => by
    rcases List.mem_cons.mp h with rfl | h
    · exact Int.dvd_trans (lcm_r w d) (fold_dvd ds (lcmI w d))
    · exact fold_mem ds (lcmI w e) d h
theorem whole_div {r : List Int} (h : r ∈ rows) : whole rows / r.sum * r.sum = whole rows := Int.ediv_mul_cancel (fold_mem (degs rows) 1 r.sum (List.mem_map.mpr ⟨r, h, rfl⟩))
theorem ps_dvd0 : ∀ (rs : List (List Int)) (t : Int), t ∣ rs.foldl (fun t r => t * r.sum) t
  | [], t => Int.dvd_refl t
  | r :: rs, t => Int.dvd_trans (Int.dvd_mul_right t r.sum) (ps_dvd0 rs (t * r.sum))
theorem ps_dvd : ∀ (rs : List (List Int)) (t : Int) (r : List Int), r ∈ rs → r.sum ∣ rs.foldl (fun t r => t * r.sum) t
  | e :: rs, t, r, h => by
    rcases List.mem_cons.mp h with rfl | h
    · exact Int.dvd_trans ⟨t, Int.mul_comm _ _⟩ (ps_dvd0 rs (t * r.sum))
    · exact ps_dvd rs (t * e.sum) r h
theorem ps_div {r : List Int} (h : r ∈ rows) : ps rows / r.sum * r.sum = ps rows := Int.ediv_mul_cancel (ps_dvd rows 1 r h)
theorem sm_mul (c : Int) (f : Nat → Int) : ∀ n, sm n f * c = sm n fun k => f k * c
  | 0 => by rw [sm_zero, sm_zero, Int.zero_mul]
  | n + 1 => by rw [sm_succ, sm_succ, Int.add_mul, sm_mul c f n]
def gp (g : Int) : Nat → Int
  | 0 => 1
  | k + 1 => gp g k * g
theorem und_gp : ∀ k, und rows k = ps rows * gp (ps rows) k * gp (ps rows) k
  | 0 => by show ps rows = ps rows * 1 * 1; rw [Int.mul_one, Int.mul_one]
  | k + 1 => by
    show und rows k * ps rows * ps rows = ps rows * (gp (ps rows) k * ps rows) * (gp (ps rows) k * ps rows)
    rw [und_gp k]
    grind
theorem prt_at {i : Nat} (h : i < rows.length) : el (prt rows) i = ps rows / (row rows i).sum := by
  unfold el prt row
  rw [List.getElem?_map, List.getElem?_eq_getElem h]
  rfl
/-- the two ways to cut -/
theorem cut {i : Nat} (h : i < rows.length) (hp : ∀ r ∈ rows, 0 < r.sum) (hs : 0 < s) : s * (whole (scl s rows) / (row (scl s rows) i).sum) * ps rows = whole (scl s rows) * el (prt rows) i := by
  have h1 := whole_div (rows := scl s rows) (r := row (scl s rows) i) (row_mem (by rw [scl_len]; exact h))
  have h2 := ps_div (rows := rows) (r := row rows i) (row_mem h)
  rw [prt_at h]
  have e : (row (scl s rows) i).sum = s * (row rows i).sum := by rw [scl_row h, sum_scl]
  rw [e] at h1 ⊢
  have e3 : ∀ q p d L G : Int, q * (s * d) = L → p * d = G → s * q * G = L * p := fun q p d L G a b => by
    rw [← a, ← b]
    grind
  exact e3 _ _ _ _ _ h1 h2
theorem pw_eq (hp : ∀ r ∈ rows, 0 < r.sum) (hs : 0 < s) (hsym : ∀ i j, i < rows.length → j < rows.length → el (row rows i) j = el (row rows j) i) (b : Nat) : ∀ k j, j < rows.length → el (pw (scl s rows) b k) j * gp (ps rows) k = el (W rows b k) j * sc (scl s rows) k
  | 0, j, hj => by
    show el (unit (scl s rows).length b) j * 1 = el (unit rows.length b) j * 1
    rw [scl_len]
  | k + 1, j, hj => by
    have ih := pw_eq hp hs hsym b k
    have e1 : el (pw (scl s rows) b (k + 1)) j = sm rows.length fun i => el (pw (scl s rows) b k) i * (s * el (row rows i) j * (whole (scl s rows) / (row (scl s rows) i).sum)) := by
      show el (deal (stepRows (scl s rows)) (pw (scl s rows) b k)) j = _
      unfold deal
      rw [el_map (by rw [sr_len, scl_len]; exact hj), sr_len, scl_len]
      refine sm_congr fun i hi => ?_
      rw [sr_row (by rw [scl_len]; exact hi), scl_len, el_map hj]
      rw [scl_row hi, el_scl]
    have e2 : el (W rows b (k + 1)) j = sm rows.length fun i => el (row rows j) i * (el (W rows b k) i * el (prt rows) i) := by
      show el (lawStep rows (prt rows) (W rows b k)) j = _
      unfold lawStep
      rw [el_map hj]
      refine sm_congr fun i hi => ?_
      unfold lawDeal
      rw [el_map hi]
    show _ * (gp (ps rows) k * ps rows) = _ * (sc (scl s rows) k * whole (scl s rows))
    rw [e1, e2, sm_mul, sm_mul]
    refine sm_congr fun i hi => ?_
    have c := cut hi hp hs
    have h1 := ih i hi
    rw [hsym i j hi hj]
    have alg : ∀ a t g L P q G w sk : Int, a * g = t * sk → s * q * G = L * P → a * (s * w * q) * (g * G) = w * (t * P) * (sk * L) := fun a t g L P q G w sk h1 h2 => by
      have : a * (s * w * q) * (g * G) = (a * g) * w * (s * q * G) := by grind
      rw [this, h1, h2]
      grind
    exact alg _ _ _ _ _ _ _ _ _ h1 c
theorem tot_eq (hp : ∀ r ∈ rows, 0 < r.sum) (hs : 0 < s) (hsym : ∀ i j, i < rows.length → j < rows.length → el (row rows i) j = el (row rows j) i) (b k : Nat) : (degs (scl s rows)).sum * tot (scl s rows) (pw (scl s rows) b k) * und rows k = stray rows k b * botP (scl s rows) (sc (scl s rows) k) := by
  rw [degs_scl, sum_scl, und_gp]
  unfold tot stray botP
  rw [scl_len]
  have key : (sm rows.length (strayT (scl s rows) (pw (scl s rows) b k))) * (s * ps rows * gp (ps rows) k * gp (ps rows) k) = (sm rows.length fun j => el (W rows b k) j * el (W rows b k) j * el (prt rows) j) * (whole (scl s rows) * sc (scl s rows) k * sc (scl s rows) k) := by
    rw [sm_mul, sm_mul]
    refine sm_congr fun i hi => ?_
    unfold strayT
    have c := cut hi hp hs
    have h1 := pw_eq hp hs hsym b k i hi
    have alg : ∀ a t g L P q G sk : Int, a * g = t * sk → s * q * G = L * P → a * a * q * (s * G * g * g) = t * t * P * (L * sk * sk) := fun a t g L P q G sk h1 h2 => by
      have : a * a * q * (s * G * g * g) = (a * g) * (a * g) * (s * q * G) := by grind
      rw [this, h1, h2]
      grind
    exact alg _ _ _ _ _ _ _ _ h1 c
  have alg : ∀ D T G g x y : Int, T * (s * G * g * g) = x * y → s * D * T * (G * g * g) = D * x * y := fun D T G g x y h => by
    have : s * D * T * (G * g * g) = D * (T * (s * G * g * g)) := by grind
    rw [this, h]
    grind
  exact alg _ _ _ _ _ _ key
theorem ps_pos0 : ∀ (rs : List (List Int)) (t : Int), 0 < t → (∀ r ∈ rs, 0 < r.sum) → 0 < rs.foldl (fun t r => t * r.sum) t
  | [], t, h, _ => h
  | r :: rs, t, h, hp => ps_pos0 rs (t * r.sum) (Int.mul_pos h (hp r List.mem_cons_self)) fun r hr => hp r (List.mem_cons_of_mem _ hr)
theorem ps_pos (hp : ∀ r ∈ rows, 0 < r.sum) : 0 < ps rows := ps_pos0 rows 1 (by decide) hp
theorem gp_pos {g : Int} (h : 0 < g) : ∀ k, 0 < gp g k
  | 0 => by show (0 : Int) < 1; decide
  | k + 1 => Int.mul_pos (gp_pos h k) h
theorem und_pos (hp : ∀ r ∈ rows, 0 < r.sum) (k : Nat) : 0 < und rows k := by
  rw [und_gp]
  exact Int.mul_pos (Int.mul_pos (ps_pos hp) (gp_pos (ps_pos hp) k)) (gp_pos (ps_pos hp) k)
theorem lcmI_pos {w d : Int} (hw : 0 < w) (hd : 0 < d) : 0 < lcmI w d := by
  unfold lcmI
  have : 0 < Nat.lcm w.natAbs d.natAbs := Nat.lcm_pos (by omega) (by omega)
  omega
theorem cdeg_pos0 : ∀ (ds : List Int) (w : Int), 0 < w → (∀ d ∈ ds, 0 < d) → 0 < ds.foldl lcmI w
  | [], w, h, _ => h
  | d :: ds, w, h, hd => cdeg_pos0 ds (lcmI w d) (lcmI_pos h (hd d List.mem_cons_self)) fun e he => hd e (List.mem_cons_of_mem _ he)
theorem whole_pos (hp : ∀ r ∈ rows, 0 < r.sum) : 0 < whole rows := cdeg_pos0 (degs rows) 1 (by decide) fun d hd => by
  obtain ⟨r, hr, e⟩ := List.mem_map.mp hd
  rw [← e]
  exact hp r hr
theorem sc_pos (hp : ∀ r ∈ rows, 0 < r.sum) : ∀ k, 0 < sc rows k
  | 0 => by show (0 : Int) < 1; decide
  | k + 1 => Int.mul_pos (sc_pos hp k) (whole_pos hp)
theorem scl_pos (hp : ∀ r ∈ rows, 0 < r.sum) (hs : 0 < s) : ∀ r ∈ scl s rows, 0 < r.sum := fun r hr => by
  obtain ⟨q, hq, e⟩ := List.mem_map.mp hr
  rw [← e]
  show 0 < (q.map (s * ·)).sum
  rw [sum_scl]
  exact Int.mul_pos hs (hp q hq)
theorem set_eq (hp : ∀ r ∈ rows, 0 < r.sum) (hs : 0 < s) (hsym : ∀ i j, i < rows.length → j < rows.length → el (row rows i) j = el (row rows j) i) (grain : Int) (b k : Nat) :
    setQ (scl s rows) (pw (scl s rows) b k) (sc (scl s rows) k) grain = decide ((stray rows k b - und rows k) * grain ≤ und rows k) := by
  unfold setQ
  refine decide_eq_decide.mpr ?_
  have h1 := tot_eq hp hs hsym b k
  have h2 := und_pos hp k
  have h3 : 0 < botP (scl s rows) (sc (scl s rows) k) := Int.mul_pos (Int.mul_pos (whole_pos (scl_pos hp hs)) (sc_pos (scl_pos hp hs) k)) (sc_pos (scl_pos hp hs) k)
  unfold topP
  generalize (degs (scl s rows)).sum * tot (scl s rows) (pw (scl s rows) b k) = X at *
  generalize botP (scl s rows) (sc (scl s rows) k) = B at *
  generalize und rows k = U at *
  generalize stray rows k b = Y at *
  have e : (X - B) * grain * U = B * ((Y - U) * grain) := by
    have : (X - B) * grain * U = (X * U - B * U) * grain := by grind
    rw [this, h1]
    grind
  constructor
  · intro h
    have := Int.mul_le_mul_of_nonneg_right h (Int.le_of_lt h2)
    rw [e] at this
    exact Int.le_of_mul_le_mul_left this h3
  · intro h
    have := Int.mul_le_mul_of_nonneg_left h (Int.le_of_lt h3)
    rw [← e] at this
    exact Int.le_of_mul_le_mul_right this h2
theorem maxI_mem : ∀ l : List Int, l ≠ [] → maxI l ∈ l
  | [], h => absurd rfl h
  | x :: xs, _ => by
    rcases foldl_max xs x with h | h
    · show xs.foldl max x ∈ x :: xs
      rw [h]
      exact List.mem_cons_self
    · exact List.mem_cons_of_mem _ h
theorem maxI_le : ∀ (l : List Int) (y : Int), y ∈ l → y ≤ maxI l
  | x :: xs, y, h => by
    have q := foldl_max_le xs x
    rcases List.mem_cons.mp h with rfl | h
    · exact q.1
    · exact q.2 y h
theorem q_eq (hn : 0 < rows.length) (hp : ∀ r ∈ rows, 0 < r.sum) (hs : 0 < s) (hsym : ∀ i j, i < rows.length → j < rows.length → el (row rows i) j = el (row rows j) i) {grain : Int} (hg : 1 ≤ grain) (k : Nat) : qP (scl s rows) grain k = lawQ rows grain k := by
  unfold qP
  rw [scl_len, List.all_map]
  rw [Bool.eq_iff_iff, List.all_eq_true]
  unfold lawQ wtop
  rw [decide_eq_true_iff]
  have hne : strays rows k ≠ [] := fun h => by
    have := congrArg List.length h
    unfold strays at this
    rw [List.length_map, List.length_range, List.length_nil] at this
    omega
  constructor
  · intro h
    obtain ⟨b, hb, e⟩ := List.mem_map.mp (maxI_mem _ hne)
    have := h b hb
    rw [Function.comp, set_eq hp hs hsym grain b k] at this
    have := of_decide_eq_true this
    rw [e] at this
    exact this
  · intro h b hb
    rw [Function.comp, set_eq hp hs hsym grain b k]
    refine decide_eq_true ?_
    have h1 := maxI_le (strays rows k) (stray rows k b) (List.mem_map.mpr ⟨b, hb, rfl⟩)
    have h2 : (stray rows k b - und rows k) * grain ≤ (maxI (strays rows k) - und rows k) * grain := Int.mul_le_mul_of_nonneg_right (by omega) (by omega)
    exact Int.le_trans h2 h
end K27
set_option Elab.async false
set_option linter.all false
set_option maxRecDepth 100000
set_option maxHeartbeats 1000000
/-! K27K: a draw from the pool. -/
namespace K27
open PySem PySem.Spec PyProof.Rows L2 MP
variable {n : Nat} {S : Store}
abbrev pool (ns : List Int) : Cell := .lst ((ns.map D.int).map R.dat)
theorem wf_set {S : Store} {k : Nat} {c : Cell} (h : WF S) (hc : c.below S.length = true) : WF (S.set k c) := by
  show (S.set k c).all (Cell.below (S.set k c).length) = true
  rw [List.length_set, List.all_eq_true]
  intro x hx
  rcases List.mem_or_eq_of_mem_set hx with h1 | h1
  · exact List.all_eq_true.mp h x h1
  · rw [h1]
    exact hc
theorem pys_map : ∀ ns : List Int, pys (ns.map D.int) = some (ns.map PyData.int)
  | [] => rfl
  | i :: ns => by
    show (match some (PyData.int i), pys (ns.map D.int) with
    | some x, some xs => some (x :: xs)
    | _, _ => none) = _
    rw [pys_map ns]
    rfl
theorem eq_pool {k : Nat} {ns : List Int} (hS : S[k]? = some (pool ns)) (hsh : SeqAt.shaped (.list (ns.map PyData.int)) = true) : eqD S (.own k) (.dat (.lst [])) = some ns.isEmpty := by
  have e1 : toD 0 S 8 (.own k) = some (.lst (ns.map D.int)) := by
    rw [toD_lst hS (Nat.zero_le _), allD_dat]
    rfl
  have e2 : toD 0 S 8 (.dat (.lst [])) = some (.lst []) := rfl
  have e3 : py (.lst (ns.map D.int)) = some (.list (ns.map PyData.int)) := by
    show (pys (ns.map D.int)).map PyData.list = _
    rw [pys_map]
    rfl
  have e4 : py (.lst []) = some (.list []) := rfl
  show (match toD 0 S 8 (.own k), toD 0 S 8 (.dat (.lst [])) with
    | some d, some e => (match py d, py e with
      | some x, some y => if SeqAt.shaped x = true ∧ SeqAt.shaped y = true then some (PyData.eqv x y) else none
      | _, _ => none)
    | _, _ => none) = _
  rw [e1, e2]
  show (match py (.lst (ns.map D.int)), py (.lst []) with
      | some x, some y => if SeqAt.shaped x = true ∧ SeqAt.shaped y = true then some (PyData.eqv x y) else none
      | _, _ => none) = _
  rw [e3, e4]
  show (if SeqAt.shaped (.list (ns.map PyData.int)) = true ∧ SeqAt.shaped (.list []) = true then some (PyData.eqv (.list (ns.map PyData.int)) (.list [])) else none) = _
  rw [if_pos ⟨hsh, by decide⟩]
  cases ns <;> rfl
theorem lay_ints : ∀ ns : List Int, PyData.canLayAll0 (ns.map PyData.int) = true
  | [] => by simp [PyData.canLayAll0]
  | i :: ns => by simp [PyData.canLayAll0, PyData.canLay0, lay_ints ns]
theorem dep_ints : ∀ ns : List Int, PyData.depthAll (ns.map PyData.int) ≤ 2
  | [] => by simp [PyData.depthAll]
  | i :: ns => by
    have := dep_ints ns
    simp [PyData.depthAll, PyData.depth] <;> omega
theorem sh_ints (ns : List Int) : SeqAt.shaped (.list (ns.map PyData.int)) = true := by
  unfold SeqAt.shaped
  have h1 := lay_ints ns
  have h2 := dep_ints ns
  rw [Bool.and_eq_true, decide_eq_true_iff]
  refine ⟨by simp [PyData.canLay0, h1], ?_⟩
  simp only [PyData.depth]
  omega
theorem draw_ret {k : Nat} {ns : List Int} {x : Int} {ρ : MP.Env} (h : WF S) : sealS S.length (.go (.ret (RI x)) ρ (S.set k (pool ns))) = .ok (RI x) (S.set k (pool ns)) := by
  have e : S.length = (S.set k (pool ns)).length := by rw [List.length_set]
  have w : WF (S.set k (pool ns)) := wf_set h (below_dats _)
  rw [e]
  exact seal_dat w
theorem e_draw {ns : List Int} {k : Nat} {many : Int} (hS : S[k]? = some (pool ns)) (h0 : ∀ x ∈ ns, 0 ≤ x) (hm : 0 < many) (hl : many.natAbs.log2 < 9000) (h : WF S) :
    ∃ x ns', 0 ≤ x ∧ x < many ∧ (∀ y ∈ ns', 0 ≤ y) ∧ callN st.T (n + 1) 2 [.own k, RI many] S = .ok (RI x) (S.set k (pool ns')) := by
  have hk : k < S.length := (List.getElem?_eq_some_iff.mp hS).1
  have dk : divOk many = true := decide_eq_true ⟨hm, hl⟩
  have eS : S.set k (pool ns) = S := by
    rw [List.getElem?_eq_some_iff] at hS
    obtain ⟨h1, h2⟩ := hS
    rw [← h2, List.set_getElem_self]
  have eq := eq_pool hS (sh_ints ns)
  have cnd : ∀ p1 p2 p3 a2 a3, evE (st.T.C n).toCalls (.cmp .eq (.var 0 "pool" p1) (.lst false .nil p2) p3) [some (.own k), some (RI many), a2, a3] S = .ok (.dat (.bl ns.isEmpty)) S := fun p1 p2 p3 a2 a3 => by
    show cmpR .eq (.own k) (.dat (.lst [])) S = _
    show (match eqD S (.own k) (.dat (.lst [])) with
      | some c => Res.ok (R.dat (.bl c)) S
      | none => .stuck) = _
    rw [eq]
  cases ns with
  | nil =>
    refine ⟨0, [], Int.le_refl _, hm, (fun y hy => by cases hy), ?_⟩
    rw [eS]
    exact run_ret (F := f2) rfl rfl h (p_if (P := RetOk _ S) (cnd _ _ _ _ _) ⟨rfl, rfl⟩)
  | cons a as =>
    have ha : 0 ≤ a := h0 a List.mem_cons_self
    have q0 := ix_own (S := S) (t := 0) (r := RI a) hS rfl
    have q1 : ixR (.own k) (RI 0) S = .ok (RI a) S := q0
    have b1 : 0 ≤ a % many := Int.emod_nonneg _ (by omega)
    have b2 : a % many < many := Int.emod_lt_of_pos _ hm
    have b3 : 0 ≤ a / many := Int.ediv_nonneg ha (by omega)
    have told : ∀ p1 p2 p3 p4 p5 p6 p7 a2 a3, evE (st.T.C n).toCalls (.bin false .mod (.bi false .int (.ix (.var 0 "pool" p1) (.int 0 0 p2) p3) .nil p4 p5) (.var 1 "many" p6) p7) [some (.own k), some (RI many), a2, a3] S = .ok (RI (a % many)) S := fun p1 p2 p3 p4 p5 p6 p7 a2 a3 => by
      simp [evSs, evS, evE, evEs, evKs, evAnd, evOr, evTs, M.bind, M.pure, SRes.of, getV, truB, optI, MP.start, isTR, tyR, isTy, cmpR, biR, q1, binR, hm]
    have rest : ∀ p1 p2 p3 p4 p5 p6 p7 a2 a3, evE (st.T.C n).toCalls (.bin false .fdiv (.bi false .int (.ix (.var 0 "pool" p1) (.int 0 0 p2) p3) .nil p4 p5) (.var 1 "many" p6) p7) [some (.own k), some (RI many), a2, a3] S = .ok (RI (a / many)) S := fun p1 p2 p3 p4 p5 p6 p7 a2 a3 => by
      simp [evSs, evS, evE, evEs, evKs, evAnd, evOr, evTs, M.bind, M.pure, SRes.of, getV, truB, optI, MP.start, isTR, tyR, isTy, cmpR, biR, q1, binR, dk]
    have cn2 : ∀ p1 p2 p3 a2, evE (st.T.C n).toCalls (.cmp .eq (.var 3 "rest" p1) (.int 0 0 p2) p3) [some (.own k), some (RI many), a2, some (RI (a / many))] S = .ok (.dat (.bl (decide (a / many = 0)))) S := fun p1 p2 p3 a2 => by
      show (match eqD S (RI (a / many)) (RI 0) with
        | some c => Res.ok (R.dat (.bl c)) S
        | none => .stuck) = _
      rfl
    have hS2 : S[k]? = some (.lst (RI a :: (as.map D.int).map R.dat)) := hS
    by_cases hz : a / many = 0
    · refine ⟨a % many, as, b1, b2, fun y hy => h0 y (List.mem_cons_of_mem _ hy), ?_⟩
      have e : evSs (st.T.C n) f2.body (MP.start f2 [.own k, RI many]) S = .go (.ret (RI (a % many))) [some (.own k), some (RI many), some (RI (a % many)), some (RI (a / many))] (S.set k (pool as)) := by
        refine p_if (S1 := S) (P := fun x => x = _) (cnd _ _ _ _ _) ?_
        refine p_asg (S1 := S) (P := fun x => x = _) _ (told _ _ _ _ _ _ _ _ _) (p_asg (S1 := S) (P := fun x => x = _) _ (rest _ _ _ _ _ _ _ _ _) ?_)
        refine p_if (S1 := S) (P := fun x => x = _) (cn2 _ _ _ _) ?_
        rw [decide_eq_true hz, if_pos rfl]
        simp [evSs, evS, evE, evEs, evKs, evAnd, evOr, evTs, M.bind, M.pure, SRes.of, getV, truB, optI, MP.start, isTR, tyR, isTy, cmpR, biR, lmRecv, lmR, hS2, SRes.of, MP.start, f2, pool]
      exact run_call (F := f2) rfl rfl e (draw_ret h)
    · refine ⟨a % many, a / many :: as, b1, b2, fun y hy => ?_, ?_⟩
      · rcases List.mem_cons.mp hy with rfl | hy
        · exact b3
        · exact h0 y (List.mem_cons_of_mem _ hy)
      have e : evSs (st.T.C n) f2.body (MP.start f2 [.own k, RI many]) S = .go (.ret (RI (a % many))) [some (.own k), some (RI many), some (RI (a % many)), some (RI (a / many))] (S.set k (pool (a / many :: as))) := by
        refine p_if (S1 := S) (P := fun x => x = _) (cnd _ _ _ _ _) ?_
        refine p_asg (S1 := S) (P := fun x => x = _) _ (told _ _ _ _ _ _ _ _ _) (p_asg (S1 := S) (P := fun x => x = _) _ (rest _ _ _ _ _ _ _ _ _) ?_)
        refine p_if (S1 := S) (P := fun x => x = _) (cn2 _ _ _ _) ?_
        rw [decide_eq_false hz, if_neg Bool.false_ne_true]
        simp [evSs, evS, evE, evEs, evKs, evAnd, evOr, evTs, M.bind, M.pure, SRes.of, getV, truB, optI, MP.start, isTR, tyR, isTy, cmpR, biR, setIxR, ixN, hS2, SRes.of, MP.start, f2, pool]
      exact run_call (F := f2) rfl rfl e (draw_ret h)
end K27
set_option Elab.async false
set_option linter.all false
set_option maxRecDepth 100000
set_option maxHeartbeats 1000000
/-! K27L: a bad grain is refused. -/
namespace K27
open PySem PySem.Spec PyProof.Rows L2 MP
variable {n : Nat} {S : Store} {w : D} {grain : Int}
theorem e_settlesX (h1 : grain < 1 ∨ 1000000 < grain) (h : WF S) : callN st.T (n + 2) 4 [.dat w, RI grain] S = .exc "OutOfRange" ["value"] [.int grain] S := by
  have e16 : (st.T.C (n + 1)).fn 16 [RI grain] S = .exc "OutOfRange" ["value"] [.int grain] S := e_grainX (n := n) h1 h
  have e : evSs (st.T.C (n + 1)) f4.body (MP.start f4 [.dat w, RI grain]) S = .exc "OutOfRange" ["value"] [.int grain] (MP.start f4 [.dat w, RI grain]) S := by
    refine ss_exc ?_
    simp [evSs, evS, evE, evEs, evKs, evAnd, evOr, evTs, M.bind, M.pure, SRes.of, getV, truB, optI, MP.start, isTR, tyR, isTy, cmpR, biR, f4, e16]
  exact run_call (F := f4) rfl rfl e (seal_exc h)
theorem e_range (h1 : grain < 1 ∨ 1000000 < grain) (h : WF S) : callN st.T (n + 3) 1 [.dat w, RI grain] S = .ok (.dat (.bl true)) S := by
  have e4 : (st.T.C (n + 2)).fn 4 [.dat w, RI grain] S = .exc "OutOfRange" ["value"] [.int grain] S := e_settlesX (n := n) h1 h
  have e10 : (st.T.C (n + 2)).fn 10 [RI grain] S = .ok (.dat (.bl true)) S := e_whole (n := n + 1) grain h
  have s1 : (st.T.C (n + 2)).sub "OutOfRange" "OutOfRange" = some true := rfl
  have s2 : (st.T.C (n + 2)).sub "OutOfRange" "BadPlace" = some false := rfl
  have s3 : (st.T.C (n + 2)).sub "OutOfRange" "GapError" = some true := rfl
  have x1 : (st.T.C (n + 2)).xf "OutOfRange" "value" = true := rfl
  refine run_ret (F := f1) rfl rfl h ?_
  simp [RetOk, f1, ir1, evSs, evS, evE, evEs, evKs, evAnd, evOr, evTs, M.bind, M.pure, SRes.of, getV, truB, optI, MP.start, isTR, tyR, isTy, cmpR, biR, e4, e10, s1, s2, s3, x1, xIsR, xAtR, lookA, dropX, eqD]
end K27
set_option Elab.async false
set_option linter.all false
set_option maxRecDepth 100000
set_option maxHeartbeats 1000000
/-! K27M: an edge grain. -/
namespace K27
open PySem PySem.Spec PyProof.Rows L2 MP
variable {n : Nat} {S : Store} {rows : List (List Int)}
theorem e_edge {k : Nat} {more : Int} (hk : k < 61) (hm : 0 ≤ more) (hs : Sm 8999 (wtop rows k)) (h : WF S) : ∃ g, 1 ≤ g ∧ g ≤ 1000000 ∧ callN st.T (n + 1) 7 [.dat (.lst (wsD rows 61)), RI (k : Int), RI more] S = .ok (RI g) S := by
  have q0 := ix_nat (S := S) (wst_at (rows := rows) hk)
  have q1 := ix_tup (S := S) (l := [.int (wtop rows k), .int (und rows k)]) (k := 0) rfl
  have q2 := ix_tup (S := S) (l := [.int (wtop rows k), .int (und rows k)]) (k := 1) rfl
  have q1' : ixR (.dat (.tup [.int (wtop rows k), .int (und rows k)])) (RI 0) S = .ok (RI (wtop rows k)) S := q1
  have q2' : ixR (.dat (.tup [.int (wtop rows k), .int (und rows k)])) (RI 1) S = .ok (RI (und rows k)) S := q2
  have p1 : powOk 10 6 = true := by decide
  by_cases hz : wtop rows k ≤ 0
  · refine ⟨1000000, by decide, by decide, run_ret (F := f7) rfl rfl h ?_⟩
    simp [RetOk, f7, ir7, evSs, evS, evE, evEs, evKs, evAnd, evOr, evTs, M.bind, M.pure, SRes.of, getV, truB, optI, MP.start, isTR, tyR, isTy, cmpR, biR, q0, q1', q2', hz, binR, p1]
  · have dk : divOk (wtop rows k) = true := decide_eq_true ⟨by omega, by have := hs.log; omega⟩
    refine ⟨min 1000000 (max 1 (und rows k / wtop rows k) + more), by omega, by omega, run_ret (F := f7) rfl rfl h ?_⟩
    simp [RetOk, f7, ir7, evSs, evS, evE, evEs, evKs, evAnd, evOr, evTs, M.bind, M.pure, SRes.of, getV, truB, optI, MP.start, isTR, tyR, isTy, cmpR, biR, q0, q1', q2', hz, binR, p1, dk]
def flat : List (List Int) := [[1, 1], [1, 1]]
theorem flat_tied : Tied flat := ⟨by decide, by decide, by decide, by decide, fun i j hi hj => by
  have h : flat.length = 2 := rfl
  rw [h] at hi hj
  have : i = 0 ∨ i = 1 := by omega
  have : j = 0 ∨ j = 1 := by omega
  rcases ‹i = 0 ∨ i = 1› with rfl | rfl <;> rcases ‹j = 0 ∨ j = 1› with rfl | rfl <;> rfl, by decide⟩
theorem flat_net : Net flat 100 104 := ⟨by decide, by decide, fun r hr x hx => by
  have h : x = 1 := by
    have : ∀ r ∈ flat, ∀ x ∈ r, x = 1 := by decide
    exact this r hr x hx
  subst h
  show (1 : Int).natAbs < 2 ^ 100
  decide, fun r hr => by
  have h : r.sum = 2 := by
    have : ∀ r ∈ flat, r.sum = 2 := by decide
    exact this r hr
  rw [h]
  show (2 : Int).natAbs < 2 ^ 104
  decide, by decide, by decide, by decide⟩
theorem flat_due {grain : Int} {r : R} (h : Due (qP flat grain) r) (hg : 1 ≤ grain) : r = RI (if 1 < grain then 1 else 0) := by
  have q0 : qP flat grain 0 = (decide (2 * grain ≤ 2) && (decide (2 * grain ≤ 2) && true)) := rfl
  have q1 : qP flat grain 1 = (decide (0 * grain ≤ 8) && (decide (0 * grain ≤ 8) && true)) := rfl
  have t1 : qP flat grain 1 = true := by rw [q1]; simp
  by_cases c : 1 < grain
  · have f0 : qP flat grain 0 = false := by
      rw [q0, decide_eq_false (by omega : ¬ 2 * grain ≤ 2)]
      rfl
    rw [if_pos c]
    rcases h with ⟨i, h1, h2, h3, h4⟩ | ⟨h1, _⟩
    · have : i = 1 := by
        rcases Nat.lt_trichotomy i 1 with y | y | y
        · have : i = 0 := by omega
          rw [this, f0] at h2
          cases h2
        · exact y
        · rw [h3 1 y] at t1
          cases t1
      rw [h4, this]
      rfl
    · rw [h1 1 (by decide)] at t1
      cases t1
  · have f0 : qP flat grain 0 = true := by
      rw [q0, decide_eq_true (by omega : 2 * grain ≤ 2)]
      rfl
    rw [if_neg c]
    rcases h with ⟨i, h1, h2, h3, h4⟩ | ⟨h1, _⟩
    · have : i = 0 := by
        cases i with
        | zero => rfl
        | succ i =>
          rw [h3 0 (by omega)] at f0
          cases f0
      rw [h4, this]
      rfl
    · rw [h1 0 (by decide)] at f0
      cases f0
end K27
set_option Elab.async false
set_option linter.all false
set_option maxRecDepth 100000
set_option maxHeartbeats 1000000
/-! K27N: the drawn rows. -/
namespace K27
open PySem PySem.Spec PyProof.Rows L2 MP
variable {n : Nat} {S : Store} {rows : List (List Int)}
theorem e_let {shape size : Int} {i j : Nat} (hi : i < 1000) (hj : j < 1000) (h : WF S) : ∃ b, callN st.T (n + 1) 27 [RI shape, RI (i : Int), RI (j : Int), RI size] S = .ok (.dat (.bl b)) S := by
  have m1 : mulOk 2 (i : Int) = true := mulOk_of (a := 3) (b := 10) (show (2 : Int).natAbs < 2 ^ 3 by decide) (by show (i : Int).natAbs < 2 ^ 10; omega) (by decide)
  have m2 : mulOk 2 (j : Int) = true := mulOk_of (a := 3) (b := 10) (show (2 : Int).natAbs < 2 ^ 3 by decide) (by show (j : Int).natAbs < 2 ^ 10; omega) (by decide)
  by_cases c2 : shape = 2
  · exact ⟨!decide ((i : Int) = j), run_ret (F := f27) rfl rfl h (by simp [RetOk, f27, ir27, evSs, evS, evE, evEs, evKs, evAnd, evOr, evTs, M.bind, M.pure, SRes.of, getV, truB, optI, MP.start, isTR, tyR, isTy, cmpR, biR, eqD, c2])⟩
  by_cases c3 : shape = 3
  · exact ⟨_, run_ret (F := f27) rfl rfl h (by simp [RetOk, f27, ir27, evSs, evS, evE, evEs, evKs, evAnd, evOr, evTs, M.bind, M.pure, SRes.of, getV, truB, optI, MP.start, isTR, tyR, isTy, cmpR, biR, eqD, c3, binR]; rfl)⟩
  by_cases c4 : shape = 4
  · exact ⟨_, run_ret (F := f27) rfl rfl h (by simp [RetOk, f27, ir27, evSs, evS, evE, evEs, evKs, evAnd, evOr, evTs, M.bind, M.pure, SRes.of, getV, truB, optI, MP.start, isTR, tyR, isTy, cmpR, biR, eqD, c4, binR]; rfl)⟩
  by_cases c5 : shape = 5
  · exact ⟨_, run_ret (F := f27) rfl rfl h (by simp [RetOk, f27, ir27, evSs, evS, evE, evEs, evKs, evAnd, evOr, evTs, M.bind, M.pure, SRes.of, getV, truB, optI, MP.start, isTR, tyR, isTy, cmpR, biR, eqD, c5, binR]; rfl)⟩
  by_cases c6 : shape = 6
  · exact ⟨_, run_ret (F := f27) rfl rfl h (by simp [RetOk, f27, ir27, evSs, evS, evE, evEs, evKs, evAnd, evOr, evTs, M.bind, M.pure, SRes.of, getV, truB, optI, MP.start, isTR, tyR, isTy, cmpR, biR, eqD, c6, binR, m1, m2]; rfl)⟩
  by_cases c7 : shape = 7
  · exact ⟨_, run_ret (F := f27) rfl rfl h (by simp [RetOk, f27, ir27, evSs, evS, evE, evEs, evKs, evAnd, evOr, evTs, M.bind, M.pure, SRes.of, getV, truB, optI, MP.start, isTR, tyR, isTy, cmpR, biR, eqD, c7, binR]; rfl)⟩
  exact ⟨true, run_ret (F := f27) rfl rfl h (by simp [RetOk, f27, ir27, evSs, evS, evE, evEs, evKs, evAnd, evOr, evTs, M.bind, M.pure, SRes.of, getV, truB, optI, MP.start, isTR, tyR, isTy, cmpR, biR, eqD, c2, c3, c4, c5, c6, c7])⟩
/-! ### the rows being filled -/
def ownsR (b m : Nat) : List R := (List.range m).map fun i => R.own (b + i)
/-- a loop that makes one cell at each turn -/
theorem loop_new {t : IT} {c : MP.Env → M Bool} {e : MP.Env → M (List R)} {ρ0 : MP.Env} {cell : Cell} : ∀ {xs : List Itm} {S : Store}, (∀ x ∈ xs, ∀ S, ∃ ρ', bindT t x ρ0 S = some ρ' ∧ c ρ' S = .ok true S ∧ e ρ' S = .ok [.own S.length] (S ++ [cell])) →
    lcLoop [] (lcTurn t [] c e ρ0) xs S = .ok (ownsR S.length xs.length) (S ++ List.replicate xs.length cell)
  | [], S, _ => by
    show (if gdOk S [] = true then Res.ok [] S else .stuck) = _
    rw [if_pos gd_nil]
    simp [ownsR]
  | x :: xs, S, h => by
    obtain ⟨ρ', h1, h2, h3⟩ := h x List.mem_cons_self S
    have e1 : lcTurn t [] c e ρ0 x S = .ok [.own S.length] (S ++ [cell]) := by
      unfold lcTurn
      rw [if_pos gd_nil]
      simp only [h1]
      unfold M.noX
      rw [bind_at h2]
      simp only [if_pos, h3]
    have ih := loop_new (t := t) (c := c) (e := e) (ρ0 := ρ0) (cell := cell) (xs := xs) (S := S ++ [cell]) fun y hy => h y (List.mem_cons_of_mem _ hy)
    show M.bind (lcTurn t [] c e ρ0 x) (fun a => M.bind (lcLoop [] (lcTurn t [] c e ρ0) xs) fun b => M.pure (a ++ b)) S = _
    rw [bind_at e1, bind_at ih]
    have e2 : [R.own S.length] ++ ownsR (S ++ [cell]).length xs.length = ownsR S.length (xs.length + 1) := by
      unfold ownsR
      rw [List.range_succ_eq_map, List.map_cons, List.map_map]
      simp [Function.comp_def, Nat.add_assoc, Nat.add_comm 1]
    show Res.ok ([R.own S.length] ++ ownsR (S ++ [cell]).length xs.length) _ = _
    rw [e2]
    simp [List.replicate_succ]
/-- the pool and what lies under, the rows' cells, the list of them -/
def stM (S : Store) (M : List (List Int)) : Store := S ++ (M.map pool ++ [Cell.lst (ownsR S.length M.length)])
theorem rng_lenN (lo : Int) (m : Nat) : (rngI lo m).length = m := by rw [rng_eq, List.length_map, List.length_range]
theorem e_zeros {C : Calls} {m : Nat} (hm : m ≤ 1000) {a0 a2 a3 a4 a5 a6 a7 a8 : Option R} : evE C e24_3 [a0, some (RI (m : Int)), a2, a3, a4, a5, a6, a7, a8] S = .ok (.own (S.length + m)) (stM S (List.replicate m (List.replicate m 0))) := by
  have hi : ∀ p1 p2 p3, evII C (.rng1 (.var 1 "size" p1) p2 p3) [a0, some (RI (m : Int)), a2, a3, a4, a5, a6, a7, a8] S = .ok (rngI 0 m, []) S := fun _ _ _ => ii_rng1 (n := m) rfl (by omega)
  unfold e24_3
  have hx : ∀ (p1 p2 p3 p4 p5 : Pos), ∀ x ∈ rngI 0 m, ∀ S', ∃ ρ', bindT (.one 8 "k" p5) x (wipeE [a0, some (RI (m : Int)), a2, a3, a4, a5, a6, a7, a8] [8]) S' = some ρ' ∧ evTs C .nil ρ' S' = .ok true S' ∧
      (M.bind (evE C (.bin true .mul (.lst false (.cons (.int 0 0 p1) .nil) p2) (.var 1 "size" p3) p4) ρ') fun r => M.pure [r]) S' = .ok [.own S'.length] (S' ++ [pool (List.replicate m 0)]) := by
    intro p1 p2 p3 p4 p5 x hx S'
    rw [rng_eq] at hx
    obtain ⟨k, hk, rfl⟩ := List.mem_map.mp hx
    refine ⟨_, rfl, rfl, ?_⟩
    have e : evE C (.bin true .mul (.lst false (.cons (.int 0 0 p1) .nil) p2) (.var 1 "size" p3) p4) [a0, some (RI (m : Int)), a2, a3, a4, a5, a6, a7, some (RI (0 + (k : Int)))] S' = .ok (.own S'.length) (S' ++ [pool (List.replicate m 0)]) := by
      show repL true (.dat (.lst [.int 0])) (m : Int) S' = _
      have q : itemsL S' (.dat (.lst [.int 0])) = some [RI 0] := rfl
      unfold repL
      rw [q]
      have h1 : small ([RI 0].length * (m : Int).toNat) = true := decide_eq_true (by simp; omega)
      simp only [h1]
      rw [if_pos ⟨trivial, by omega, by omega⟩]
      unfold mkL
      simp [pool]
    exact (bind_at e).trans rfl
  refine (bind_at (hi _ _ _)).trans ?_
  refine (bind_at (loop_new (S := S) (xs := rngI 0 m) (hx _ _ _ _ _))).trans ?_
  unfold lcOut
  have h2 : small (ownsR S.length (rngI 0 m).length).length = true := by
    unfold ownsR
    rw [List.length_map, List.length_range, rng_lenN]
    exact decide_eq_true (by omega)
  rw [if_pos h2]
  unfold mkL stM
  simp [rng_lenN]
end K27
set_option Elab.async false
set_option linter.all false
set_option maxRecDepth 100000
set_option maxHeartbeats 1000000
/-! K27O: the store while rows are filled. -/
namespace K27
open PySem PySem.Spec PyProof.Rows L2 MP
variable {n : Nat} {S : Store} {M : List (List Int)}
theorem stM_len : (stM S M).length = S.length + M.length + 1 := by
  unfold stM
  rw [List.length_append, List.length_append, List.length_map]
  simp only [List.length_cons, List.length_nil]
  omega
theorem stM_outer : (stM S M)[S.length + M.length]? = some (.lst (ownsR S.length M.length)) := by
  unfold stM
  rw [List.getElem?_append_right (by omega), List.getElem?_append_right (by rw [List.length_map]; omega), List.length_map]
  simp
theorem stM_row {i : Nat} (h : i < M.length) : (stM S M)[S.length + i]? = some (pool (row M i)) := by
  unfold stM row
  rw [List.getElem?_append_right (by omega), List.getElem?_append_left (by rw [List.length_map]; omega)]
  rw [show S.length + i - S.length = i by omega, List.getElem?_map, List.getElem?_eq_getElem h]
  rfl
theorem stM_low {i : Nat} (h : i < S.length) : (stM S M)[i]? = S[i]? := by
  unfold stM
  rw [List.getElem?_append_left h]
theorem stM_set {i : Nat} {r : List Int} (h : i < M.length) : (stM S M).set (S.length + i) (pool r) = stM S (M.set i r) := by
  unfold stM
  rw [List.set_append_right _ _ (by omega), show S.length + i - S.length = i by omega, List.set_append_left _ _ (by rw [List.length_map]; exact h), List.length_set, List.map_set]
theorem stM_setlow {i : Nat} {c : Cell} (h : i < S.length) : (stM S M).set i c = stM (S.set i c) M := by
  unfold stM
  rw [List.set_append_left _ _ h, List.length_set]
theorem stM_wf (h : WF S) : WF (stM S M) := by
  show (stM S M).all (Cell.below (stM S M).length) = true
  rw [stM_len, List.all_eq_true]
  intro x hx
  unfold stM at hx
  rcases List.mem_append.mp hx with h1 | h1
  · exact Cell.below_mono (by omega) (List.all_eq_true.mp h x h1)
  · rcases List.mem_append.mp h1 with h2 | h2
    · obtain ⟨r, _, rfl⟩ := List.mem_map.mp h2
      exact below_dats _
    · cases List.mem_singleton.mp h2
      refine List.all_eq_true.mpr fun r hr => ?_
      obtain ⟨i, hi, rfl⟩ := List.mem_map.mp hr
      have := List.mem_range.mp hi
      exact decide_eq_true (by omega)
def put (M : List (List Int)) (i j : Nat) (w : Int) : List (List Int) := M.set i ((row M i).set j w)
theorem put_len {i j : Nat} {w : Int} : (put M i j w).length = M.length := by unfold put; rw [List.length_set]
theorem ix_outer {i : Nat} (h : i < M.length) : ixR (.own (S.length + M.length)) (RI (i : Int)) (stM S M) = .ok (.own (S.length + i)) (stM S M) :=
  ix_own stM_outer (by unfold ownsR; rw [List.getElem?_map, List.getElem?_range h]; rfl)
theorem set_cell {i j : Nat} {w : Int} (h : i < M.length) (hj : j < (row M i).length) : setIxR (.own (S.length + i)) (RI (j : Int)) (RI w) (stM S M) = .ok () (stM S (put M i j w)) := by
  have h1 := stM_row (S := S) h
  have h2 : ixN (((row M i).map D.int).map R.dat).length (j : Int) = some j := by
    rw [List.length_map, List.length_map]
    unfold ixN
    have a1 : ¬ (j : Int) < 0 := by omega
    simp [a1, hj]
  show (match (stM S M)[S.length + i]? with
    | some (.lst rs) => (match ixN rs.length (j : Int) with
      | some k => Res.ok () ((stM S M).set (S.length + i) (.lst (rs.set k (RI w))))
      | none => .stuck)
    | _ => .stuck) = _
  rw [h1]
  simp only [h2]
  have e : (((row M i).map D.int).map R.dat).set j (RI w) = (((row M i).set j w).map D.int).map R.dat := by
    rw [List.map_set, List.map_set]
  rw [e]
  exact congrArg _ (stM_set h)
end K27
set_option Elab.async false
set_option linter.all false
set_option maxRecDepth 100000
set_option maxHeartbeats 1000000
/-! K27P: square lists, and what filling keeps. -/
namespace K27
open PySem PySem.Spec PyProof.Rows L2 MP
variable {n : Nat} {S : Store} {M : List (List Int)} {m : Nat} {B : Int}
theorem row_put {i j a : Nat} {w : Int} (hi : i < M.length) : row (put M i j w) a = if a = i then (row M i).set j w else row M a := by
  unfold put
  by_cases h : a = i
  · subst h
    rw [if_pos rfl]
    show (M.set a ((row M a).set j w))[a]?.getD [] = _
    rw [List.getElem?_set_self hi]
    rfl
  · rw [if_neg h]
    show (M.set i ((row M i).set j w))[a]?.getD [] = M[a]?.getD []
    rw [List.getElem?_set_ne (fun e => h e.symm)]
theorem el_set {a : List Int} {j b : Nat} {w : Int} (hj : j < a.length) : el (a.set j w) b = if b = j then w else el a b := by
  unfold el
  by_cases h : b = j
  · subst h
    rw [if_pos rfl, List.getElem?_set_self hj]
    rfl
  · rw [if_neg h, List.getElem?_set_ne (fun e => h e.symm)]
def ent (M : List (List Int)) (a b : Nat) : Int := el (row M a) b
theorem ent_put {i j a b : Nat} {w : Int} (hi : i < M.length) (hj : j < (row M i).length) : ent (put M i j w) a b = if a = i ∧ b = j then w else ent M a b := by
  unfold ent
  rw [row_put hi]
  by_cases h : a = i
  · subst h
    rw [if_pos rfl, el_set hj]
    by_cases h2 : b = j
    · rw [if_pos h2, if_pos ⟨rfl, h2⟩]
    · rw [if_neg h2, if_neg fun z => h2 z.2]
  · rw [if_neg h, if_neg fun z => h z.1]
structure Sq (m : Nat) (B : Int) (M : List (List Int)) : Prop where
  len : M.length = m
  row : ∀ i, i < m → (K27.row M i).length = m
  pos : ∀ i j, i < m → j < m → 0 ≤ ent M i j ∧ ent M i j ≤ B
  sym : ∀ i j, i < m → j < m → ent M i j = ent M j i
def put2 (M : List (List Int)) (i j : Nat) (w : Int) : List (List Int) := put (put M i j w) j i w
theorem Sq.lenput (g : Sq m B M) {i j : Nat} {w : Int} (hi : i < m) {a : Nat} (ha : a < m) : (K27.row (put M i j w) a).length = m := by
  rw [row_put (by rw [g.len]; exact hi)]
  split
  · rw [List.length_set]
    exact g.row i hi
  · exact g.row a ha
theorem Sq.ent2 (g : Sq m B M) {i j : Nat} {w : Int} (hi : i < m) (hj : j < m) (a b : Nat) : ent (put2 M i j w) a b = if (a = i ∧ b = j) ∨ (a = j ∧ b = i) then w else ent M a b := by
  unfold put2
  rw [ent_put (by rw [put_len, g.len]; exact hj) (by rw [g.lenput hi hj]; exact hi), ent_put (by rw [g.len]; exact hi) (by rw [g.row i hi]; exact hj)]
  by_cases h1 : a = j ∧ b = i
  · rw [if_pos h1, if_pos (Or.inr h1)]
  · rw [if_neg h1]
    by_cases h2 : a = i ∧ b = j
    · rw [if_pos h2, if_pos (Or.inl h2)]
    · rw [if_neg h2, if_neg fun z => z.elim h2 h1]
theorem Sq.put2 (g : Sq m B M) {i j : Nat} {w : Int} (hi : i < m) (hj : j < m) (h0 : 0 ≤ w) (h1 : w ≤ B) : Sq m B (put2 M i j w) := by
  refine ⟨by unfold K27.put2; rw [put_len, put_len]; exact g.len, fun a ha => ?_, fun a b ha hb => ?_, fun a b ha hb => ?_⟩
  · unfold K27.put2
    rw [row_put (by rw [put_len, g.len]; exact hj)]
    split
    · rw [List.length_set]
      exact g.lenput hi hj
    · exact g.lenput hi ha
  · rw [g.ent2 hi hj]
    split
    · exact ⟨h0, h1⟩
    · exact g.pos a b ha hb
  · rw [g.ent2 hi hj, g.ent2 hi hj]
    have sw : ∀ {x y : Nat}, (x = i ∧ y = j) ∨ (x = j ∧ y = i) → (y = i ∧ x = j) ∨ (y = j ∧ x = i) := fun z => z.elim (fun z => .inr ⟨z.2, z.1⟩) fun z => .inl ⟨z.2, z.1⟩
    by_cases h : (a = i ∧ b = j) ∨ (a = j ∧ b = i)
    · rw [if_pos h, if_pos (sw h)]
    · rw [if_neg h, if_neg fun z => h (sw z)]
      exact g.sym a b ha hb
end K27
set_option Elab.async false
set_option linter.all false
set_option maxRecDepth 100000
set_option maxHeartbeats 1000000
/-! K27Q: _law_drawn. -/
namespace K27
open PySem PySem.Spec PyProof.Rows L2 MP
variable {n : Nat} {S : Store} {M : List (List Int)} {m : Nat} {B : Int}
abbrev drE (m : Nat) (top shape : Int) (i j : Nat) (y z : Option R) : MP.Env := [some (.own 0), some (RI (m : Int)), some (RI top), some (RI shape), some (.own (1 + m)), some (RI (i : Int)), some (RI (j : Int)), y, z]
theorem p_eq {C : CallsX} {r : ISs} {ρ : MP.Env} {x : SRes} {P : SRes → Prop} (h : evSs C r ρ S = x) (k : P x) : P (evSs C r ρ S) := by
  rw [h]
  exact k
/-- rows[a][b] = w in any such environment -/
theorem r_put {C : CallsX} {ρ : MP.Env} {ns : List Int} {a b : IE} {e : IE} {p1 p2 : Pos} {i j : Nat} {w : Int} (hn : M.length = m) (hr : ∀ S, evE C.toCalls a ρ S = ixR (.own (1 + m)) (RI (i : Int)) S) (hb : ∀ S, evE C.toCalls b ρ S = .ok (RI (j : Int)) S) (he : ∀ S, evE C.toCalls e ρ S = .ok (RI w) S)
    (hi : i < M.length) (hj : j < (row M i).length) : evS C (.setIx a b e p1 p2) ρ (stM [pool ns] M) = .go .next ρ (stM [pool ns] (put M i j w)) := by
  have h1 := ix_outer (S := [pool ns]) hi
  have h2 := set_cell (S := [pool ns]) (w := w) hi hj
  have h3 : [pool ns].length = 1 := rfl
  rw [h3, hn] at h1
  rw [h3] at h2
  show SRes.of ρ (MP.M.bind (evE C.toCalls e ρ) (fun v => MP.M.bind (evE C.toCalls a ρ) fun x => MP.M.bind (evE C.toCalls b ρ) fun y => setIxR x y v) (stM [pool ns] M)) _ = _
  rw [bind_at (he _), bind_at ((hr _).trans h1), bind_at (hb _), h2]
  rfl
theorem e_put2 (g : Sq m B M) {ns : List Int} {w : Int} {i j : Nat} (hi : i < m) (hj : j < m) {C : CallsX} {e : IE} {ρ : MP.Env} {p1 p2 p3 p4 p5 p6 q1 q2 q3 q4 q5 q6 : Pos} (he : ∀ S, evE C.toCalls e ρ S = .ok (RI w) S) {e' : IE} (he' : ∀ S, evE C.toCalls e' ρ S = .ok (RI w) S)
    (h4 : ρ[4]? = some (some (.own (1 + m)))) (h5 : ρ[5]? = some (some (RI (i : Int)))) (h6 : ρ[6]? = some (some (RI (j : Int)))) :
    evSs C (.cons (.setIx (.ix (.var 4 "rows" p1) (.var 5 "i" p2) p3) (.var 6 "j" p4) e p5 p6) (.cons (.setIx (.ix (.var 4 "rows" q1) (.var 6 "j" q2) q3) (.var 5 "i" q4) e' q5 q6) .nil)) ρ (stM [pool ns] M) = .go .next ρ (stM [pool ns] (put2 M i j w)) := by
  have g4 : ∀ p S, evE C.toCalls (.var 4 "rows" p) ρ S = .ok (.own (1 + m)) S := fun p S => by
    show getV ρ 4 S = _
    unfold getV
    rw [h4]
    rfl
  have g5 : ∀ p S, evE C.toCalls (.var 5 "i" p) ρ S = .ok (RI (i : Int)) S := fun p S => by
    show getV ρ 5 S = _
    unfold getV
    rw [h5]
    rfl
  have g6 : ∀ p S, evE C.toCalls (.var 6 "j" p) ρ S = .ok (RI (j : Int)) S := fun p S => by
    show getV ρ 6 S = _
    unfold getV
    rw [h6]
    rfl
  refine (ss_next (r_put (m := m) (i := i) (j := j) (w := w) g.len (fun _ => c_ix (g4 _ _) (g5 _ _) rfl) (fun _ => g6 _ _) he (by rw [g.len]; exact hi) (by rw [g.row i hi]; exact hj))).trans ?_
  refine (ss_next (r_put (m := m) (i := j) (j := i) (w := w) (by rw [put_len]; exact g.len) (fun _ => c_ix (g4 _ _) (g6 _ _) rfl) (fun _ => g5 _ _) he' (by rw [put_len, g.len]; exact hj) (by rw [g.lenput hi hj]; exact hi))).trans rfl
theorem wf_pool (ns : List Int) : WF [pool ns] := wf_push (S := []) wf_nil (below_dats _)
theorem e_drawM {ns : List Int} {many : Int} (h0 : ∀ x ∈ ns, 0 ≤ x) (hm : 0 < many) (hl : many.natAbs.log2 < 9000) :
    ∃ x ns', 0 ≤ x ∧ x < many ∧ (∀ y ∈ ns', 0 ≤ y) ∧ callN st.T (n + 1) 2 [.own 0, RI many] (stM [pool ns] M) = .ok (RI x) (stM [pool ns'] M) := by
  have hS : (stM [pool ns] M)[0]? = some (pool ns) := by
    rw [stM_low (show 0 < [pool ns].length from Nat.zero_lt_one)]
    rfl
  obtain ⟨x, ns', a, b, c, d⟩ := e_draw (n := n) hS h0 hm hl (stM_wf (wf_pool ns))
  rw [stM_setlow (show 0 < [pool ns].length from Nat.zero_lt_one)] at d
  exact ⟨x, ns', a, b, c, d⟩
theorem ii_rng2 {C : Calls} {ρ : MP.Env} {a b : IE} {p0 p : Pos} {i m : Nat} (ha : evE C a ρ S = .ok (RI (i : Int)) S) (hb : evE C b ρ S = .ok (RI (m : Int)) S) (hi : i ≤ 1000000) (hm : m ≤ 1000000) : evII C (.rng2 a b p0 p) ρ S = .ok (rngI i (m - i), []) S := by
  show MP.M.bind (evE C a ρ) _ S = _
  rw [bind_at ha, bind_at hb]
  show (if rngOk (i : Int) = true ∧ rngOk (m : Int) = true then MP.M.pure (rngI (i : Int) ((m : Int) - (i : Int)).toNat, ([] : Gd)) else MP.M.stuck) S = _
  have e1 : rngOk (i : Int) = true := decide_eq_true ⟨by omega, by omega⟩
  have e2 : rngOk (m : Int) = true := decide_eq_true ⟨by omega, by omega⟩
  rw [if_pos ⟨e1, e2⟩, show ((m : Int) - (i : Int)).toNat = m - i by omega]
  rfl
/-- while the entries are drawn -/
def Fl (m : Nat) (B top shape : Int) (iv : Option R) (ρ : MP.Env) (S : Store) : Prop := ∃ jv y z ns M, ρ = [some (.own 0), some (RI (m : Int)), some (RI top), some (RI shape), some (.own (1 + m)), iv, jv, y, z] ∧ S = stM [pool ns] M ∧ Sq m B M ∧ ∀ x ∈ ns, 0 ≤ x
theorem e_turn {top shape : Int} {i k : Nat} {ρ : MP.Env} {P : SRes → Prop} (hm : m ≤ 999) (h1 : 0 < top) (h2 : top ≤ B + 1) (hl : top.natAbs.log2 < 9000) (hi : i < m) (hk : k < m - i) (h : Fl m B top shape (some (RI (i : Int))) ρ S) :
    Turn (Fl m B top shape (some (RI (i : Int)))) P (evSs (st.T.C (n + 1)) b24_1 (ρ.set 6 (some (RI ((i : Int) + (k : Int))))) S) := by
  obtain ⟨jv, y, z, ns, M, rfl, rfl, g, h0⟩ := h
  rw [← Int.natCast_add]
  have hj : i + k < m := by omega
  generalize i + k = j at *
  show Turn _ _ (evSs _ _ (drE m top shape i j y z) _)
  obtain ⟨b, hb⟩ := e_let (n := n) (S := stM [pool ns] M) (shape := shape) (size := (m : Int)) (i := i) (j := j) (by omega) (by omega) (stM_wf (wf_pool ns))
  refine w_if b hb (fun _ => ?_) (fun _ => ⟨_, _, _, _, _, rfl, rfl, g, h0⟩)
  obtain ⟨x, ns', a1, a2, a3, a4⟩ := e_drawM (n := n) (M := M) h0 h1 hl
  have fin : ∀ (w : Int) (p1 p2 p3 p4 p5 p6 q1 q2 q3 q4 q5 q6 p7 q7 : Pos), 0 ≤ w → w < top → Turn (Fl m B top shape (some (RI (i : Int)))) P (evSs (st.T.C (n + 1)) (.cons (.setIx (.ix (.var 4 "rows" p1) (.var 5 "i" p2) p3) (.var 6 "j" p4) (.var 7 "weight" p7) p5 p6) (.cons (.setIx (.ix (.var 4 "rows" q1) (.var 6 "j" q2) q3) (.var 5 "i" q4) (.var 7 "weight" q7) q5 q6) .nil)) (drE m top shape i j (some (RI w)) z) (stM [pool ns'] M)) := fun w _ _ _ _ _ _ _ _ _ _ _ _ _ _ w0 w1 =>
    p_eq (e_put2 (w := w) g hi hj (fun _ => rfl) (fun _ => rfl) rfl rfl rfl) ⟨_, _, _, _, _, rfl, rfl, g.put2 hi hj w0 (by omega), a3⟩
  refine p_asg (RI x) a4 ?_
  refine w_if _ (c_and (x := !decide ((i : Int) = (j : Int))) (y := decide (99 < top)) rfl rfl) (fun t1 => ?_) (fun t1 => ?_)
  · have e : 99 < top := by
      rw [Bool.and_eq_true, decide_eq_true_iff] at t1
      exact t1.2
    refine p_asg (RI (top - 1 - x)) rfl ?_
    refine w_if _ (c_and (x := !decide ((i : Int) = (j : Int))) (y := decide (top < 99)) rfl rfl) (fun t2 => ?_) (fun t2 => fin _ _ _ _ _ _ _ _ _ _ _ _ _ _ _ (by omega) (by omega))
    rw [Bool.and_eq_true, decide_eq_true_iff] at t2
    omega
  · refine w_if _ (c_and (x := !decide ((i : Int) = (j : Int))) (y := decide (top < 99)) rfl rfl) (fun t2 => ?_) (fun t2 => fin _ _ _ _ _ _ _ _ _ _ _ _ _ _ _ a1 a2)
    refine p_asg (RI ((x + 1) % top)) ?_ (fin _ _ _ _ _ _ _ _ _ _ _ _ _ _ _ (Int.emod_nonneg _ (by omega)) (Int.emod_lt_of_pos _ h1))
    refine c_bin (x := RI (x + 1)) (y := RI top) rfl rfl ?_
    show (if 0 < top then MP.M.pure (RI ((x + 1) % top)) else MP.M.stuck) _ = _
    rw [if_pos h1]
    rfl
end K27
set_option Elab.async false
set_option linter.all false
set_option maxRecDepth 100000
set_option maxHeartbeats 1000000
/-! K27R: _law_drawn's rows are a net's. -/
namespace K27
open PySem PySem.Spec PyProof.Rows L2 MP
variable {n : Nat} {S : Store} {M : List (List Int)} {m : Nat} {B : Int}
theorem sum_nn : ∀ (l : List Int), (∀ x ∈ l, 0 ≤ x) → 0 ≤ l.sum
  | [], _ => Int.le_refl _
  | x :: l, h => by
    rw [List.sum_cons]
    have h1 := h x List.mem_cons_self
    have h2 := sum_nn l fun y hy => h y (List.mem_cons_of_mem _ hy)
    omega
theorem sum_ge : ∀ (l : List Int) (x : Int), (∀ x ∈ l, 0 ≤ x) → x ∈ l → x ≤ l.sum
  | y :: l, x, h, hx => by
    rw [List.sum_cons]
    have h1 := h y List.mem_cons_self
    have h2 := sum_nn l fun y hy => h y (List.mem_cons_of_mem _ hy)
    rcases List.mem_cons.mp hx with rfl | hx
    · omega
    · have := sum_ge l x (fun y hy => h y (List.mem_cons_of_mem _ hy)) hx
      omega
theorem mem_el {a : List Int} {x : Int} (h : x ∈ a) : ∃ k, k < a.length ∧ x = el a k := by
  obtain ⟨k, hk, e⟩ := List.mem_iff_getElem.mp h
  refine ⟨k, hk, ?_⟩
  unfold el
  rw [List.getElem?_eq_getElem hk, ← e]
  rfl
theorem Sq.nn (g : Sq m B M) {a : Nat} (ha : a < m) : ∀ x ∈ K27.row M a, 0 ≤ x := fun x hx => by
  obtain ⟨k, hk, rfl⟩ := mem_el hx
  rw [g.row a ha] at hk
  exact (g.pos a k ha hk).1
theorem Sq.pos_of (g : Sq m B M) {a b : Nat} (ha : a < m) (hb : b < m) (h : 0 < ent M a b) : 0 < (K27.row M a).sum := by
  have := sum_ge (K27.row M a) (ent M a b) (g.nn ha) (el_mem (by rw [g.row a ha]; exact hb))
  omega
theorem Sq.put2_row (g : Sq m B M) {i j a : Nat} {w : Int} (hi : i < m) (hj : j < m) (h1 : a ≠ i) (h2 : a ≠ j) : K27.row (K27.put2 M i j w) a = K27.row M a := by
  unfold K27.put2
  rw [row_put (by rw [put_len, g.len]; exact hj), if_neg h2, row_put (by rw [g.len]; exact hi), if_neg h1]
theorem sum_own {b : Bool} {k : Nat} {ns : List Int} (h : S[k]? = some (pool ns)) : biR b .sum [.own k] S = .ok (RI ns.sum) S := by
  have e : itemsR S (.own k) = some ((ns.map D.int).map R.dat) := by
    unfold itemsR
    simp only [h]
  show (match (itemsR S (.own k)).bind intsR with
    | some xs => Res.ok (R.dat (.int xs.sum)) S
    | none => .stuck) = _
  rw [e, List.map_map]
  have e2 : (ns.map (R.dat ∘ D.int)) = ns.map fun i => R.dat (.int i) := rfl
  rw [e2, Option.bind_some, intsR_map]
/-- while bare places are tied -/
def Fb (m : Nat) (B top shape : Int) (k : Nat) (ρ : MP.Env) (S : Store) : Prop := ∃ iv jv y z ns M, ρ = [some (.own 0), some (RI (m : Int)), some (RI top), some (RI shape), some (.own (1 + m)), iv, jv, y, z] ∧ S = stM [pool ns] M ∧ Sq m B M ∧ (∀ x ∈ ns, 0 ≤ x) ∧ ∀ a, a < k → 0 < (row M a).sum
theorem e_tie {top shape : Int} {i : Nat} {ρ : MP.Env} {P : SRes → Prop} (hB : 1 ≤ B) (hi : i < m) (h : Fb m B top shape i ρ S) :
    Turn (Fb m B top shape (i + 1)) P (evSs (st.T.C (n + 1)) b24_0 (ρ.set 5 (some (RI (0 + (i : Int))))) S) := by
  obtain ⟨iv, jv, y, z, ns, M, rfl, rfl, g, h0, hp⟩ := h
  rw [Int.zero_add]
  have hr := stM_row (S := [pool ns]) (M := M) (i := i) (by rw [g.len]; exact hi)
  have hs := sum_own (b := false) hr
  have ho := ix_outer (S := [pool ns]) (M := M) (i := i) (by rw [g.len]; exact hi)
  have h3 : [pool ns].length = 1 := rfl
  rw [h3] at hs ho
  rw [g.len] at ho
  refine w_if (decide ((row M i).sum = 0)) (c_cmp (c_bi1 (c_ix rfl rfl ho) hs) rfl rfl) (fun t => ?_) (fun t => ⟨_, _, _, _, _, _, rfl, rfl, g, h0, fun a ha => ?_⟩)
  · have fin : ∀ (ρ : MP.Env) (j : Nat) (p1 p2 p3 p4 p5 p6 q1 q2 q3 q4 q5 q6 p7 q7 : Pos), j < m → ρ = [some (.own 0), some (RI (m : Int)), some (RI top), some (RI shape), some (.own (1 + m)), some (RI (i : Int)), some (RI (j : Int)), y, z] → Turn (Fb m B top shape (i + 1)) P (evSs (st.T.C (n + 1)) (.cons (.setIx (.ix (.var 4 "rows" p1) (.var 5 "i" p2) p3) (.var 6 "j" p4) (.int 1 0 p7) p5 p6) (.cons (.setIx (.ix (.var 4 "rows" q1) (.var 6 "j" q2) q3) (.var 5 "i" q4) (.int 1 0 q7) q5 q6) .nil)) ρ (stM [pool ns] M)) := by
      intro ρ j _ _ _ _ _ _ _ _ _ _ _ _ _ _ hj e
      subst e
      have g' := g.put2 (w := 1) hi hj (by decide) hB
      refine p_eq (e_put2 (w := 1) g hi hj (fun _ => rfl) (fun _ => rfl) rfl rfl rfl) ⟨_, _, _, _, _, _, rfl, rfl, g', h0, fun a ha => ?_⟩
      by_cases e1 : a = i
      · exact g'.pos_of (b := j) (by omega) hj (by rw [g.ent2 hi hj, if_pos (Or.inl ⟨e1, rfl⟩)]; decide)
      · by_cases e2 : a = j
        · exact g'.pos_of (b := i) (by omega) hi (by rw [g.ent2 hi hj, if_pos (Or.inr ⟨e2, rfl⟩)]; decide)
        · rw [g.put2_row hi hj e1 e2]
          exact hp a (by omega)
    refine p_asg (RI ((i : Int) + 1)) rfl ?_
    refine w_if (decide ((i : Int) + 1 = (m : Int))) rfl (fun t => ?_) (fun t => ?_)
    · refine p_asg (RI (max 0 ((i : Int) - 1))) rfl (fin _ (i - 1) _ _ _ _ _ _ _ _ _ _ _ _ _ _ (by omega) ?_)
      rw [show max 0 ((i : Int) - 1) = ((i - 1 : Nat) : Int) by omega]
      rfl
    · have := of_decide_eq_false t
      exact fin _ (i + 1) _ _ _ _ _ _ _ _ _ _ _ _ _ _ (by omega) rfl
  · by_cases e1 : a = i
    · have h1 := of_decide_eq_false t
      have h2 := sum_nn _ (g.nn hi)
      rw [e1]
      omega
    · exact hp a (by omega)
theorem allD_map {f : R → Option D} {g : Nat → R} {h : Nat → D} : ∀ k, (∀ i, i < k → f (g i) = some (h i)) → allD f ((List.range k).map g) = some ((List.range k).map h) := by
  have gen : ∀ l : List Nat, (∀ i ∈ l, f (g i) = some (h i)) → allD f (l.map g) = some (l.map h) := fun l => by
    induction l with
    | nil => intro _; rfl
    | cons i l ih =>
      intro H
      show (match f (g i), allD f (l.map g) with
        | some d, some ds => some (d :: ds)
        | _, _ => none) = _
      rw [H i List.mem_cons_self, ih fun j hj => H j (List.mem_cons_of_mem _ hj)]
      rfl
  exact fun k H => gen _ fun i hi => H i (List.mem_range.mp hi)
theorem toD_rows {ns : List Int} : toD 1 (stM [pool ns] M) 8 (.own (1 + M.length)) = some (.lst (M.map IL)) := by
  have h1 := stM_outer (S := [pool ns]) (M := M)
  have h3 : [pool ns].length = 1 := rfl
  rw [h3] at h1
  rw [toD_lst h1 (by omega)]
  unfold ownsR
  rw [allD_map (h := fun i => IL (row M i)) M.length fun i hi => by
    have h2 := stM_row (S := [pool ns]) hi
    rw [h3] at h2
    rw [toD_lst h2 (by omega), allD_dat]
    rfl]
  rw [map_row]
  rfl
theorem sq_zero (hB : 0 ≤ B) : Sq m B (List.replicate m (List.replicate m 0)) := by
  have hr : ∀ i, i < m → row (List.replicate m (List.replicate m (0 : Int))) i = List.replicate m 0 := fun i hi => by
    unfold row
    rw [List.getElem?_replicate, if_pos hi]
    rfl
  have he : ∀ i j, i < m → j < m → ent (List.replicate m (List.replicate m (0 : Int))) i j = 0 := fun i j hi hj => by
    unfold ent
    rw [hr i hi]
    unfold el
    rw [List.getElem?_replicate, if_pos hj]
    rfl
  refine ⟨List.length_replicate, fun i hi => by rw [hr i hi, List.length_replicate], fun i j hi hj => by rw [he i j hi hj]; exact ⟨Int.le_refl _, hB⟩, fun i j hi hj => by rw [he i j hi hj, he j i hj hi]⟩
theorem e_drawn {ns : List Int} {top : Int} (h0 : ∀ x ∈ ns, 0 ≤ x) (hm : m ≤ 999) (hB : 1 ≤ B) (h1 : 0 < top) (h2 : top ≤ B + 1) (hl : top.natAbs.log2 < 9000) :
    ∃ M ns', Sq m B M ∧ (∀ a, a < m → 0 < (row M a).sum) ∧ (∀ y ∈ ns', 0 ≤ y) ∧ callN st.T (n + 2) 24 [.own 0, RI (m : Int), RI top] [pool ns] = .ok (RM M) [pool ns'] := by
  refine run_q (F := f24) (fun r => ∃ M ns', Sq m B M ∧ (∀ a, a < m → 0 < (row M a).sum) ∧ (∀ y ∈ ns', 0 ≤ y) ∧ r = .ok (RM M) [pool ns']) rfl rfl ?_
  obtain ⟨shape, ns1, _, _, n1, d1⟩ := e_draw (n := n) (S := [pool ns]) (k := 0) (many := 8) rfl h0 (by decide) (by decide) (wf_pool ns)
  let P : SRes → Prop := fun x => ∃ M ns', Sq m B M ∧ (∀ a, a < m → 0 < (row M a).sum) ∧ (∀ y ∈ ns', 0 ≤ y) ∧ sealS 1 x = .ok (RM M) [pool ns']
  show P _
  refine p_asg (S1 := [pool ns1]) (RI shape) d1 ?_
  refine w_ifN (decide (8 < (m : Int))) (fun ρ S => ∃ shape : Int, ρ = [some (.own 0), some (RI (m : Int)), some (RI top), some (RI shape), none, none, none, none, none] ∧ S = [pool ns1]) rfl (fun _ => p_asg (RI 4) rfl ⟨4, rfl, rfl⟩) (fun _ => ⟨shape, rfl, rfl⟩) ?_
  intro ρ S ⟨shape, e1, e2⟩
  subst e1 e2
  refine p_asg _ (e_zeros (by omega)) ?_
  refine w_rng (n := m) (lo := 0) (fun k ρ S => ∃ iv, Fl m B top shape iv ρ S) (ii_rng1 (n := m) rfl (by omega)) ?_ (fun k ρ S hk ⟨iv, jv, y, z, ns, M, e1, e2, g, h0⟩ => ?_) (fun ρ S ⟨iv, jv, y, z, ns, M, e1, e2, g, h0⟩ => ?_)
  · exact ⟨none, none, none, none, ns1, _, rfl, rfl, sq_zero (by omega), n1⟩
  · subst e1 e2
    rw [Int.zero_add]
    refine w_rng (n := m - k) (lo := (k : Int)) (fun _ => Fl m B top shape (some (RI (k : Int)))) (ii_rng2 (i := k) (m := m) rfl rfl (by omega) (by omega)) ⟨_, _, _, _, _, rfl, rfl, g, h0⟩ (fun q ρ S hq hh => e_turn hm h1 h2 hl hk hq hh) (fun ρ S hh => ⟨_, hh⟩)
  · subst e1 e2
    refine w_rng (n := m) (lo := 0) (Fb m B top shape) (ii_rng1 (n := m) rfl (by omega)) ⟨_, _, _, _, _, _, rfl, rfl, g, h0, fun a ha => by omega⟩ (fun q ρ S hq hh => e_tie hB hq hh) (fun ρ S ⟨iv, jv, y, z, ns, M, e1, e2, g, h0, hp⟩ => ?_)
    subst e1 e2
    refine w_ret (v := .own (1 + m)) rfl ⟨M, ns, g, hp, h0, ?_⟩
    have hd := toD_rows (M := M) (ns := ns)
    rw [g.len] at hd
    exact seal_own (S := [pool ns]) (S0 := [pool ns]) rfl (wf_pool ns) (by show 1 ≤ 1 + m; omega) hd
end K27
set_option Elab.async false
set_option linter.all false
set_option maxRecDepth 100000
set_option maxHeartbeats 1000000
/-! K27S: _law_plain. -/
namespace K27
open PySem PySem.Spec PyProof.Rows L2 MP
variable {n : Nat} {S : Store} {M : List (List Int)} {m : Nat} {B : Int}
/-- rows of a small net -/
def Nice (B : Int) (rows : List (List Int)) : Prop := ∃ m, 1 ≤ m ∧ m ≤ 8 ∧ Sq m B rows ∧ ∀ a, a < m → 0 < (row rows a).sum
theorem Sq.mono {B' : Int} (g : Sq m B M) (h : B ≤ B') : Sq m B' M := ⟨g.len, g.row, fun i j hi hj => ⟨(g.pos i j hi hj).1, Int.le_trans (g.pos i j hi hj).2 h⟩, g.sym⟩
theorem nice_two {l : Int} (h1 : 0 ≤ l) (h2 : l ≤ 50)   : Nice 50 [[l, 1], [1, l]] := by
  have two : ∀ {i : Nat}, i < 2 → i = 0 ∨ i = 1 := fun h => by omega
  have e00 : ent [[l, 1], [1, l]] 0 0 = l := rfl
  have e01 : ent [[l, 1], [1, l]] 0 1 = 1 := rfl
  have e10 : ent [[l, 1], [1, l]] 1 0 = 1 := rfl
  have e11 : ent [[l, 1], [1, l]] 1 1 = l := rfl
  refine ⟨2, by decide, by decide, ⟨rfl, fun i hi => ?_, fun i j hi hj => ?_, fun i j hi hj => ?_⟩, fun i hi => ?_⟩
  · rcases two hi with rfl | rfl <;> rfl
  · rcases two hi with rfl | rfl <;> rcases two hj with rfl | rfl <;> simp only [e00, e01, e10, e11] <;> omega
  · rcases two hi with rfl | rfl <;> rcases two hj with rfl | rfl <;> simp only [e00, e01, e10, e11]
  · rcases two hi with rfl | rfl
    · have : (row [[l, 1], [1, l]] 0).sum = l + (1 + 0) := rfl
      omega
    · have : (row [[l, 1], [1, l]] 1).sum = 1 + (l + 0) := rfl
      omega
theorem nice_dec {rows : List (List Int)} (m : Nat) (h : (decide (1 ≤ m ∧ m ≤ 8 ∧ rows.length = m) && (List.range m).all fun i => decide ((row rows i).length = m) && decide (0 < (row rows i).sum) && (List.range m).all fun j => decide (0 ≤ ent rows i j ∧ ent rows i j ≤ 50 ∧ ent rows i j = ent rows j i)) = true) : Nice 50 rows := by
  rw [Bool.and_eq_true, decide_eq_true_iff, List.all_eq_true] at h
  obtain ⟨⟨h1, h2, h3⟩, h4⟩ := h
  have g : ∀ i, i < m → (row rows i).length = m ∧ 0 < (row rows i).sum ∧ ∀ j, j < m → 0 ≤ ent rows i j ∧ ent rows i j ≤ 50 ∧ ent rows i j = ent rows j i := fun i hi => by
    have := h4 i (List.mem_range.mpr hi)
    rw [Bool.and_eq_true, Bool.and_eq_true, decide_eq_true_iff, decide_eq_true_iff, List.all_eq_true] at this
    exact ⟨this.1.1, this.1.2, fun j hj => of_decide_eq_true (this.2 j (List.mem_range.mpr hj))⟩
  exact ⟨m, h1, h2, ⟨h3, fun i hi => (g i hi).1, fun i j hi hj => ⟨((g i hi).2.2 j hj).1, ((g i hi).2.2 j hj).2.1⟩, fun i j hi hj => ((g i hi).2.2 j hj).2.2⟩, fun i hi => (g i hi).2.1⟩
def compl (s : Nat) : List (List Int) := (List.range s).map fun k => (List.range s).map fun j => if k = j then 0 else 1
theorem nice_compl {s : Nat} (h1 : 5 ≤ s) (h2 : s ≤ 8) : Nice 50 (compl s) := by
  have : s = 5 ∨ s = 6 ∨ s = 7 ∨ s = 8 := by omega
  rcases this with rfl | rfl | rfl | rfl
  · exact nice_dec 5 (by decide)
  · exact nice_dec 6 (by decide)
  · exact nice_dec 7 (by decide)
  · exact nice_dec 8 (by decide)
theorem e_compl {C : Calls} {s : Nat} (hs : s ≤ 8) {a0 a1 a3 a4 a5 : Option R} : evE C e9_1 [a0, a1, some (RI (s : Int)), a3, a4, a5, none, none] S = .ok (RM (compl s)) S := by
  have e : RM (compl s) = .dat (.lst ((List.range s).map fun k => IL ((List.range s).map fun j => if k = j then 0 else 1))) := by
    unfold RM compl
    rw [List.map_map]
    rfl
  rw [e]
  unfold e9_1
  refine lc_rng (lo := 0) (n := s) (ii_rng1 (n := s) rfl (by omega)) (fun k hk => ?_) (by omega)
  have e2 : IL ((List.range s).map fun j => if k = j then 0 else 1) = .lst ((List.range s).map fun j => D.int (if k = j then 0 else 1)) := by
    unfold IL
    rw [List.map_map]
    rfl
  rw [e2]
  unfold e9_0
  refine lc_rng (lo := 0) (n := s) (ii_rng1 (n := s) rfl (by omega)) (fun j hj => ?_) (by omega)
  rw [Int.zero_add, Int.zero_add]
  refine c_bi1 (v := .dat (.bl (!decide ((k : Int) = (j : Int))))) rfl ?_
  show Res.ok (R.dat (.int (if (!decide ((k : Int) = (j : Int))) = true then 1 else 0))) S = _
  by_cases h : k = j
  · rw [if_pos h, h]
    simp
  · rw [if_neg h]
    have : ¬ (k : Int) = (j : Int) := by omega
    simp [this]
theorem e_four {t : Int} (h0 : 0 ≤ t) (h1 : t < 4) : ∃ x, 2 ≤ x ∧ x ≤ 10 ∧ ixR (.dat (.lst [.int 3, .int 4, .int 2, .int 10])) (RI t) S = .ok (RI x) S := by
  have : t = 0 ∨ t = 1 ∨ t = 2 ∨ t = 3 := by omega
  rcases this with rfl | rfl | rfl | rfl
  · exact ⟨3, by decide, by decide, rfl⟩
  · exact ⟨4, by decide, by decide, rfl⟩
  · exact ⟨2, by decide, by decide, rfl⟩
  · exact ⟨10, by decide, by decide, rfl⟩
def Pl (mode : Int) (ρ : MP.Env) (S : Store) : Prop := ∃ s top l rows ns, ρ = [some (.own 0), some (RI mode), s, top, some (RM rows), l, none, none] ∧ S = [pool ns] ∧ Nice 50 rows ∧ (mode = 1 → rows.length = 2) ∧ (mode < 1 ∨ 4 < mode → Nice 9 rows) ∧ ∀ x ∈ ns, 0 ≤ x
theorem e_plain {ns : List Int} {mode : Int} (h0 : ∀ x ∈ ns, 0 ≤ x) : ∃ rows ns', Nice 50 rows ∧ (mode = 1 → rows.length = 2) ∧ (mode < 1 ∨ 4 < mode → Nice 9 rows) ∧ (∀ y ∈ ns', 0 ≤ y) ∧ callN st.T (n + 3) 9 [.own 0, RI mode] [pool ns] = .ok (RM rows) [pool ns'] := by
  refine run_q (F := f9) (fun r => ∃ rows ns', Nice 50 rows ∧ (mode = 1 → rows.length = 2) ∧ (mode < 1 ∨ 4 < mode → Nice 9 rows) ∧ (∀ y ∈ ns', 0 ≤ y) ∧ r = .ok (RM rows) [pool ns']) rfl rfl ?_
  let P : SRes → Prop := fun x => ∃ rows ns', Nice 50 rows ∧ (mode = 1 → rows.length = 2) ∧ (mode < 1 ∨ 4 < mode → Nice 9 rows) ∧ (∀ y ∈ ns', 0 ≤ y) ∧ sealS 1 x = .ok (RM rows) [pool ns']
  show P _
  obtain ⟨x1, ns1, a1, b1, n1, d1⟩ := e_draw (n := n + 1) (S := [pool ns]) (k := 0) (many := 4) rfl h0 (by decide) (by decide) (wf_pool ns)
  refine p_asg (S1 := [pool ns1]) (RI (1 + (x1 + 2) % 4)) (c_bin (x := RI 1) rfl (c_bin (c_bi1 (c_bin d1 rfl rfl) rfl) rfl rfl) rfl) ?_
  obtain ⟨x2, ns2, a2, b2, n2, d2⟩ := e_draw (n := n + 1) (S := [pool ns1]) (k := 0) (many := 4) rfl n1 (by decide) (by decide) (wf_pool ns1)
  obtain ⟨top, t1, t2, t3⟩ := e_four (S := [pool ns2]) a2 b2
  refine p_asg (S1 := [pool ns2]) (RI top) (c_ix (S1 := [pool ns1]) rfl d2 t3) ?_
  have em : ∃ m : Nat, 1 + (x1 + 2) % 4 = (m : Int) ∧ 1 ≤ m ∧ m ≤ 4 := ⟨(1 + (x1 + 2) % 4).toNat, by omega, by omega, by omega⟩
  obtain ⟨m, em, m1, m2⟩ := em
  rw [em]
  refine w_ifN (decide (2 < (m : Int))) (fun ρ S => ∃ top, 2 ≤ top ∧ top ≤ 10 ∧ ρ = [some (.own 0), some (RI mode), some (RI (m : Int)), some (RI top), none, none, none, none] ∧ S = [pool ns2]) rfl (fun _ => ?_) (fun _ => ⟨top, t1, t2, rfl, rfl⟩) ?_
  · exact p_asg (RI (min top 4)) rfl ⟨min top 4, by omega, by omega, rfl, rfl⟩
  intro ρ S ⟨top, t1, t2, e1, e2⟩
  subst e1 e2
  obtain ⟨rows, ns3, g, gp, n3, d3⟩ := e_drawn (n := n) (m := m) (B := 9) (top := top) n2 (by omega) (by decide) (by omega) (by omega) (by
    have : Sm 4 top := by
      show top.natAbs < 2 ^ 4
      omega
    have := this.log
    omega)
  refine p_asg (S1 := [pool ns3]) (RM rows) d3 ?_
  refine w_ifN (decide (mode = 1)) (Pl mode) rfl (fun t => ?_) (fun t => ⟨_, _, _, _, _, rfl, rfl, ⟨m, m1, by omega, g.mono (by decide), gp⟩, fun e => absurd e (of_decide_eq_false t), fun _ => ⟨m, m1, by omega, g, gp⟩, n3⟩) ?_
  · obtain ⟨x4, ns4, a4, b4, n4, d4⟩ := e_draw (n := n + 1) (S := [pool ns3]) (k := 0) (many := 33) rfl n3 (by decide) (by decide) (wf_pool ns3)
    refine p_asg (S1 := [pool ns4]) (RI (18 + x4)) (c_bin (x := RI 18) rfl d4 rfl) ?_
    exact p_asg (RM [[18 + x4, 1], [1, 18 + x4]]) rfl ⟨_, _, _, _, _, rfl, rfl, nice_two (by omega) (by omega), fun _ => rfl, fun e => by have := of_decide_eq_true t; omega, n4⟩
  intro ρ S ⟨s, top, l, rows, ns, e1, e2, g, q1, q2, h0⟩
  subst e1 e2
  refine w_ifN (decide (mode = 2)) (Pl mode) rfl (fun t => ?_) (fun _ => ⟨_, _, _, _, _, rfl, rfl, g, q1, q2, h0⟩) ?_
  · exact p_asg (RM [[0, 1, 0], [1, 0, 1], [0, 1, 0]]) rfl ⟨_, _, _, _, _, rfl, rfl, nice_dec 3 (by decide), fun e => by have := of_decide_eq_true t; omega, fun e => by have := of_decide_eq_true t; omega, h0⟩
  intro ρ S ⟨s, top, l, rows, ns, e1, e2, g, q1, q2, h0⟩
  subst e1 e2
  refine w_ifN (decide (mode = 3)) (Pl mode) rfl (fun t => ?_) (fun _ => ⟨_, _, _, _, _, rfl, rfl, g, q1, q2, h0⟩) ?_
  · exact p_asg (RM [[1, 0, 0], [0, 1, 1], [0, 1, 1]]) rfl ⟨_, _, _, _, _, rfl, rfl, nice_dec 3 (by decide), fun e => by have := of_decide_eq_true t; omega, fun e => by have := of_decide_eq_true t; omega, h0⟩
  intro ρ S ⟨s, top, l, rows, ns, e1, e2, g, q1, q2, h0⟩
  subst e1 e2
  refine w_ifN (decide (mode = 4)) (Pl mode) rfl (fun t => ?_) (fun _ => ⟨_, _, _, _, _, rfl, rfl, g, q1, q2, h0⟩) ?_
  · obtain ⟨x4, ns4, a4, b4, n4, d4⟩ := e_draw (n := n + 1) (S := [pool ns]) (k := 0) (many := 4) rfl h0 (by decide) (by decide) (wf_pool ns)
    refine p_asg (S1 := [pool ns4]) (RI (5 + x4)) (c_bin (x := RI 5) rfl d4 rfl) ?_
    have es : 5 + x4 = (((5 + x4).toNat : Nat) : Int) := by omega
    rw [es]
    exact p_asg (RM (compl (5 + x4).toNat)) (e_compl (by omega)) ⟨_, _, _, _, _, rfl, rfl, nice_compl (by omega) (by omega), fun e => by have := of_decide_eq_true t; omega, fun e => by have := of_decide_eq_true t; omega, n4⟩
  intro ρ S ⟨s, top, l, rows, ns, e1, e2, g, q1, q2, h0⟩
  subst e1 e2
  exact w_ret (v := RM rows) rfl ⟨rows, ns, g, q1, q2, h0, seal_dat (wf_pool ns)⟩
end K27
set_option Elab.async false
set_option linter.all false
set_option maxRecDepth 100000
set_option maxHeartbeats 1000000
/-! K27T: what is drawn is small and a net. -/
namespace K27
open PySem PySem.Spec PyProof.Rows L2 MP
variable {n : Nat} {S : Store} {rows : List (List Int)} {m : Nat} {B : Int}
theorem mem_row {r : List Int} (h : r ∈ rows) : ∃ i, i < rows.length ∧ r = row rows i := by
  obtain ⟨i, hi, e⟩ := List.mem_iff_getElem.mp h
  refine ⟨i, hi, ?_⟩
  unfold row
  rw [List.getElem?_eq_getElem hi, ← e]
  rfl
theorem Nice.sq (g : Nice B rows) : Sq rows.length B rows ∧ 1 ≤ rows.length ∧ rows.length ≤ 8 ∧ ∀ r ∈ rows, 0 < r.sum := by
  obtain ⟨m, h1, h2, g, hp⟩ := g
  have e := g.len
  subst e
  refine ⟨g, h1, h2, fun r hr => ?_⟩
  obtain ⟨i, hi, rfl⟩ := mem_row hr
  exact hp i hi
theorem Nice.mem (g : Nice B rows) {r : List Int} (h : r ∈ rows) : r.length = rows.length ∧ ∀ x ∈ r, 0 ≤ x ∧ x ≤ B := by
  obtain ⟨g, _⟩ := g.sq
  obtain ⟨i, hi, rfl⟩ := mem_row h
  refine ⟨g.row i hi, fun x hx => ?_⟩
  obtain ⟨k, hk, rfl⟩ := mem_el hx
  rw [g.row i hi] at hk
  exact g.pos i k hi hk
theorem sm_of {k : Nat} {x b : Int} (h0 : 0 ≤ x) (h1 : x ≤ b) (h2 : b.natAbs < 2 ^ k) : Sm k x := by
  show x.natAbs < 2 ^ k
  omega
theorem sum_le : ∀ {l : List Int} {b : Int}, (∀ x ∈ l, x ≤ b) → l.sum ≤ l.length * b
  | [], b, _ => by simp
  | x :: l, b, h => by
    rw [List.sum_cons, List.length_cons, Int.natCast_add, Int.add_mul]
    have h1 := h x List.mem_cons_self
    have h2 := sum_le (l := l) (b := b) fun y hy => h y (List.mem_cons_of_mem _ hy)
    have : ((1 : Nat) : Int) * b = b := Int.one_mul b
    omega
theorem Nice.good (g : Nice 50 rows) : Good rows 6 9 (1 + 9 * rows.length) := by
  obtain ⟨q, h1, h2, hp⟩ := g.sq
  have hb : 9 * rows.length ≤ 72 := by omega
  have hv : ∀ r ∈ rows, Sm 9 r.sum := fun r hr => by
    have a := sum_nn r fun x hx => ((g.mem hr).2 x hx).1
    have b := sum_le (l := r) (b := 50) fun x hx => ((g.mem hr).2 x hx).2
    rw [(g.mem hr).1] at b
    show r.sum.natAbs < 2 ^ 9
    omega
  refine ⟨by omega, fun r hr => (g.mem hr).1, fun r hr x hx => sm_of ((g.mem hr).2 x hx).1 ((g.mem hr).2 x hx).2 (by decide), hv, fun r hr => decide_eq_true ⟨hp r hr, by have := (hv r hr).log; omega⟩, fun r hr => ?_, by omega, by omega, by omega, by omega, h1⟩
  have := ps_sm hv rows.length (Nat.le_refl _)
  rw [List.take_length] at this
  exact div_sm this (hp r hr)
section
variable {kw kv kp : Nat}
theorem Good.stray (g : Good rows kw kv kp) (k i : Nat) : Sm (kv + 4 + (2 * (1 + (kw + kp + 4) * k) + kp + 4)) (K27.stray rows k i) := by
  unfold K27.stray
  refine g.vol.mul (sm_sm (fun j hj => ?_) g.le)
  have h := g.ws i k
  have hj1 : j < (W rows i k).length := by rw [lw_len]; exact hj
  have hj2 : j < (prt rows).length := by rw [g.pl]; exact hj
  exact (((h _ (el_mem hj1)).mul (h _ (el_mem hj1))).mul (g.pp _ (el_mem hj2))).mono (by omega)
theorem Good.top (g : Good rows kw kv kp) (k : Nat) : Sm (kv + 4 + (2 * (1 + (kw + kp + 4) * k) + kp + 4) + (1 + kv * rows.length) * (2 * k + 1) + 1) (wtop rows k) := by
  unfold wtop
  refine sub_sm ?_ (g.und k)
  obtain ⟨x, xs, e⟩ := strays_cons g k
  have := maxI_mem (strays rows k) (by rw [e]; intro h; cases h)
  obtain ⟨i, _, e2⟩ := List.mem_map.mp this
  rw [← e2]
  exact g.stray k i
end
theorem Nice.top61 (g : Nice 50 rows) {k : Nat} (h : k < 61) : Sm 30000 (wtop rows k) := by
  obtain ⟨q, h1, h2, hp⟩ := g.sq
  refine (g.good.top k).mono ?_
  have a1 : (6 + (1 + 9 * rows.length) + 4) * k ≤ 83 * 60 := Nat.mul_le_mul (by omega) (by omega)
  have a2 : (1 + 9 * rows.length) * (2 * k + 1) ≤ 73 * 121 := Nat.mul_le_mul (by omega) (by omega)
  omega
theorem Nice.top8 (g : Nice 50 rows) {k : Nat} (h : k ≤ 8) : Sm 8999 (wtop rows k) := by
  obtain ⟨q, h1, h2, hp⟩ := g.sq
  refine (g.good.top k).mono ?_
  have a1 : (6 + (1 + 9 * rows.length) + 4) * k ≤ 83 * 8 := Nat.mul_le_mul (by omega) (by omega)
  have a2 : (1 + 9 * rows.length) * (2 * k + 1) ≤ 73 * 17 := Nat.mul_le_mul (by omega) (by omega)
  omega
theorem Nice.top2 (g : Nice 50 rows) (h2 : rows.length = 2) {k : Nat} (h : k ≤ 60) : Sm 8999 (wtop rows k) := by
  refine (g.good.top k).mono ?_
  rw [h2]
  omega
/-! ### scaled -/
theorem mem_scl {s : Int} {r : List Int} (h : r ∈ scl s rows) : ∃ r0, r0 ∈ rows ∧ r = r0.map (s * ·) := by
  obtain ⟨r0, h1, e⟩ := List.mem_map.mp h
  exact ⟨r0, h1, e.symm⟩
theorem Nice.scl (g : Nice 50 rows) {s : Int} (h1 : 1 ≤ s) (h2 : s ≤ 20000000000000000000000000000) : Tied (K27.scl s rows) ∧ Net (K27.scl s rows) 100 104 := by
  obtain ⟨q, l1, l2, hp⟩ := g.sq
  have hw : ∀ r ∈ K27.scl s rows, ∀ x ∈ r, 0 ≤ x ∧ x ≤ 1000000000000000000000000000000 := fun r hr x hx => by
    obtain ⟨r0, a, rfl⟩ := mem_scl hr
    obtain ⟨y, hy, rfl⟩ := List.mem_map.mp hx
    have b := (g.mem a).2 y hy
    refine ⟨Int.mul_nonneg (by omega) b.1, ?_⟩
    have : s * y ≤ 20000000000000000000000000000 * 50 := Int.mul_le_mul h2 b.2 b.1 (by decide)
    omega
  have hl : ∀ r ∈ K27.scl s rows, r.length = (K27.scl s rows).length := fun r hr => by
    obtain ⟨r0, a, rfl⟩ := mem_scl hr
    rw [List.length_map, scl_len]
    exact (g.mem a).1
  have hs : ∀ r ∈ K27.scl s rows, 0 < r.sum := fun r hr => by
    obtain ⟨r0, a, rfl⟩ := mem_scl hr
    rw [sum_scl]
    exact Int.mul_pos (by omega) (hp r0 a)
  have w100 : ∀ r ∈ K27.scl s rows, ∀ x ∈ r, Sm 100 x := fun r hr x hx => sm_of (hw r hr x hx).1 (hw r hr x hx).2 (by decide)
  refine ⟨⟨by rw [scl_len]; exact l1, by rw [scl_len]; exact l2, hl, hw, fun i j hi hj => ?_, hs⟩, ⟨by rw [scl_len]; exact l2, hl, w100, fun r hr => ?_, hs, by decide, by decide⟩⟩
  · rw [scl_len] at hi hj
    rw [scl_row hi, scl_row hj, el_scl, el_scl]
    exact congrArg (s * ·) (q.sym i j hi hj)
  · have a := sum_nn r fun x hx => (hw r hr x hx).1
    have b := sum_le (l := r) (b := 1000000000000000000000000000000) fun x hx => (hw r hr x hx).2
    rw [hl r hr, scl_len] at b
    show r.sum.natAbs < 2 ^ 104
    have c : ((rows.length : Nat) : Int) * 1000000000000000000000000000000 ≤ 8 * 1000000000000000000000000000000 := Int.mul_le_mul_of_nonneg_right (by omega) (by decide)
    omega
end K27
set_option Elab.async false
set_option linter.all false
set_option maxRecDepth 100000
set_option maxHeartbeats 1000000
/-! K27U: the law says True. -/
namespace K27
open PySem PySem.Spec PyProof.Rows L2 MP
variable {n : Nat} {S : Store} {rows : List (List Int)} {m : Nat} {B : Int}
theorem map_el {α : Type} {a : List Int} (f : Int → α) : a.map f = (List.range a.length).map fun k => f (el a k) := by
  refine List.ext_getElem (by simp) fun i h1 h2 => ?_
  have h3 : i < a.length := by rw [List.length_map] at h1; exact h1
  simp [el, List.getElem?_eq_getElem h3]
/-- a number of each entry -/
theorem e_map2 {C : Calls} {e : IE} {f : Int → Int} {i j : Nat} {xi xi' xj : Str} {a : IE} {o1 o2 : List (Str × Nat)} {c1 c2 : Scope} {p1 p2 p3 p4 p5 : Pos} {ρ : MP.Env} (ha : evE C a ρ S = .ok (RM rows) S)
    (hv : ∀ r, evE C (.var i xi p1) ((wipeE ρ (o1.map (·.2))).set i (some (RL r))) S = .ok (RL r) S)
    (he : ∀ r ∈ rows, ∀ x ∈ r, evE C e ((wipeE ((wipeE ρ (o1.map (·.2))).set i (some (RL r))) (o2.map (·.2))).set j (some (RI x))) S = .ok (RI (f x)) S) (h1 : rows.length ≤ 1000000) (h2 : ∀ r ∈ rows, r.length ≤ 1000000) :
    evE C (.lc false (.lc false e (.one j xj p2) (.of (.var i xi p1)) .nil o2 c2 p3) (.one i xi' p4) (.of a) .nil o1 c1 p5) ρ S = .ok (RM (rows.map fun r => r.map f)) S := by
  have q : RM (rows.map fun r => r.map f) = .dat (.lst ((List.range rows.length).map fun k => IL ((row rows k).map f))) := by
    unfold RM
    rw [List.map_map, map_row]
    rfl
  rw [q]
  refine lc_at (l := rows.map IL) (ii_of ha) (by rw [List.length_map]) (fun k d hd => ?_) h1
  have h3 : ((rows.map IL).map R.dat)[k]? = some (.dat d) := by rw [List.getElem?_map, hd]; rfl
  obtain ⟨h4, h5⟩ := il_at h3
  cases h5
  have q2 : IL ((row rows k).map f) = .lst ((List.range (row rows k).length).map fun t => D.int (f (el (row rows k) t))) := by
    unfold IL
    rw [List.map_map, map_el]
    rfl
  rw [q2]
  refine lc_at (l := (row rows k).map D.int) (ii_of (hv (row rows k))) (by rw [List.length_map]) (fun t d hd => ?_) (h2 _ (row_mem h4))
  have h6 : (((row rows k).map D.int).map R.dat)[t]? = some (.dat d) := by rw [List.getElem?_map, hd]; rfl
  obtain ⟨h7, h8⟩ := rin_at h6
  cases h8
  exact he _ (row_mem h4) _ (el_mem h7)
theorem lcT_at {C : Calls} {e : IE} {i : Nat} {x : Str} {px : Pos} {it : II} {own : List (Str × Nat)} {sc : Scope} {p : Pos} {ρ : MP.Env} {l : List D} {G : Nat → D} {n : Nat} (hi : evII C it ρ S = .ok ((l.map R.dat).map .one, []) S) (hn : l.length = n)
    (hx : ∀ (k : Nat) d, l[k]? = some d → evE C e ((wipeE ρ (own.map (·.2))).set i (some (.dat d))) S = .ok (.dat (G k)) S) (hl : n ≤ 1000000) : evE C (.lc true e (.one i x px) it .nil own sc p) ρ S = .ok (.own S.length) (S ++ [.lst (((List.range n).map G).map R.dat)]) := by
  have hlen : ((l.map R.dat).map Itm.one).length = n := by rw [List.length_map, List.length_map]; exact hn
  show MP.M.bind (evII C it ρ) (fun q => MP.M.bind (lcLoop q.2 (lcTurn (.one i x px) q.2 (fun ρ' => evTs C .nil ρ') (fun ρ' => MP.M.bind (evE C e ρ') fun r => MP.M.pure [r]) (wipeE ρ (own.map (·.2)))) q.1) (lcOut true)) S = _
  rw [bind_at hi, bind_at (loop_ix (G := fun i => .dat (G i)) gd_nil fun k y hy => by
    rw [List.getElem?_map, List.getElem?_map] at hy
    cases e1 : l[k]? with
    | none => rw [e1] at hy; cases hy
    | some d =>
      rw [e1] at hy
      cases hy
      exact ⟨_, rfl, rfl, by rw [bind_at (hx k d e1)]; rfl⟩)]
  rw [hlen]
  have e1 : ((List.range n).map fun i => R.dat (G i)) = ((List.range n).map G).map R.dat := by
    rw [List.map_map]
    rfl
  rw [e1]
  unfold lcOut
  rw [if_pos (show small (((List.range n).map G).map R.dat).length = true by rw [List.length_map, List.length_map, List.length_range]; exact decide_eq_true hl)]
  rfl
theorem e_pool {C : Calls} {ns : List Int} (h : ns.length ≤ 63) {r : List (Option R)} (hr : r = List.replicate 16 none) : ∃ ms : List Int, (∀ x ∈ ms, 0 ≤ x) ∧ evE C e0_4 (some (.dat (.slst (ns.map D.int))) :: r) [] = .ok (.own 0) [pool ms] := by
  subst hr
  let cs : List Int := cutR ns none (some 63)
  have hc : cs.length ≤ 1000000 := by
    have : cs.length ≤ ns.length := by
      show ((ns.drop _).take _).length ≤ _
      rw [List.length_take, List.length_drop]
      omega
    omega
  refine ⟨cs.map fun x => if x < 0 then -x else x, fun y hy => ?_, ?_⟩
  · obtain ⟨x, _, rfl⟩ := List.mem_map.mp hy
    split <;> omega
  unfold e0_4
  refine (lcT_at (S := []) (l := cs.map D.int) (n := cs.length) (G := fun k => .int (if el cs k < 0 then -el cs k else el cs k)) (ii_of ?_) (by rw [List.length_map]) (fun k d hd => ?_) hc).trans ?_
  · show Res.ok (R.dat (.lst (cutR (ns.map D.int) none (some 63)))) [] = _
    rw [cut_map]
  · have h6 : ((cs.map D.int).map R.dat)[k]? = some (.dat d) := by rw [List.getElem?_map, hd]; rfl
    obtain ⟨h7, h8⟩ := rin_at h6
    cases h8
    rfl
  · show Res.ok (R.own 0) ([] ++ [Cell.lst (((List.range cs.length).map fun k => D.int (if el cs k < 0 then -el cs k else el cs k)).map R.dat)]) = _
    have e : (cs.map fun x => if x < 0 then -x else x).map D.int = (List.range cs.length).map fun k => D.int (if el cs k < 0 then -el cs k else el cs k) := by
      rw [List.map_map]
      exact map_el (fun x => D.int (if x < 0 then -x else x))
    unfold pool
    rw [e]
    rfl
abbrev LV (scr : R) (mode : Int) (rows : List (List Int)) (due kind grain stage more scale net flat bad : Option R) : MP.Env := [some scr, some (.own 0), some (RI mode), some (RM rows), some (.dat (.lst (wsD rows 61))), due, kind, grain, stage, more, scale, net, flat, bad, none, none, none]
theorem sm_grain {g : Int} (h1 : 1 ≤ g) (h2 : g ≤ 1000000) : Sm 20 g := by
  show g.natAbs < 2 ^ 20
  omega
theorem ten6 {C : Calls} {ρ : MP.Env} {k1 k2 : Nat} {p1 p2 p3 : Pos} {b : Bool} : evE C (.bin b .pow (.int 10 k1 p1) (.int 6 k2 p2) p3) ρ S = .ok (RI 1000000) S := by
  refine c_bin (x := RI 10) (y := RI 6) rfl rfl ?_
  have e : powOk 10 6 = true := by decide
  show (if powOk 10 6 = true then MP.M.pure (RI (10 ^ (6 : Int).toNat)) else MP.M.stuck) S = _
  rw [if_pos e]
  rfl
theorem ten28 {C : Calls} {ρ : MP.Env} {k1 k2 : Nat} {p1 p2 p3 : Pos} {b : Bool} : evE C (.bin b .pow (.int 10 k1 p1) (.int 28 k2 p2) p3) ρ S = .ok (RI 10000000000000000000000000000) S := by
  refine c_bin (x := RI 10) (y := RI 28) rfl rfl ?_
  have e : powOk 10 28 = true := by decide
  show (if powOk 10 28 = true then MP.M.pure (RI (10 ^ (28 : Int).toNat)) else MP.M.stuck) S = _
  rw [if_pos e]
  rfl
/-- the law from here on, the net's rows known -/
theorem nice_up (g : Nice 9 rows) : Nice 50 (rows.map fun r => r.map (· + 1)) := by
  obtain ⟨q, h1, h2, hp⟩ := g.sq
  have hr : ∀ i, i < rows.length → row (rows.map fun r => r.map (· + 1)) i = (row rows i).map (· + 1) := fun i hi => by
    unfold row
    rw [List.getElem?_map, List.getElem?_eq_getElem hi]
    rfl
  have he : ∀ i j, i < rows.length → j < rows.length → ent (rows.map fun r => r.map (· + 1)) i j = ent rows i j + 1 := fun i j hi hj => by
    unfold ent
    rw [hr i hi]
    unfold el
    rw [List.getElem?_map, List.getElem?_eq_getElem (by rw [q.row i hi]; exact hj)]
    rfl
  have sq : Sq rows.length 50 (rows.map fun r => r.map (· + 1)) := ⟨by rw [List.length_map], fun i hi => by rw [hr i hi, List.length_map]; exact q.row i hi, fun i j hi hj => by
    have := q.pos i j hi hj
    rw [he i j hi hj]
    omega, fun i j hi hj => by rw [he i j hi hj, he j i hj hi, q.sym i j hi hj]⟩
  exact ⟨rows.length, h1, h2, sq, fun a ha => sq.pos_of ha ha (by rw [he a a ha ha]; have := (q.pos a a ha ha).1; omega)⟩
end K27
set_option Elab.async false
set_option linter.all false
set_option maxRecDepth 100000
set_option maxHeartbeats 2000000
/-! K27V: the law says True. -/
namespace K27
open PySem PySem.Spec PyProof.Rows L2 MP
variable {n : Nat} {S : Store} {rows : List (List Int)} {m : Nat} {B : Int}
theorem flat_webs {s : Int} (h : s = 1) : scl s flat = flat := by subst h; rfl
theorem edge_in {x0 : Int} (h0 : 0 ≤ x0) (h1 : x0 < 2) : ∃ g, 1 ≤ g ∧ g ≤ 1000000 ∧ ixR (.dat (.lst [.int 1, .int 1000000])) (RI x0) S = .ok (RI g) S := by
  have : x0 = 0 ∨ x0 = 1 := by omega
  rcases this with rfl | rfl
  · exact ⟨1, by decide, by decide, rfl⟩
  · exact ⟨1000000, by decide, by decide, rfl⟩
theorem bad_in {x0 : Int} (h0 : 0 ≤ x0) (h1 : x0 < 4) : ∃ g, (g < 1 ∨ 1000000 < g) ∧ ixR (.dat (.lst [.int 0, .int 1000001, .int (-1), .int ((10 ^ 50) ^ 8 - 1)])) (RI x0) S = .ok (RI g) S := by
  have : x0 = 0 ∨ x0 = 1 ∨ x0 = 2 ∨ x0 = 3 := by omega
  rcases this with rfl | rfl | rfl | rfl
  · exact ⟨0, by decide, rfl⟩
  · exact ⟨1000001, by decide, rfl⟩
  · exact ⟨-1, by decide, rfl⟩
  · exact ⟨(10 ^ 50) ^ 8 - 1, .inr (by decide), rfl⟩
theorem e_l4 {C : Calls} {ρ : MP.Env} {a b c d : IE} {p : Pos} {i j k l : Int} (ha : evE C a ρ S = .ok (RI i) S) (hb : evE C b ρ S = .ok (RI j) S) (hc : evE C c ρ S = .ok (RI k) S) (hd : evE C d ρ S = .ok (RI l) S) :
    evE C (.lst false (.cons a (.cons b (.cons c (.cons d .nil)))) p) ρ S = .ok (.dat (.lst [.int i, .int j, .int k, .int l])) S := by
  simp [evSs, evS, evE, evEs, evKs, evAnd, evOr, evTs, M.bind, M.pure, SRes.of, getV, truB, optI, MP.start, isTR, tyR, isTy, cmpR, biR, ha, hb, hc, hd, mkL, datsR]
theorem e_pow {C : Calls} {ρ : MP.Env} {m : Bool} {a b : IE} {p : Pos} {i j : Int} (ha : evE C a ρ S = .ok (RI i) S) (hb : evE C b ρ S = .ok (RI j) S) (h : powOk i j = true) : evE C (.bin m .pow a b p) ρ S = .ok (RI (i ^ j.toNat)) S := by
  refine c_bin ha hb ?_
  show (if powOk i j = true then MP.M.pure (RI (i ^ j.toNat)) else MP.M.stuck) S = _
  rw [if_pos h]
  rfl
/-- the value of the law's last part -/
def LEnd (x : SRes) : Prop := sealS 0 x = .ok (.dat (.bl true)) []
def Lw (scr : R) (mode : Int) (due : R) (rest : List (Option R)) (ρ : MP.Env) (S : Store) : Prop := ∃ rows ns d, ρ = some scr :: some (.own 0) :: some (RI mode) :: some (RM rows) :: some (.dat (.lst (wsD rows 61))) :: d :: rest ∧ S = [pool ns] ∧ Nice 50 rows ∧ (mode = 1 → rows.length = 2) ∧ ∀ x ∈ ns, 0 ≤ x
theorem sq_web {s : Int} : (scl s rows).length = rows.length := scl_len
theorem Due.dat {q : Nat → Bool} {r : R} (h : Due q r) : ∃ d, r = .dat d := by
  rcases h with ⟨i, _, _, _, e⟩ | ⟨_, e⟩
  · exact ⟨_, e⟩
  · exact ⟨_, e⟩
def ISs.drop : Nat → ISs → ISs
  | 0, r => r
  | n + 1, .cons _ r => ISs.drop n r
  | _ + 1, .nil => .nil
/-- behind the draws: net and flat, what they tell -/
theorem says_end {scr : R} {mode grain scale : Int} {kind stage more due : Option R} {ns : List Int} (g : Nice 50 rows) (h0 : ∀ x ∈ ns, 0 ≤ x) (g1 : 1 ≤ grain) (g2 : grain ≤ 1000000) (s1 : 1 ≤ scale) (s2 : scale ≤ 20000000000000000000000000000) :
    LEnd (evSs (st.T.C (n + 4)) (ISs.drop 15 ir0) (LV scr mode rows due kind (some (RI grain)) stage more (some (RI scale)) none none none) [pool ns]) := by
  have w := wf_pool ns
  obtain ⟨td, nt⟩ := g.scl s1 s2
  obtain ⟨sq, l1, l2, hp⟩ := g.sq
  have hnet : evE (st.T.C (n + 4)).toCalls e0_1 (LV scr mode rows due kind (some (RI grain)) stage more (some (RI scale)) none none none) [pool ns] = .ok (RM (scl scale rows)) [pool ns] := by
    unfold e0_1 e0_0
    refine e_map2 (rows := rows) (f := fun x => scale * x) rfl (fun r => rfl) (fun r hr x hx => ?_) (by omega) (fun r hr => by rw [(g.mem hr).1]; omega)
    have hm : mulOk scale x = true := mulOk_of (a := 95) (b := 6) (by show scale.natAbs < 2 ^ 95; omega) (sm_of ((g.mem hr).2 x hx).1 ((g.mem hr).2 x hx).2 (by decide)) (by decide)
    refine c_bin (x := RI scale) (y := RI x) rfl rfl ?_
    show (if mulOk scale x = true then MP.M.pure (RI (scale * x)) else MP.M.stuck) _ = _
    rw [if_pos hm]
    rfl
  obtain ⟨ties, hmk⟩ := e_make (n := n + 2) td w hnet
  refine p_asg (S1 := [pool ns]) _ hmk ?_
  obtain ⟨ties2, hmk2⟩ := e_make (n := n + 2) (S := [pool ns]) flat_tied w (ρ := LV scr mode rows due kind (some (RI grain)) stage more (some (RI scale)) (some (.dat (webOf (scl scale rows) ties))) none none) (a := .lst false (.cons (.lst false (.cons (.int 1 0 ⟨409, 17, 409, 18⟩) (.cons (.int 1 0 ⟨409, 20, 409, 21⟩) .nil)) ⟨409, 16, 409, 22⟩) (.cons (.lst false (.cons (.int 1 0 ⟨409, 25, 409, 26⟩) (.cons (.int 1 0 ⟨409, 28, 409, 29⟩) .nil)) ⟨409, 24, 409, 30⟩) .nil)) ⟨409, 15, 409, 31⟩) rfl
  refine p_asg (S1 := [pool ns]) _ hmk2 ?_
  obtain ⟨due1, hd1, ed1⟩ := e_due (n := n + 3) (S := [pool ns]) (rows := rows) (grain := grain) (kt := 30000) (kg := 20) (fun k hk => g.top61 hk) (sm_grain g1 g2) (by decide) w
  obtain ⟨ddue, ed⟩ := hd1.dat
  subst ed
  refine p_asg (S1 := [pool ns]) (.dat ddue) ed1 ?_
  obtain ⟨r1, hr1, er1⟩ := e_settles (n := n) (S := [pool ns]) (ties := ties) nt (by decide) (sm_grain g1 g2) (by decide) g1 g2 w
  have qe : ∀ grain, 1 ≤ grain → ∀ i, i < 61 → qP (scl scale rows) grain i = lawQ rows grain i := fun grain hg i _ => q_eq (by omega) hp (by omega) (fun i j hi hj => sq.sym i j hi hj) hg i
  have n1 := e_number (n := n + 2) (S := [pool ns]) r1 (.dat ddue) true w (Due.eq hr1 hd1 (qe grain g1))
  refine w_ifF (S1 := [pool ns]) (c_not (x := true) (c_call2 (S1 := [pool ns]) (c_call2 (S1 := [pool ns]) rfl rfl er1) rfl n1)) ?_
  obtain ⟨r2, hr2, er2⟩ := e_settles (n := n) (S := [pool ns]) (ties := ties2) flat_net (by decide) (sm_grain g1 g2) (by decide) g1 g2 w
  have n2 := e_number (n := n + 2) (S := [pool ns]) r2 (RI (if 1 < grain then 1 else 0)) true w (.inl ⟨_, _, flat_due hr2 g1, rfl, by simp⟩)
  refine w_ifF (S1 := [pool ns]) (c_not (x := true) (c_call2 (S1 := [pool ns]) er2 (c_bi1 (v := .dat (.bl (decide (1 < grain)))) rfl rfl) ?_)) ?_
  · have e : (if (decide (1 < grain)) = true then (1 : Int) else 0) = if 1 < grain then 1 else 0 := by simp
    rw [e]
    exact n2
  obtain ⟨r3, hr3, er3⟩ := e_settles (n := n) (S := [pool ns]) (ties := ties) (grain := 1) nt (by decide) (sm_grain (by decide) (by decide)) (by decide) (by decide) (by decide) w
  obtain ⟨due3, hd3, ed3⟩ := e_due (n := n + 3) (S := [pool ns]) (rows := rows) (grain := 1) (kt := 30000) (kg := 20) (fun k hk => g.top61 hk) (sm_grain (by decide) (by decide)) (by decide) w
  have n3 := e_number (n := n + 2) (S := [pool ns]) r3 due3 true w (Due.eq hr3 hd3 (qe 1 (by decide)))
  refine w_ifF (S1 := [pool ns]) (c_not (x := true) (c_call2 (S1 := [pool ns]) (c_call2 (S1 := [pool ns]) rfl rfl er3) (c_call2 (S1 := [pool ns]) rfl rfl ed3) n3)) ?_
  refine w_ifF (S1 := [pool ns]) (c_not (x := true) (c_call2 (S1 := [pool ns]) er1 rfl n1)) ?_
  obtain ⟨x, ns', a1, a2, n4, d4⟩ := e_draw (n := n + 3) (S := [pool ns]) (k := 0) (many := 4) rfl h0 (by decide) (by decide) w
  have w' := wf_pool ns'
  obtain ⟨bad, b1, b2⟩ := bad_in (S := [pool ns']) a1 a2
  refine p_asg (S1 := [pool ns']) (RI bad) (c_ix (S1 := [pool ns]) (x := .dat (.lst [.int 0, .int 1000001, .int (-1), .int ((10 ^ 50) ^ 8 - 1)])) ?_ d4 b2) ?_
  · exact e_l4 rfl (c_bin (x := RI 1000000) (y := RI 1) ten6 rfl rfl) rfl (c_bin (x := RI ((10 ^ 50) ^ 8)) (y := RI 1) (e_pow (i := 10 ^ 50) (j := 8) (e_pow (i := 10) (j := 50) rfl rfl (by decide)) rfl (by decide)) rfl rfl)
  have v1 := e_range (n := n + 1) (S := [pool ns']) (w := webOf (scl scale rows) ties) b1 w'
  have v2 := e_range (n := n + 1) (S := [pool ns']) (w := webOf flat ties2) b1 w'
  refine w_ifF (S1 := [pool ns']) (c_or (x := false) (y := false) (c_not (x := true) (c_call2 rfl rfl v1)) (c_not (x := true) (c_call2 rfl rfl v2))) ?_
  refine w_ret (S1 := [pool ns']) (v := .dat (.bl true)) ?_ ?_
  · refine c_cmp (S1 := [pool ns']) (S2 := [pool ns']) (x := RI (scl scale rows).length) (y := RI rows.length) rfl (c_bi1 (v := RM rows) rfl (by rw [len_dat, List.length_map])) ?_
    show Res.ok (R.dat (.bl (decide (((scl scale rows).length : Int) = (rows.length : Int))))) [pool ns'] = _
    rw [scl_len, decide_eq_true rfl]
  · exact seal_cut (S := []) (S0 := []) (E := [pool ns']) rfl wf_nil
end K27
set_option Elab.async false
set_option linter.all false
set_option maxRecDepth 100000
set_option maxHeartbeats 2000000
/-! K27W: the law says True. -/
namespace K27
open PySem PySem.Spec PyProof.Rows L2 MP
variable {n : Nat} {S : Store} {rows : List (List Int)} {m : Nat} {B : Int}
/-- the scale -/
theorem says_scale {scr : R} {mode grain : Int} {kind stage more due : Option R} {ns : List Int} (g : Nice 50 rows) (h0 : ∀ x ∈ ns, 0 ≤ x) (g1 : 1 ≤ grain) (g2 : grain ≤ 1000000) :
    LEnd (evSs (st.T.C (n + 4)) (ISs.drop 13 ir0) (LV scr mode rows due kind (some (RI grain)) stage more none none none none) [pool ns]) := by
  refine p_asg (RI 1) rfl ?_
  obtain ⟨x, ns1, a1, a2, n1, d1⟩ := e_draw (n := n + 3) (S := [pool ns]) (k := 0) (many := 8) rfl h0 (by decide) (by decide) (wf_pool ns)
  refine w_ifN (S1 := [pool ns1]) (decide (x = 1)) (fun ρ S => ∃ scale ns, 1 ≤ scale ∧ scale ≤ 20000000000000000000000000000 ∧ (∀ x ∈ ns, 0 ≤ x) ∧ ρ = LV scr mode rows due kind (some (RI grain)) stage more (some (RI scale)) none none none ∧ S = [pool ns]) (c_cmp (x := RI x) (y := RI 1) d1 rfl rfl) (fun _ => ?_) (fun _ => ⟨1, ns1, by decide, by decide, n1, rfl, rfl⟩) ?_
  · obtain ⟨y, ns2, b1, b2, n2, d2⟩ := e_draw (n := n + 3) (S := [pool ns1]) (k := 0) (many := 10000000000000000000000000000) rfl n1 (by decide) (by decide) (wf_pool ns1)
    refine p_asg (S1 := [pool ns2]) (RI (10000000000000000000000000000 + y)) (c_bin (S1 := [pool ns1]) (S2 := [pool ns2]) (x := RI 10000000000000000000000000000) (y := RI y) ten28 (c_call2 (S1 := [pool ns1]) (S2 := [pool ns1]) rfl ten28 d2) rfl) ?_
    exact ⟨_, ns2, by omega, by omega, n2, rfl, rfl⟩
  intro ρ S ⟨scale, ns, s1, s2, h0, e1, e2⟩
  subst e1 e2
  exact says_end g h0 g1 g2 s1 s2
def Lg (scr : R) (mode : Int) (rows : List (List Int)) (due kind stage more : Option R) (ρ : MP.Env) (S : Store) : Prop := ∃ grain ns, 1 ≤ grain ∧ grain ≤ 1000000 ∧ (∀ x ∈ ns, 0 ≤ x) ∧ ρ = LV scr mode rows due kind (some (RI grain)) stage more none none none none ∧ S = [pool ns]
/-- the grain -/
theorem says_grain {scr : R} {mode : Int} {due : Option R} {ns : List Int} (g : Nice 50 rows) (hm : mode = 1 → rows.length = 2) (h0 : ∀ x ∈ ns, 0 ≤ x) :
    LEnd (evSs (st.T.C (n + 4)) (ISs.drop 6 ir0) (LV scr mode rows due none none none none none none none none) [pool ns]) := by
  obtain ⟨kind, ns1, a1, b1, n1, d1⟩ := e_draw (n := n + 3) (S := [pool ns]) (k := 0) (many := 4) rfl h0 (by decide) (by decide) (wf_pool ns)
  refine p_asg (S1 := [pool ns1]) (RI kind) d1 ?_
  obtain ⟨gr, ns2, a2, b2, n2, d2⟩ := e_draw (n := n + 3) (S := [pool ns1]) (k := 0) (many := 1000000) rfl n1 (by decide) (by decide) (wf_pool ns1)
  refine p_asg (S1 := [pool ns2]) (RI (1 + (gr + 99) % 1000000)) (c_bin (x := RI 1) (y := RI ((gr + 99) % 1000000)) (S1 := [pool ns1]) (S2 := [pool ns2]) rfl (c_bin (x := RI (gr + 99)) (y := RI 1000000) (S1 := [pool ns2]) (c_bi1 (v := RI (gr + 99)) (S1 := [pool ns2]) (c_bin (x := RI gr) (y := RI 99) (S1 := [pool ns2]) (c_call2 (S1 := [pool ns1]) rfl ten6 d2) rfl rfl) rfl) ten6 rfl) rfl) ?_
  obtain ⟨stage, ns3, a3, b3, n3, d3⟩ := e_draw (n := n + 3) (S := [pool ns2]) (k := 0) (many := 9) rfl n2 (by decide) (by decide) (wf_pool ns2)
  refine p_asg (S1 := [pool ns3]) (RI stage) d3 ?_
  obtain ⟨more, ns4, a4, b4, n4, d4⟩ := e_draw (n := n + 3) (S := [pool ns3]) (k := 0) (many := 2) rfl n3 (by decide) (by decide) (wf_pool ns3)
  refine p_asg (S1 := [pool ns4]) (RI more) d4 ?_
  have m1 : 1 ≤ 1 + (gr + 99) % 1000000 := by omega
  have m2 : 1 + (gr + 99) % 1000000 ≤ 1000000 := by omega
  generalize 1 + (gr + 99) % 1000000 = grain at m1 m2 ⊢
  refine w_ifN (decide (kind = 1)) (Lg scr mode rows due (some (RI kind)) (some (RI stage)) (some (RI more))) rfl (fun _ => ?_) (fun _ => ⟨grain, ns4, m1, m2, n4, rfl, rfl⟩) ?_
  · obtain ⟨g', c1, c2, c3⟩ := edge_in (S := [pool ns4]) a4 b4
    refine p_asg (RI g') (c_ix (x := .dat (.lst [.int 1, .int 1000000])) (y := RI more) (S1 := [pool ns4]) ?_ rfl c3) ⟨g', ns4, c1, c2, n4, rfl, rfl⟩
    have p6 : powOk 10 6 = true := by decide
    simp [evSs, evS, evE, evEs, evKs, evAnd, evOr, evTs, M.bind, M.pure, SRes.of, getV, truB, optI, MP.start, isTR, tyR, isTy, cmpR, biR, binR, p6, mkL, datsR]
  intro ρ S ⟨grain, ns, m1, m2, h0, e1, e2⟩
  subst e1 e2
  have es : stage = ((stage.toNat : Nat) : Int) := by omega
  refine w_ifN (decide (kind = 2)) (Lg scr mode rows due (some (RI kind)) (some (RI stage)) (some (RI more))) rfl (fun _ => ?_) (fun _ => ⟨grain, ns, m1, m2, h0, rfl, rfl⟩) ?_
  · obtain ⟨g', c1, c2, c3⟩ := e_edge (n := n + 3) (rows := rows) (k := stage.toNat) (by omega) a4 (g.top8 (by omega)) (wf_pool ns)
    rw [← es] at c3
    exact p_asg (RI g') c3 ⟨g', ns, c1, c2, h0, rfl, rfl⟩
  intro ρ S ⟨grain, ns, m1, m2, h0, e1, e2⟩
  subst e1 e2
  refine w_ifN (decide (mode = 1)) (Lg scr mode rows due (some (RI kind)) (some (RI stage)) (some (RI more))) rfl (fun t => ?_) (fun _ => ⟨grain, ns, m1, m2, h0, rfl, rfl⟩) ?_
  · obtain ⟨y, ns5, a5, b5, n5, d5⟩ := e_draw (n := n + 3) (S := [pool ns]) (k := 0) (many := 2) rfl h0 (by decide) (by decide) (wf_pool ns)
    have e6 : 60 - more = (((60 - more).toNat : Nat) : Int) := by omega
    obtain ⟨g', c1, c2, c3⟩ := e_edge (n := n + 3) (rows := rows) (k := (60 - more).toNat) (by omega) a5 (g.top2 (hm (of_decide_eq_true t)) (by omega)) (wf_pool ns5)
    rw [← e6] at c3
    exact p_asg (S1 := [pool ns5]) (RI g') (c_call3 (S1 := [pool ns]) (S2 := [pool ns]) (S3 := [pool ns5]) (w := RI (60 - more)) rfl rfl d5 c3) ⟨g', ns5, c1, c2, n5, rfl, rfl⟩
  intro ρ S ⟨grain, ns, m1, m2, h0, e1, e2⟩
  subst e1 e2
  exact says_scale g h0 m1 m2
end K27
set_option Elab.async false
set_option linter.all false
set_option maxRecDepth 100000
set_option maxHeartbeats 2000000
/-! K27X: the law says True. -/
namespace K27
open PySem PySem.Spec PyProof.Rows L2 MP
variable {n : Nat} {S : Store} {rows : List (List Int)} {m : Nat} {B : Int}
abbrev up (rows : List (List Int)) : List (List Int) := rows.map fun r => r.map fun x => x + 1
theorem says (ns : List Int) (hn : ns.length ≤ 63) : callN st.T (n + 5) 0 [.dat (.slst (ns.map D.int))] [] = .ok (.dat (.bl true)) [] := by
  refine run_q (F := f0) (fun r => r = .ok (.dat (.bl true)) []) rfl rfl ?_
  show LEnd _
  obtain ⟨ms, h0, hp⟩ := e_pool (C := (st.T.C (n + 4)).toCalls) hn (r := List.replicate 16 none) rfl
  refine p_asg (S1 := [pool ms]) (.own 0) hp ?_
  obtain ⟨mode, ns1, a1, b1, n1, d1⟩ := e_draw (n := n + 3) (S := [pool ms]) (k := 0) (many := 32) rfl h0 (by decide) (by decide) (wf_pool ms)
  refine p_asg (S1 := [pool ns1]) (RI mode) d1 ?_
  obtain ⟨rows, ns2, g, q1, q2, n2, d2⟩ := e_plain (n := n + 1) (mode := mode) n1
  refine p_asg (S1 := [pool ns2]) (RM rows) d2 ?_
  have w := wf_pool ns2
  have e8 := e_worst (n := n + 1) g.good w
  refine p_asg (S1 := [pool ns2]) (.dat (.lst (wsD rows 61))) e8 ?_
  obtain ⟨due, hd, ed⟩ := e_due (n := n + 3) (S := [pool ns2]) (rows := rows) (grain := 1000000) (kt := 30000) (kg := 20) (fun k hk => g.top61 hk) (sm_grain (by decide) (by decide)) (by decide) w
  obtain ⟨dd, edd⟩ := hd.dat
  subst edd
  refine p_asg (S1 := [pool ns2]) (.dat dd) (c_call2 (S1 := [pool ns2]) (S2 := [pool ns2]) rfl ten6 ed) ?_
  show LEnd (evSs (st.T.C (n + 4)) (ISs.drop 5 ir0) (LV (.dat (.slst (ns.map D.int))) mode rows (some (.dat dd)) none none none none none none none none) [pool ns2])
  refine w_ifN (decide (2 < (rows.length : Int)) && (decide (mode < 1) || decide (4 < mode))) (fun ρ S => ∃ rows, Nice 50 rows ∧ (mode = 1 → rows.length = 2) ∧ ρ = LV (.dat (.slst (ns.map D.int))) mode rows (some (.dat dd)) none none none none none none none none ∧ S = [pool ns2]) (c_and (x := decide (2 < (rows.length : Int))) (y := decide (mode < 1) || decide (4 < mode)) (c_cmp (x := RI rows.length) (y := RI 2) (S1 := [pool ns2]) (S2 := [pool ns2]) (c_bi1 (v := RM rows) rfl (by rw [len_dat, List.length_map])) rfl rfl) (c_or rfl rfl)) (fun t => ?_) (fun t => ⟨rows, g, q1, rfl, rfl⟩) ?_
  · rw [Bool.and_eq_true, Bool.or_eq_true, decide_eq_true_iff, decide_eq_true_iff, decide_eq_true_iff] at t
    have g9 := q2 t.2
    have cond : ∃ b, ∀ p1 p2 p3 p4 p5 p6 p7, evE (st.T.C (n + 4)).toCalls (.or (.isN false (.var 5 "due" p1) 0 p2 p3) (.cons (.cmp .gt (.var 5 "due" p4) (.int 24 0 p5) p6) .nil) p7) (LV (.dat (.slst (ns.map D.int))) mode rows (some (.dat dd)) none none none none none none none none) [pool ns2] = .ok (.dat (.bl b)) [pool ns2] := by
      rcases hd with ⟨i, _, _, _, e⟩ | ⟨_, e⟩
      · cases e
        exact ⟨false || decide (24 < (i : Int)), fun _ _ _ _ _ _ _ => c_or rfl rfl⟩
      · cases e
        exact ⟨true, fun _ _ _ _ _ _ _ => rfl⟩
    obtain ⟨b, hb⟩ := cond
    refine w_if b (hb _ _ _ _ _ _ _) (fun _ => ?_) (fun _ => ⟨rows, g, q1, rfl, rfl⟩)
    have g' : Nice 50 (up rows) := nice_up g9
    have hup : evE (st.T.C (n + 4)).toCalls e0_3 (LV (.dat (.slst (ns.map D.int))) mode rows (some (.dat dd)) none none none none none none none none) [pool ns2] = .ok (RM (up rows)) [pool ns2] := by
      obtain ⟨_, _, l2, _⟩ := g.sq
      unfold e0_3 e0_2
      exact e_map2 (rows := rows) (f := fun x => x + 1) rfl (fun r => rfl) (fun r hr x hx => rfl) (by omega) (fun r hr => by rw [(g.mem hr).1]; omega)
    refine p_asg (S1 := [pool ns2]) (RM (up rows)) hup ?_
    have e8 := e_worst (n := n + 1) g'.good w
    exact p_asg (S1 := [pool ns2]) (.dat (.lst (wsD (up rows) 61))) e8 ⟨_, g', fun e => by rw [List.length_map]; exact q1 e, rfl, rfl⟩
  intro ρ S ⟨rows, g, q1, e1, e2⟩
  subst e1 e2
  exact says_grain g q1 n2
end K27
set_option Elab.async false
set_option linter.all false
set_option maxRecDepth 1000000
set_option maxHeartbeats 0
/-! K27Head: the top of the text, once. -/
namespace K27
open PySem PySem.W PySem.Calls PyProof.Rows MP
abbrev RW0 : OpenRow := OpenLaw.row PySem.Challenge.rw_spreadgap_k27_settling_time
abbrev qv : Program := view RW0.prog [0, 57]
def names1 : List PySem.Str := ["_wall", "_kept", "GapError", "OutOfRange", "BadShape", "BadPlace", "TooMuch", "NotSymmetric", "BadWeight", "Bare", "MOST_GRAIN", "need_grain", "MOST_ROWS", "Table", "_dot", "MOST_PLACES", "MOST_WEIGHT", "MOST_STEPS_web", "_need_square", "_need_weights", "_need_symmetric", "_need_tied", "_need_room", "Web", "made_web", "mixed_web", "raised_web"]
def names2 : List PySem.Str := ["MOST_STEPS_shares", "common_degree", "step_numbers", "begun", "dealt", "stray_numbers", "is_settled", "settles", "_law_draw", "_law_whole", "_law_number", "_law_dot", "_law_let", "_law_drawn", "_law_base", "_law_dealt", "_law_spread", "_law_worst", "_law_due", "_law_edge", "_law_range", "_law_plain"]
def names : List PySem.Str := names1 ++ names2
abbrev ex : PySem.W.Frag → Bool := exM st subs xfs
abbrev defs : List He.DefD := fn ++ xfn
abbrev hk : PySem.W.Hook := hookM 5 ex defs
def ob (s : PySem.W.SharedT) : He.AlD := obsM 5 ex defs (HandSHeadRun.getT s)
theorem ob_eq (s : PySem.W.SharedT) : ob s = hk.obs s.abs := obsM_eq (HandSHeadRun.getT_eq s)
theorem run (w : World) : HandSHeadRun.RunEqI RW0 qv hk ob 20000 names w := by
  show _ = _
  kernel_rfl
end K27
set_option Elab.async false
set_option linter.all false
set_option maxRecDepth 1000000
set_option maxHeartbeats 0
/-! K27Main: the law, from what the evaluation says. -/
namespace MP
open PySem PySem.Spec PyProof.Rows L2
/-- a law's end where what exceptions leave hangs on the world -/
theorem walk_ofM {l : PySem.W.OpenLaw} {n k : Nat} {q : Program} {loose : List Str} {XP : (Str → Option Value) → Heap → Prop} {YP : World → Heap → Prop} {d : DefRec} {x : Str}
    (hn : l.most = some n) (hn2 : n ≤ sizeLine) (hdf : d.params.defaults = []) (hr : Room k callerA)
    (F : ∀ (w : World) (mg : Str → Option Value) (fa : Addr) (h : Heap), YP w h → h.Ns mainGlobals mg → mg d.name = some (.ref fa) →
      ∃ (K : PySem.W.Frag) (fd : FuncData) (sp : Sp), K.In h ∧ (∀ (s : Shared) (u : Value), BindsTo s fd ⟨[u], []⟩ [(x, u)]) ∧
        (∀ (H : Hp) (a : Addr) (ns : List Int), ns.length ≤ n → Only H → SqL K H a (ns.map V.int) → sp [.ref a] H (fun v _ => v = .bl true) fun _ _ _ => False) ∧
        ∀ base : Heap, K.In base → base.Ns mainGlobals mg → FnOk l.prog w K mg base (L2N.CX l.prog w) k fa fd [x] sp) :
    PySem.W.WalkO q loose XP YP l.row.toRowW d [] (fun f vs => PySem.call f vs) := by
  refine Att.attach_call hn hdf fun w s₀ s₁ mg mb fa o pm cd doc a vs ns G Y ho hd hcd hmg hobj hints hlen hg => ?_
  obtain ⟨K, fd, sp, KX, hb, hsp, hF⟩ := F w mg fa _ Y G.T.g hmg
  exact law_call KX G.T.g G.T.b G.T.builtins G.T.nolimit hg hobj hints (Nat.le_trans hlen hn2) hr hF hb (fun H hO hS => hsp H a ns hlen hO hS) fun H e s' ⟨_, _, _, _, _, _, _, _, _, _, _, _, z⟩ => z
end MP
namespace K27
open PySem PySem.W PySem.Calls PyProof.Rows
/-- what is left: the evaluation says True -/
def Says (n : Nat) : Prop := ∀ ns : List Int, ns.length ≤ 63 → MP.callN st.T n 0 [.dat (.slst (ns.map MP.D.int))] [] = .ok (.dat (.bl true)) []
theorem holds_of (n : Nat) (hr : L2.Room (3 * n) callerA) (hs : Says n) : PySem.Challenge.rw_spreadgap_k27_settling_time.Holds := by
  w_on; o_law
  refine HandSHeadRun.head_imp (r := OpenLaw.row PySem.Challenge.rw_spreadgap_k27_settling_time) (q := K27.qv) (H := K27.hk) (ob := K27.ob) (M := 20000) (loose := K27.names) (d := HandSHeadRun.topDef (OpenLaw.row PySem.Challenge.rw_spreadgap_k27_settling_time).prog 57) (kwd := []) K27.ob_eq K27.run
    (by kernel_rfl) (by kernel_rfl) (by kernel_rfl) (by rfl) (by first | assumption | decide +kernel) (by decide +kernel) ⟨rfl, rfl, rfl, rfl, rfl, by decide +kernel⟩ ?hw ?hc
  case hw => w_witness2
  case hc =>
    refine MP.walk_ofM (l := PySem.Challenge.rw_spreadgap_k27_settling_time) (n := 63) (k := 3 * n) (x := "script") rfl (by decide) (by kernel_rfl) hr ?F
    intro w mg fa h Y G hmg0
    obtain ⟨K, KX, hx, c⟩ := Y
    have hmg : mg ("law" : PySem.Str) = some (.ref fa) := by
      have e : (HandSHeadRun.topDef (OpenLaw.row PySem.Challenge.rw_spreadgap_k27_settling_time).prog 57).name = ("law" : PySem.Str) := by kernel_rfl
      rw [← e]
      exact hmg0
    obtain ⟨fd, hb, hF⟩ := MP.law_of (P := PySem.Challenge.rw_spreadgap_k27_settling_time.prog) (w := w) stat KX G hx c (F := f0) rfl (x := "script") (by decide) (by decide) hmg n
    exact ⟨K, fd, _, KX, hb, fun H a ns hl _ hS => MP.sp_law (Nat.le_trans hl (by decide)) hS (hs ns hl), fun base _ _ => hF base⟩
end K27
set_option Elab.async false
set_option linter.all false
set_option maxRecDepth 100000
set_option maxHeartbeats 2000000
theorem PySem.Challenge.cw_spreadgap_k27_settling_time_holds : PySem.Challenge.rw_spreadgap_k27_settling_time.Holds :=
  K27.holds_of 5 ⟨by decide, by decide, by decide⟩ fun ns hn => K27.says (n := 0) ns hn
