import PyProof.Rows.All
import Wide.All
import OpenK.AllK
import Wide.FinOn
import KE.KStateDown
import KE.SortData
import KE.DataMinMax
import HandS.ForMost
import HandS.Exc
import HandS.TryOnly
import HandS.ExcOwn
import HandS.WordsExc
import HandS.Defaults
import HandS.TupAny
import HandS.TupMul
import HandS.HeadHook1
import HandS.Walk
import HandS.CallSlots
import HandS.TupLe
import HandS.IsInst
import HandS.Gcd
import KE.KMathGC
import KE.DataCmp
import HandS.WordsDict
import HandS.Style
import HandS.Zip
import HandS.Dict
import KE.GoesMore
import HandS.HeadEnd
import HandS.Ends
import HandS.More
import HandS.Words
import HandS.Head0
import HandS.Head1
import HandS.Head2
import HandS.Head3
import HandS.HeadHook2
import HandS.HeadHook4
import PySem.Challenge.RW_wholeheights_k80_whole_upper_tables_are
set_option Elab.async false
set_option linter.all false
set_option maxRecDepth 100000
set_option maxHeartbeats 1000000
/-! THE ENGINE, 1: values, slots, the relation between a body's abstract slots and the heap. -/
namespace Eng
open PySem L2

abbrev D := PyData
/-- a slot's content: nothing; an immutable value; an object of the body's own; an object handed in to be changed -/
inductive Cell where
  | no | val (d : D) | own (d : D) | io (d : D)
abbrev Sl := List Cell
/-- an expression's value: immutable; a new object that nothing else holds; the object of slot i -/
inductive Tm where
  | val (d : D) | own (d : D) | bor (i : Nat)
/-- how an evaluation ends -/
inductive Out (α : Type) where
  | ok (a : α) (sl : Sl) | exc (c : Str) (d : D) (sl : Sl) | stuck
/-- how a statement ends -/
inductive SR where
  | nx (sl : Sl) | rt (t : Tm) (sl : Sl) | bk (sl : Sl) | ct (sl : Sl) | exc (c : Str) (d : D) (sl : Sl) | stuck
abbrev EE := Sl → Out Tm
abbrev BB := Sl → Out Bool
abbrev SS := Sl → SR
def Out.bind {α β : Type} (o : Out α) (k : α → Sl → Out β) : Out β := match o with
  | .ok a sl => k a sl
  | .exc c d sl => .exc c d sl
  | .stuck => .stuck

/-! ### keys -/
def keyD : Key → D
  | .inl i => .int i
  | .inr x => .str x

section
variable {K : PySem.W.Frag} {F F' H H' : Hp}
theorem Same.sqT {a : Addr} {xs : List V} (e : Same H H') (h : SqT K H a xs) : SqT K H' a xs := by
  rcases h with (h | ⟨o, h⟩) | h
  · exact .inl (.inl (e _ _ h))
  · exact .inl (.inr ⟨o, e _ _ h⟩)
  · exact .inr h
mutual
theorem dp_mono (e : Same F F') : ∀ (d : D) {v : V}, Dp K F v d → Dp K F' v d
  | .none, _, h => by cases h; exact .non
  | .bool b, _, h => by cases h; exact .bl b
  | .int i, _, h => by cases h; exact .int i
  | .str x, _, h => by cases h; exact .str x
  | .list ds, _, h => by
    cases h with
    | lst hs ha => exact .lst (Same.seq e hs) (dpAll_mono e ds ha)
  | .tuple ds, _, h => by
    cases h with
    | tup hs ha => exact .tup (Same.sqT e hs) (dpAll_mono e ds ha)
  | .dict _, _, h => by cases h
theorem dpAll_mono (e : Same F F') : ∀ (ds : List D) {vs : List V}, DpAll K F vs ds → DpAll K F' vs ds
  | [], _, h => by cases h; exact .nil
  | d :: ds, _, h => by
    cases h with
    | cons h1 h2 => exact .cons (dp_mono e d h1) (dpAll_mono e ds h2)
end
/-- a dict's pairs -/
def KvR (K : PySem.W.Frag) (F : Hp) : List (Key × V) → List (D × D) → Prop := Paired fun p q => keyD p.1 = q.1 ∧ Dp K F p.2 q.2
theorem kv_mono (e : Same F F') {a : List (Key × V)} {b : List (D × D)} (h : KvR K F a b) : KvR K F' a b := Paired.mapP h fun _ _ z => ⟨z.1, dp_mono e _ z.2⟩
/-- an immutable value -/
def Den (K : PySem.W.Frag) (F : Hp) (v : V) (d : D) : Prop := Dp K F v d
theorem Den.mono (e : Same F F') {v : V} {d : D} (h : Den K F v d) : Den K F' v d := dp_mono e d h
theorem Den.dp {v : V} {d : D} (h : Den K F v d) : Dp K F v d := h
/-- the object at a of the heap H: its parts immutable -/
def ObjR (K : PySem.W.Frag) (F H : Hp) (a : Addr) : D → Prop
  | .list ds => ∃ xs, H a = some (.lst xs) ∧ DpAll K F xs ds
  | .dict kvs => ∃ kv, H a = some (.dK kv) ∧ KvR K F kv kvs
  | _ => False
theorem ObjR.mono (e : Same F F') {a : Addr} {d : D} (h : ObjR K F H a d) (e2 : H' a = H a) : ObjR K F' H' a d := by
  cases d with
  | list ds =>
    obtain ⟨xs, h1, h2⟩ := h
    exact ⟨xs, e2.trans h1, dpAll_mono e ds h2⟩
  | dict kvs =>
    obtain ⟨kv, h1, h2⟩ := h
    exact ⟨kv, e2.trans h1, kv_mono e h2⟩
  | _ => exact h.elim
theorem ObjR.some {a : Addr} {d : D} (h : ObjR K F H a d) : H a ≠ none := by
  cases d with
  | list ds =>
    obtain ⟨xs, h1, _⟩ := h
    rw [h1]; intro z; cases z
  | dict kvs =>
    obtain ⟨kv, h1, _⟩ := h
    rw [h1]; intro z; cases z
  | _ => exact h.elim
/-- frozen, it is a value -/
theorem ObjR.frz {a : Addr} {ds : List D} (h : ObjR K F H a (.list ds)) (n : F a = none) (s : Same F H) : ∃ F', Same F F' ∧ Same F' H ∧ Den K F' (.ref a) (.list ds) ∧ (∀ b, b ≠ a → F' b = F b) := by
  obtain ⟨xs, h1, h2⟩ := h
  refine ⟨upd F a (.lst xs), fun b o e => by rw [upd_ne (ne_of_none e n)]; exact e, fun b o e => ?_, .lst (SqL.of upd_same) (dpAll_mono (fun b o e => by rw [upd_ne (ne_of_none e n)]; exact e) ds h2), fun b hb => upd_ne hb⟩
  by_cases hb : b = a
  · subst hb; rw [upd_same] at e; rw [← e]; exact h1
  · rw [upd_ne hb] at e; exact s b o e
end

/-! ### the relation -/
/-- what a body keeps: the entry's heap, its immutable part, the objects handed in (slot, address) -/
structure Ctx where
  K : PySem.W.Frag
  H0 : Hp
  F0 : Hp
  ios : List (Nat × Addr)
def isOwn : Option Cell → Bool
  | some (.own _) => true
  | some (.io _) => true
  | _ => false
def OwnA (σ : L2.St) (sl : Sl) (i : Nat) (a : Addr) : Prop := isOwn sl[i]? = true ∧ σ[i]? = some (some (.ref a))
def CellOk (c : Ctx) (F H : Hp) (i : Nat) (sv : Option (Option V)) : Cell → Prop
  | .no => True
  | .val d => ∃ v, sv = some (some v) ∧ Den c.K F v d
  | .own d => ∃ a, sv = some (some (.ref a)) ∧ c.H0 a = none ∧ F a = none ∧ ObjR c.K F H a d
  | .io d => ∃ a, sv = some (some (.ref a)) ∧ (i, a) ∈ c.ios ∧ F a = none ∧ ObjR c.K F H a d
structure Rel (c : Ctx) (F : Hp) (sl : Sl) (σ : L2.St) (H : Hp) : Prop where
  len : sl.length = σ.length
  sub : Same F H
  f0 : ∀ b, c.H0 b ≠ none → F b = c.F0 b
  kp : ∀ b o, c.H0 b = some o → (∀ i, (i, b) ∉ c.ios) → H b = some o
  cell : ∀ i cl, sl[i]? = some cl → CellOk c F H i σ[i]? cl
  sep : ∀ i j a, OwnA σ sl i a → OwnA σ sl j a → i = j
  io : ∀ i a, (i, a) ∈ c.ios → σ[i]? = some (some (.ref a)) ∧ ∃ d, sl[i]? = some (.io d)
def TmOk (c : Ctx) (F H : Hp) (σ : L2.St) (sl : Sl) (v : V) : Tm → Prop
  | .val d => Den c.K F v d
  | .own d => ∃ a, v = .ref a ∧ c.H0 a = none ∧ F a = none ∧ ObjR c.K F H a d ∧ ∀ i, ¬ OwnA σ sl i a
  | .bor i => σ[i]? = some (some v) ∧ isOwn sl[i]? = true

section
variable {c : Ctx} {F F' H H' : Hp} {sl sl' : Sl} {σ : L2.St}
theorem Rel.owned (R : Rel c F sl σ H) {i : Nat} {a : Addr} (h : OwnA σ sl i a) : F a = none ∧ H a ≠ none ∧ (c.H0 a = none ∨ (i, a) ∈ c.ios) := by
  obtain ⟨h1, h2⟩ := h
  cases q : sl[i]? with
  | none => rw [q] at h1; cases h1
  | some cl =>
    have hc := R.cell i cl q
    cases cl with
    | no => rw [q] at h1; cases h1
    | val d => rw [q] at h1; cases h1
    | own d =>
      obtain ⟨b, e1, e2, e3, e4⟩ := hc
      rw [h2] at e1; cases e1
      exact ⟨e3, e4.some, .inl e2⟩
    | io d =>
      obtain ⟨b, e1, e2, e3, e4⟩ := hc
      rw [h2] at e1; cases e1
      exact ⟨e3, e4.some, .inr e2⟩
/-- what was there is there -/
theorem Rel.there (R : Rel c F sl σ H) {b : Addr} (h : c.H0 b ≠ none) : H b ≠ none := by
  by_cases hi : ∃ i, (i, b) ∈ c.ios
  · obtain ⟨i, hi⟩ := hi
    obtain ⟨e1, d, e2⟩ := R.io i b hi
    exact (R.owned ⟨by rw [e2]; rfl, e1⟩).2.1
  · cases q : c.H0 b with
    | none => exact (h q).elim
    | some o =>
      rw [R.kp b o q fun i z => hi ⟨i, z⟩]
      intro z; cases z
/-- nothing of ours changes -/
theorem Rel.step (R : Rel c F sl σ H) (f : Same F F') (s : Same F' H') (fo : ∀ b, H b ≠ none → F' b = F b) (k : ∀ b, H b ≠ none → H' b = H b) : Rel c F' sl σ H' where
  len := R.len
  sub := s
  f0 := fun b hb => (fo b (R.there hb)).trans (R.f0 b hb)
  kp := fun b o e n => (k b (R.there (by rw [e]; intro z; cases z))).trans (R.kp b o e n)
  cell := fun i cl e => by
    have h := R.cell i cl e
    cases cl with
    | no => trivial
    | val d =>
      obtain ⟨v, e1, e2⟩ := h
      exact ⟨v, e1, e2.mono f⟩
    | own d =>
      obtain ⟨a, e1, e2, e3, e4⟩ := h
      exact ⟨a, e1, e2, (fo a e4.some).trans e3, e4.mono f (k a e4.some)⟩
    | io d =>
      obtain ⟨a, e1, e2, e3, e4⟩ := h
      exact ⟨a, e1, e2, (fo a e4.some).trans e3, e4.mono f (k a e4.some)⟩
  sep := R.sep
  io := R.io
theorem Same.new {p : Addr} {o : HO} (h : H p = none) : Same H (upd H p o) := fun b u e => by
  rw [upd_ne (ne_of_none e h)]
  exact e
/-- a new immutable object -/
theorem Rel.newF (R : Rel c F sl σ H) {p : Addr} (h : H p = none) (o : HO) : Same F (upd F p o) ∧ Rel c (upd F p o) sl σ (upd H p o) := by
  have hF : F p = none := Same.free R.sub h
  refine ⟨Same.new hF, R.step (Same.new hF) (fun b u e => ?_) (fun b hb => upd_ne fun z => hb (z ▸ h)) fun b hb => upd_ne fun z => hb (z ▸ h)⟩
  by_cases hb : b = p
  · subst hb; rw [upd_same] at e ⊢; exact e
  · rw [upd_ne hb] at e ⊢; exact R.sub b u e
/-- a new object of the body's own -/
theorem Rel.newO (R : Rel c F sl σ H) {p : Addr} (h : H p = none) (o : HO) : Rel c F sl σ (upd H p o) :=
  R.step (Same.refl F) (fun b u e => by rw [upd_ne (ne_of_none (R.sub b u e) h)]; exact R.sub b u e) (fun _ _ => rfl) fun b hb => upd_ne fun z => hb (z ▸ h)
theorem Rel.notOwn (R : Rel c F sl σ H) {p : Addr} (h : H p = none) (i : Nat) : ¬ OwnA σ sl i p := fun z => (R.owned z).2.1 h
theorem Rel.notH0 (R : Rel c F sl σ H) {p : Addr} (h : H p = none) : c.H0 p = none := by
  cases q : c.H0 p with
  | none => rfl
  | some o => exact (R.there (b := p) (by rw [q]; intro z; cases z) h).elim
theorem Rel.tmNewL (R : Rel c F sl σ H) {p : Addr} (h : H p = none) {xs : List V} {ds : List D} (hd : DpAll c.K F xs ds) : TmOk c F (upd H p (.lst xs)) σ sl (.ref p) (.own (.list ds)) :=
  ⟨p, rfl, R.notH0 h, Same.free R.sub h, ⟨xs, upd_same, hd⟩, R.notOwn h⟩
theorem Rel.tmNewT (R : Rel c F sl σ H) {p : Addr} (h : H p = none) {xs : List V} {ds : List D} (hd : DpAll c.K F xs ds) : TmOk c (upd F p (.tup xs)) (upd H p (.tup xs)) σ sl (.ref p) (.val (.tuple ds)) :=
  (.tup (SqT.of upd_same) (dpAll_mono (Same.new (Same.free R.sub h)) ds hd))
theorem set_get {α : Type} {l : List α} {i j : Nat} {x y : α} (h : (l.set i x)[j]? = some y) : (i = j ∧ y = x ∧ i < l.length) ∨ (i ≠ j ∧ l[j]? = some y) := by
  by_cases e : i = j
  · subst e
    rw [List.getElem?_set] at h
    by_cases hl : i < l.length
    · simp [hl] at h
      exact .inl ⟨rfl, h.symm, hl⟩
    · simp [hl] at h
  · rw [List.getElem?_set_ne e] at h
    exact .inr ⟨e, h⟩
theorem own_set {i j : Nat} {cl : Cell} {a : Addr} (h : OwnA σ (sl.set i cl) j a) (hc : isOwn (some cl) = true → isOwn sl[i]? = true) : OwnA σ sl j a := by
  obtain ⟨h1, h2⟩ := h
  refine ⟨?_, h2⟩
  cases q : (sl.set i cl)[j]? with
  | none => rw [q] at h1; cases h1
  | some cl' =>
    rw [q] at h1
    rcases set_get q with ⟨e1, e2, _⟩ | ⟨_, e2⟩
    · subst e1; subst e2; exact hc h1
    · rw [e2]; exact h1
/-- the cell i becomes a value, or is forgotten -/
theorem Rel.setVal (R : Rel c F sl σ H) {i : Nat} {cl : Cell} (hi : ∀ a, (i, a) ∉ c.ios) (hn : isOwn (some cl) = false) (hc : i < sl.length → CellOk c F H i σ[i]? cl) : Rel c F (sl.set i cl) σ H where
  len := by rw [List.length_set]; exact R.len
  sub := R.sub
  f0 := R.f0
  kp := R.kp
  cell := fun j cl' e => by
    rcases set_get e with ⟨e1, e2, e3⟩ | ⟨_, e2⟩
    · subst e1; subst e2; exact hc e3
    · exact R.cell j cl' e2
  sep := fun j k a h1 h2 => R.sep j k a (own_set h1 fun z => by rw [hn] at z; cases z) (own_set h2 fun z => by rw [hn] at z; cases z)
  io := fun j a h => by
    obtain ⟨e1, d, e2⟩ := R.io j a h
    refine ⟨e1, d, ?_⟩
    rw [List.getElem?_set_ne]
    · exact e2
    · intro z; subst z; exact hi a h
/-- the object of slot i is frozen -/
theorem Rel.freeze (R : Rel c F sl σ H) {i : Nat} {ds : List D} (hi : sl[i]? = some (.own (.list ds))) : ∃ F', Same F F' ∧ Rel c F' (sl.set i (.val (.list ds))) σ H ∧ ∀ v, σ[i]? = some (some v) → Den c.K F' v (.list ds) := by
  obtain ⟨a, e1, e2, e3, e4⟩ := R.cell i _ hi
  obtain ⟨F', f1, f2, f3, f4⟩ := e4.frz e3 R.sub
  refine ⟨F', f1, ?_, fun v hv => by rw [e1] at hv; cases hv; exact f3⟩
  have hne : ∀ b, c.H0 b ≠ none → b ≠ a := fun b hb z => hb (z ▸ e2)
  refine ⟨by rw [List.length_set]; exact R.len, f2, fun b hb => (f4 b (hne b hb)).trans (R.f0 b hb), R.kp, fun j cl e => ?_, fun j k b h1 h2 => R.sep j k b (own_set h1 fun z => by cases z) (own_set h2 fun z => by cases z), fun j b h => ?_⟩
  · rcases set_get e with ⟨z1, z2, _⟩ | ⟨z1, z2⟩
    · subst z1; subst z2; exact ⟨.ref a, e1, f3⟩
    · have hc := R.cell j cl z2
      have hown : OwnA σ sl i a := ⟨by rw [hi]; rfl, e1⟩
      cases cl with
      | no => trivial
      | val d' =>
        obtain ⟨v, q1, q2⟩ := hc
        exact ⟨v, q1, q2.mono f1⟩
      | own d' =>
        obtain ⟨b, q1, q2, q3, q4⟩ := hc
        have nb : b ≠ a := fun z => z1 (R.sep i j a hown ⟨by rw [z2]; rfl, z ▸ q1⟩)
        exact ⟨b, q1, q2, (f4 b nb).trans q3, q4.mono f1 rfl⟩
      | io d' =>
        obtain ⟨b, q1, q2, q3, q4⟩ := hc
        have nb : b ≠ a := fun z => z1 (R.sep i j a hown ⟨by rw [z2]; rfl, z ▸ q1⟩)
        exact ⟨b, q1, q2, (f4 b nb).trans q3, q4.mono f1 rfl⟩
  · obtain ⟨q1, d', q2⟩ := R.io j b h
    refine ⟨q1, d', ?_⟩
    rw [List.getElem?_set_ne]
    · exact q2
    · intro z; subst z; rw [hi] at q2; cases q2
/-- a temporary is frozen -/
theorem Rel.frzTmp (R : Rel c F sl σ H) {v : V} {ds : List D} (h : TmOk c F H σ sl v (.own (.list ds))) : ∃ F', Same F F' ∧ Rel c F' sl σ H ∧ Den c.K F' v (.list ds) := by
  obtain ⟨a, rfl, e2, e3, e4, e5⟩ := h
  obtain ⟨F', f1, f2, f3, f4⟩ := e4.frz e3 R.sub
  refine ⟨F', f1, ?_, f3⟩
  have hne : ∀ b, c.H0 b ≠ none → b ≠ a := fun b hb z => hb (z ▸ e2)
  refine ⟨R.len, f2, fun b hb => (f4 b (hne b hb)).trans (R.f0 b hb), R.kp, fun j cl e => ?_, R.sep, R.io⟩
  have hc := R.cell j cl e
  cases cl with
  | no => trivial
  | val d' =>
    obtain ⟨v, q1, q2⟩ := hc
    exact ⟨v, q1, q2.mono f1⟩
  | own d' =>
    obtain ⟨b, q1, q2, q3, q4⟩ := hc
    have nb : b ≠ a := fun z => e5 j ⟨by rw [e]; rfl, z ▸ q1⟩
    exact ⟨b, q1, q2, (f4 b nb).trans q3, q4.mono f1 rfl⟩
  | io d' =>
    obtain ⟨b, q1, q2, q3, q4⟩ := hc
    have nb : b ≠ a := fun z => e5 j ⟨by rw [e]; rfl, z ▸ q1⟩
    exact ⟨b, q1, q2, (f4 b nb).trans q3, q4.mono f1 rfl⟩
/-- an object of ours is changed -/
def Cell.put (cl : Cell) (d : D) : Cell := match cl with
  | .own _ => .own d
  | .io _ => .io d
  | cl => cl
def putSl (sl : Sl) (i : Nat) (d : D) : Sl := match sl[i]? with
  | some cl => sl.set i (cl.put d)
  | none => sl
theorem Rel.change (R : Rel c F sl σ H) {i : Nat} {a : Addr} {o : HO} {d : D} (hi : OwnA σ sl i a) (ho : ObjR c.K F (upd H a o) a d) : Rel c F (putSl sl i d) σ (upd H a o) := by
  obtain ⟨g1, g2, g3⟩ := R.owned hi
  obtain ⟨h1, h2⟩ := hi
  have hown : OwnA σ sl i a := ⟨h1, h2⟩
  cases q : sl[i]? with
  | none => rw [q] at h1; cases h1
  | some cl =>
    have ep : putSl sl i d = sl.set i (cl.put d) := by unfold putSl; rw [q]
    have ecl : isOwn (some (cl.put d)) = true → isOwn sl[i]? = true := fun _ => h1
    rw [ep]
    refine ⟨by rw [List.length_set]; exact R.len, fun b u e => ?_, R.f0, fun b u e n => ?_, fun j cl' e => ?_, fun j k b z1 z2 => R.sep j k b (own_set z1 ecl) (own_set z2 ecl), fun j b h => ?_⟩
    · rw [upd_ne (ne_of_none e g1)]; exact R.sub b u e
    · have nb : b ≠ a := fun z => by
        subst z
        rcases g3 with g3 | g3
        · rw [g3] at e; cases e
        · exact n i g3
      rw [upd_ne nb]; exact R.kp b u e n
    · rcases set_get e with ⟨z1, z2, _⟩ | ⟨z1, z2⟩
      · subst z1; subst z2
        have hc := R.cell i cl q
        rw [q] at h1
        cases cl with
        | no => cases h1
        | val _ => cases h1
        | own d0 =>
          obtain ⟨b, q1, q2, q3, _⟩ := hc
          rw [h2] at q1; cases q1
          exact ⟨a, h2, q2, q3, ho⟩
        | io d0 =>
          obtain ⟨b, q1, q2, q3, _⟩ := hc
          rw [h2] at q1; cases q1
          exact ⟨a, h2, q2, q3, ho⟩
      · have hc := R.cell j cl' z2
        cases cl' with
        | no => trivial
        | val d' => exact hc
        | own d' =>
          obtain ⟨b, q1, q2, q3, q4⟩ := hc
          have nb : b ≠ a := fun z => z1 (R.sep i j a hown ⟨by rw [z2]; rfl, z ▸ q1⟩)
          exact ⟨b, q1, q2, q3, q4.mono (Same.refl F) (upd_ne nb)⟩
        | io d' =>
          obtain ⟨b, q1, q2, q3, q4⟩ := hc
          have nb : b ≠ a := fun z => z1 (R.sep i j a hown ⟨by rw [z2]; rfl, z ▸ q1⟩)
          exact ⟨b, q1, q2, q3, q4.mono (Same.refl F) (upd_ne nb)⟩
    · obtain ⟨q1, d', q2⟩ := R.io j b h
      refine ⟨q1, ?_⟩
      by_cases z : i = j
      · subst z
        rw [q] at q2
        have q3 : cl = .io d' := Option.some.inj q2
        subst q3
        have hl : i < sl.length := (List.getElem?_eq_some_iff.mp q).1
        exact ⟨d, by rw [List.getElem?_set]; simp [hl, Cell.put]⟩
      · exact ⟨d', by rw [List.getElem?_set_ne z]; exact q2⟩
/-- a tracked object that none of ours is, kept through -/
def Ctx.pin (c : Ctx) (p : Addr) (o : HO) : Ctx := { c with H0 := upd c.H0 p o, F0 := fun b => if b = p then none else c.F0 b }
theorem Rel.pin (R : Rel c F sl σ H) {p : Addr} {o : HO} (h : H p = some o) (hF : F p = none) (h0 : c.H0 p = none) (hn : ∀ i, ¬ OwnA σ sl i p) : Rel (c.pin p o) F sl σ H where
  len := R.len
  sub := R.sub
  f0 := fun b hb => by
    show F b = if b = p then none else c.F0 b
    by_cases e : b = p
    · rw [if_pos e, e]; exact hF
    · rw [if_neg e]; exact R.f0 b (by rw [show (c.pin p o).H0 b = c.H0 b from upd_ne e] at hb; exact hb)
  kp := fun b u e n => by
    by_cases z : b = p
    · subst z; rw [show (c.pin b o).H0 b = some o from upd_same] at e; rw [← e]; exact h
    · rw [show (c.pin p o).H0 b = c.H0 b from upd_ne z] at e; exact R.kp b u e n
  cell := fun i cl e => by
    have hc := R.cell i cl e
    cases cl with
    | no => trivial
    | val d => exact hc
    | own d =>
      obtain ⟨a, q1, q2, q3, q4⟩ := hc
      have na : a ≠ p := fun z => hn i ⟨by rw [e]; rfl, z ▸ q1⟩
      exact ⟨a, q1, (show upd c.H0 p o a = none by rw [upd_ne na]; exact q2), q3, q4⟩
    | io d => exact hc
  sep := R.sep
  io := R.io
theorem Rel.unpin {p : Addr} {o : HO} (R : Rel (c.pin p o) F sl σ H) (h0 : c.H0 p = none) (hio : ∀ i, (i, p) ∉ c.ios) : Rel c F sl σ H ∧ H p = some o ∧ F p = none ∧ ∀ i, ¬ OwnA σ sl i p := by
  have e0 : (c.pin p o).H0 p = some o := upd_same
  refine ⟨⟨R.len, R.sub, fun b hb => ?_, fun b u e n => ?_, fun i cl e => ?_, R.sep, R.io⟩, R.kp p o e0 hio, ?_, fun i hi => ?_⟩
  · have z : b ≠ p := fun z => hb (z ▸ h0)
    have q := R.f0 b (by rw [show (c.pin p o).H0 b = c.H0 b from upd_ne z]; exact hb)
    rw [q]
    exact if_neg z
  · have z : b ≠ p := fun z => by rw [z, h0] at e; cases e
    exact R.kp b u (by rw [show (c.pin p o).H0 b = c.H0 b from upd_ne z]; exact e) n
  · have hc := R.cell i cl e
    cases cl with
    | no => trivial
    | val d => exact hc
    | own d =>
      obtain ⟨a, q1, q2, q3, q4⟩ := hc
      have na : a ≠ p := fun z => by rw [z, e0] at q2; cases q2
      exact ⟨a, q1, (by rw [show (c.pin p o).H0 a = c.H0 a from upd_ne na] at q2; exact q2), q3, q4⟩
    | io d => exact hc
  · have q := R.f0 p (by rw [e0]; intro z; cases z)
    rw [q]
    exact if_pos rfl
  · obtain ⟨_, _, q⟩ := R.owned hi
    rcases q with q | q
    · rw [e0] at q; cases q
    · exact hio i q
end
end Eng
set_option Elab.async false
set_option linter.all false
set_option maxRecDepth 100000
set_option maxHeartbeats 1000000
/-! THE ENGINE, 2: readings by value-level functions; expressions. -/
namespace Eng
open PySem L2

/-! ### readings -/
def ExcP (c : Ctx) (W : WX) (σ : L2.St) (cn : Str) (d : D) (sl : Sl) : Prop :=
  ∀ dd v F' H', Rel c F' sl σ H' → H' dd = some (.xd [(("value" : Str), v)]) → Den c.K F' v d → W (.ref (He.ga c.K cn)) (some dd) σ H'
def OutOk {α : Type} (o : Out α) (P : α → Sl → Prop) (X : Str → D → Sl → Prop) : Prop := match o with
  | .ok a sl => P a sl
  | .exc cn d sl => X cn d sl
  | .stuck => False
theorem OutOk.bind {α β : Type} {o : Out α} {k : α → Sl → Out β} {P : β → Sl → Prop} {X : Str → D → Sl → Prop} (h : OutOk (o.bind k) P X) : OutOk o (fun a sl => OutOk (k a sl) P X) X := by
  cases o with
  | ok a sl => exact h
  | exc cn d sl => exact h
  | stuck => exact h
theorem OutOk.imp {α : Type} {o : Out α} {P P' : α → Sl → Prop} {X : Str → D → Sl → Prop} (h : OutOk o P X) (f : ∀ a sl, P a sl → P' a sl) : OutOk o P' X := by
  cases o with
  | ok a sl => exact f a sl h
  | exc cn d sl => exact h
  | stuck => exact h
/-- the state ahead -/
def At (K : PySem.W.Frag) (σ : L2.St) (H : Hp) (R : Ctx → Hp → Sl → Prop) : Prop := ∃ c F sl, c.K = K ∧ Rel c F sl σ H ∧ R c F sl
def tE (K : PySem.W.Frag) (W : WX) (f : EE) : TE := fun σ H Q => At K σ H fun c F sl =>
  OutOk (f sl) (fun t sl' => ∀ v F' H', Same F F' → Rel c F' sl' σ H' → TmOk c F' H' σ sl' v t → Q v H') (ExcP c W σ)
def tV (K : PySem.W.Frag) (W : WX) (f : Sl → Out D) : TE := fun σ H Q => At K σ H fun c F sl =>
  OutOk (f sl) (fun d sl' => ∀ v F' H', Same F F' → Rel c F' sl' σ H' → Den c.K F' v d → Q v H') (ExcP c W σ)
def tB (K : PySem.W.Frag) (W : WX) (f : BB) : TT := fun σ H Q => At K σ H fun c F sl =>
  OutOk (f sl) (fun b sl' => ∀ F' H', Same F F' → Rel c F' sl' σ H' → Q b H') (ExcP c W σ)
def DenAll (K : PySem.W.Frag) (F : Hp) : List V → List D → Prop := Paired (Den K F)
theorem DenAll.mono {K : PySem.W.Frag} {F F' : Hp} (e : Same F F') {vs : List V} {ds : List D} (h : DenAll K F vs ds) : DenAll K F' vs ds := Paired.mapP h fun _ _ z => z.mono e
/-- values in a row -/
def tVs (K : PySem.W.Frag) (W : WX) (f : Sl → Out (List D)) : TA := fun σ H Q => At K σ H fun c F sl =>
  OutOk (f sl) (fun ds sl' => ∀ vs F' H', Same F F' → Rel c F' sl' σ H' → DenAll c.K F' vs ds → Q vs H') (ExcP c W σ)
/-- values, or objects of slots (their address alone) -/
def ArgOk (K : PySem.W.Frag) (F : Hp) (σ : L2.St) (v : V) : Tm → Prop
  | .val d => Den K F v d
  | .own _ => False
  | .bor i => σ[i]? = some (some v)
def ArgsOk (K : PySem.W.Frag) (F : Hp) (σ : L2.St) : List V → List Tm → Prop := Paired (ArgOk K F σ)
theorem ArgsOk.mono {K : PySem.W.Frag} {F F' : Hp} {σ : L2.St} (e : Same F F') {vs : List V} {ds : List Tm} (h : ArgsOk K F σ vs ds) : ArgsOk K F' σ vs ds := Paired.mapP h fun _ t z => by
  cases t with
  | val d => exact Den.mono e z
  | own d => exact z
  | bor i => exact z
def tAs (K : PySem.W.Frag) (W : WX) (f : Sl → Out (List Tm)) : TA := fun σ H Q => At K σ H fun c F sl =>
  OutOk (f sl) (fun ts sl' => ∀ vs F' H', Same F F' → Rel c F' sl' σ H' → ArgsOk c.K F' σ vs ts → Q vs H') (ExcP c W σ)

/-! ### from values to values -/
def frzT (t : Tm) (sl : Sl) : Out D := match t with
  | .val d => .ok d sl
  | .own (.list ds) => .ok (.list ds) sl
  | .own _ => .stuck
  | .bor i => match sl[i]? with
    | some (.own (.list ds)) => .ok (.list ds) (sl.set i (.val (.list ds)))
    | _ => .stuck
/-- as a value -/
def vl (f : EE) : Sl → Out D := fun sl => (f sl).bind frzT
/-- as an argument that keeps the object of a slot -/
def peekT (t : Tm) (sl : Sl) : Out Tm := match t with
  | .val d => .ok (.val d) sl
  | .own (.list ds) => .ok (.val (.list ds)) sl
  | .own _ => .stuck
  | .bor i => .ok (.bor i) sl
def pk (f : EE) : Sl → Out Tm := fun sl => (f sl).bind peekT
/-- what a value or a slot's object holds now -/
def rsv (t : Tm) (sl : Sl) : Option D := match t with
  | .val d => some d
  | .own _ => none
  | .bor i => match sl[i]? with
    | some (.own d) => some d
    | some (.io d) => some d
    | _ => none
def ofO {α : Type} (o : Option α) (sl : Sl) : Out α := match o with
  | some a => .ok a sl
  | none => .stuck
section
variable {X : Cx} {W : WX} {e : Expr} {c : Ctx} {F F' H H' : Hp} {σ : L2.St} {sl : Sl}
theorem pe_imp {t t' : TE} (h : PE X e t) (i : ∀ σ H Q, t' σ H Q → t σ H Q) : PE X e t' := ⟨fun pins s σ H Q I q => h.run pins s σ H Q I (i σ H Q q)⟩
theorem pt_imp {t t' : TT} (h : PT X e t) (i : ∀ σ H Q, t' σ H Q → t σ H Q) : PT X e t' := ⟨fun pins s σ H Q I q => h.run pins s σ H Q I (i σ H Q q)⟩
theorem pa_imp {es : List Expr} {t t' : TA} (h : PA X es t) (i : ∀ σ H Q, t' σ H Q → t σ H Q) : PA X es t' := ⟨fun pos pins s σ H Q I q => h.run pos pins s σ H Q I (i σ H Q q)⟩
theorem ps_imp {st : Stmt} {t t' : TS} (h : PS X st t) (i : ∀ D σ H, t' D σ H → t D σ H) : PS X st t' := ⟨fun pins s σ H D I q => h.run pins s σ H D I (i D σ H q)⟩
theorem pss_imp {st : List Stmt} {t t' : TS} (h : PSs X st t) (i : ∀ D σ H, t' D σ H → t D σ H) : PSs X st t' := ⟨fun pins s σ H D I q => h.run pins s σ H D I (i D σ H q)⟩
theorem frz_ok {t : Tm} {v : V} {P : D → Sl → Prop} {Y : Str → D → Sl → Prop} (R : Rel c F sl σ H) (h : TmOk c F H σ sl v t) (q : OutOk (frzT t sl) P Y) : ∃ F' d sl', Same F F' ∧ Rel c F' sl' σ H ∧ Den c.K F' v d ∧ P d sl' := by
  cases t with
  | val d => exact ⟨F, d, sl, Same.refl F, R, h, q⟩
  | own d =>
    cases d with
    | list ds =>
      obtain ⟨F', f1, f2, f3⟩ := R.frzTmp h
      exact ⟨F', _, sl, f1, f2, f3, q⟩
    | _ => exact q.elim
  | bor i =>
    unfold frzT at q
    dsimp only at q
    cases z : sl[i]? with
    | none => rw [z] at q; exact q.elim
    | some cl =>
      rw [z] at q
      cases cl with
      | own d =>
        cases d with
        | list ds =>
          obtain ⟨F', f1, f2, f3⟩ := R.freeze z
          exact ⟨F', _, _, f1, f2, f3 v h.1, q⟩
        | _ => exact q.elim
      | no => exact q.elim
      | val _ => exact q.elim
      | io _ => exact q.elim
theorem pe_vl {f : EE} (h : PE X e (tE X.K W f)) : PE X e (tV X.K W (vl f)) := pe_imp h fun σ H Q ⟨c, F, sl, ek, R, q⟩ => by
  refine ⟨c, F, sl, ek, R, (OutOk.bind q).imp fun t sl1 q1 v F1 H1 s1 R1 t1 => ?_⟩
  obtain ⟨F2, d, sl2, s2, R2, d2, q2⟩ := frz_ok R1 t1 q1
  exact q2 v F2 H1 (Same.trans s1 s2) R2 d2
theorem peek_ok {t : Tm} {v : V} {P : Tm → Sl → Prop} {Y : Str → D → Sl → Prop} (R : Rel c F sl σ H) (h : TmOk c F H σ sl v t) (q : OutOk (peekT t sl) P Y) : ∃ F' t', Same F F' ∧ Rel c F' sl σ H ∧ ArgOk c.K F' σ v t' ∧ P t' sl := by
  cases t with
  | val d => exact ⟨F, .val d, Same.refl F, R, h, q⟩
  | own d =>
    cases d with
    | list ds =>
      obtain ⟨F', f1, f2, f3⟩ := R.frzTmp h
      exact ⟨F', .val (.list ds), f1, f2, f3, q⟩
    | _ => exact q.elim
  | bor i => exact ⟨F, .bor i, Same.refl F, R, h.1, q⟩
/-- a value, or a slot's object -/
def tP (K : PySem.W.Frag) (W : WX) (f : Sl → Out Tm) : TE := fun σ H Q => At K σ H fun c F sl =>
  OutOk (f sl) (fun t sl' => ∀ v F' H', Same F F' → Rel c F' sl' σ H' → ArgOk c.K F' σ v t → Q v H') (ExcP c W σ)
theorem pe_pk {f : EE} (h : PE X e (tE X.K W f)) : PE X e (tP X.K W (pk f)) := pe_imp h fun σ H Q ⟨c, F, sl, ek, R, q⟩ => by
  refine ⟨c, F, sl, ek, R, (OutOk.bind q).imp fun t sl1 q1 v F1 H1 s1 R1 t1 => ?_⟩
  obtain ⟨F2, t', s2, R2, d2, q2⟩ := peek_ok R1 t1 q1
  exact q2 v F2 H1 (Same.trans s1 s2) R2 d2
/-- what is read at the top of a value -/
def Top (K : PySem.W.Frag) (F H : Hp) (v : V) (d : D) : Prop := Den K F v d ∨ ∃ a, v = .ref a ∧ ObjR K F H a d
theorem rsv_ok {t : Tm} {v : V} {d : D} (R : Rel c F sl σ H) (h : ArgOk c.K F σ v t) (q : rsv t sl = some d) : Top c.K F H v d := by
  cases t with
  | val d' => cases q; exact .inl h
  | own d' => cases q
  | bor i =>
    unfold rsv at q
    dsimp only at q
    cases z : sl[i]? with
    | none => rw [z] at q; cases q
    | some cl =>
      rw [z] at q
      have hc := R.cell i cl z
      cases cl with
      | own d' =>
        cases q
        obtain ⟨a, e1, _, _, e4⟩ := hc
        have h' : σ[i]? = some (some v) := h
        rw [h'] at e1; cases e1
        exact .inr ⟨a, rfl, e4⟩
      | io d' =>
        cases q
        obtain ⟨a, e1, _, _, e4⟩ := hc
        have h' : σ[i]? = some (some v) := h
        rw [h'] at e1; cases e1
        exact .inr ⟨a, rfl, e4⟩
      | no => cases q
      | val _ => cases q
theorem Top.list {v : V} {ds : List D} (h : Top c.K F H v (.list ds)) (s : Same F H) : ∃ a xs, v = .ref a ∧ SqL c.K H a xs ∧ DpAll c.K F xs ds := by
  rcases h with h | ⟨a, rfl, xs, h1, h2⟩
  · cases h with
    | lst hs ha => exact ⟨_, _, rfl, Same.seq s hs, ha⟩
  · exact ⟨a, xs, rfl, SqL.of h1, h2⟩
theorem Top.tuple {v : V} {ds : List D} (h : Top c.K F H v (.tuple ds)) (s : Same F H) : ∃ a xs, v = .ref a ∧ SqT c.K F a xs ∧ SqT c.K H a xs ∧ DpAll c.K F xs ds := by
  rcases h with h | ⟨a, rfl, h1⟩
  · cases h with
    | tup hs ha => exact ⟨_, _, rfl, hs, Same.sqT s hs, ha⟩
  · exact h1.elim
theorem Top.dict {v : V} {kvs : List (D × D)} (h : Top c.K F H v (.dict kvs)) (s : Same F H) : ∃ a kv, v = .ref a ∧ H a = some (.dK kv) ∧ KvR c.K F kv kvs := by
  rcases h with h | ⟨a, rfl, kv, h1, h2⟩
  · cases h
  · exact ⟨a, kv, rfl, h1, h2⟩
theorem Den.int {K : PySem.W.Frag} {v : V} {i : Int} (h : Den K F v (.int i)) : v = .int i := by
  cases h; rfl
theorem Den.bool {K : PySem.W.Frag} {v : V} {i : Bool} (h : Den K F v (.bool i)) : v = .bl i := by
  cases h; rfl
theorem Den.str {K : PySem.W.Frag} {v : V} {i : Str} (h : Den K F v (.str i)) : v = .str i := by
  cases h; rfl
theorem Den.none {K : PySem.W.Frag} {v : V} (h : Den K F v .none) : v = .non := by
  cases h; rfl

/-! ### names, constants -/
def var (i : Nat) : EE := fun sl => match sl[i]? with
  | some (.val d) => .ok (.val d) sl
  | some (.own _) => .ok (.bor i) sl
  | some (.io _) => .ok (.bor i) sl
  | _ => .stuck
theorem pe_v {i : Nat} (h : PE X e (tVar i)) : PE X e (tE X.K W (var i)) := pe_imp h fun σ H Q ⟨c, F, sl, ek, R, q⟩ => by
  unfold var at q
  dsimp only at q
  cases z : sl[i]? with
  | none => rw [z] at q; exact q.elim
  | some cl =>
    rw [z] at q
    have hc := R.cell i cl z
    cases cl with
    | no => exact q.elim
    | val d =>
      obtain ⟨v, e1, e2⟩ := hc
      exact ⟨v, e1, q v F H (Same.refl F) R e2⟩
    | own d =>
      obtain ⟨a, e1, _⟩ := hc
      exact ⟨_, e1, q _ F H (Same.refl F) R ⟨e1, by rw [z]; rfl⟩⟩
    | io d =>
      obtain ⟨a, e1, _⟩ := hc
      exact ⟨_, e1, q _ F H (Same.refl F) R ⟨e1, by rw [z]; rfl⟩⟩
def cst (d : D) : EE := fun sl => .ok (.val d) sl
theorem pe_cst {v : V} {d : D} (h : PE X e (tC v)) (hd : ∀ F, Den X.K F v d) : PE X e (tE X.K W (cst d)) := pe_imp h fun σ H Q ⟨c, F, sl, ek, R, q⟩ =>
  q v F H (Same.refl F) R (by show Den c.K F v d; rw [ek]; exact hd F)

/-! ### operators by values -/
def tm1 (o : Option Tm) (sl : Sl) : Out Tm := ofO o sl
def op2 (g : D → D → Option Tm) (fa fb : EE) : EE := fun sl => (vl fa sl).bind fun x sl1 => (vl fb sl1).bind fun y sl2 => ofO (g x y) sl2
def op1 (g : D → Option Tm) (fa : EE) : EE := fun sl => (vl fa sl).bind fun x sl1 => ofO (g x) sl1
/-- a rule by values is what g says -/
def RS2 (K : PySem.W.Frag) (r : R2) (g : D → D → Option Tm) : Prop := ∀ (c : Ctx) (F : Hp) (sl : Sl) (σ : L2.St) (H : Hp) (x y : V) (dx dy : D) (t : Tm) (Q : VK), c.K = K → Rel c F sl σ H → Den c.K F x dx → Den c.K F y dy → g dx dy = some t →
  (∀ v F' H', Same F F' → Rel c F' sl σ H' → TmOk c F' H' σ sl v t → Q v H') → r x y H Q
def RS1 (K : PySem.W.Frag) (r : V → Hp → VK → Prop) (g : D → Option Tm) : Prop := ∀ (c : Ctx) (F : Hp) (sl : Sl) (σ : L2.St) (H : Hp) (x : V) (dx : D) (t : Tm) (Q : VK), c.K = K → Rel c F sl σ H → Den c.K F x dx → g dx = some t →
  (∀ v F' H', Same F F' → Rel c F' sl σ H' → TmOk c F' H' σ sl v t → Q v H') → r x H Q
theorem ofO_ok {α : Type} {o : Option α} {P : α → Sl → Prop} {Y : Str → D → Sl → Prop} (q : OutOk (ofO o sl) P Y) : ∃ a, o = some a ∧ P a sl := by
  cases o with
  | none => exact q.elim
  | some a => exact ⟨a, rfl, q⟩
theorem tOp_of {r : R2} {g : D → D → Option Tm} (rs : RS2 X.K r g) {fa fb : EE} (σ : L2.St) (H : Hp) (Q : VK) (h : tE X.K W (op2 g fa fb) σ H Q) : tOp r (tV X.K W (vl fa)) (tV X.K W (vl fb)) σ H Q := by
  obtain ⟨c, F, sl, ek, R, q⟩ := h
  refine ⟨c, F, sl, ek, R, (OutOk.bind q).imp fun x sl1 q1 v F1 H1 s1 R1 d1 => ⟨c, F1, sl1, ek, R1, (OutOk.bind q1).imp fun y sl2 q2 u F2 H2 s2 R2 d2 => ?_⟩⟩
  obtain ⟨t, et, q3⟩ := ofO_ok q2
  exact rs c F2 sl2 σ H2 v u x y t Q ek R2 (d1.mono s2) d2 et fun v' F' H' s3 R3 t3 => q3 v' F' H' (Same.trans (Same.trans s1 s2) s3) R3 t3
theorem pe_op2 {op : Operator} {r : R2} {g : D → D → Option Tm} {a b : Expr} {fa fb : EE} {pos : Pos} (ho : OpR X (binaryOp op) r) (rs : RS2 X.K r g) (ha : PE X a (tE X.K W fa)) (hb : PE X b (tE X.K W fb)) :
    PE X (.BinOp a op b pos) (tE X.K W (op2 g fa fb)) := pe_imp (pe_op ho (pe_vl ha) (pe_vl hb)) fun σ H Q h => tOp_of rs σ H Q h
theorem pe_cmp2 {op : CmpOp} {r : R2} {g : D → D → Option Tm} {a b : Expr} {fa fb : EE} {pos : Pos} (ho : OpR X (compareOp op) r) (rs : RS2 X.K r g) (ha : PE X a (tE X.K W fa)) (hb : PE X b (tE X.K W fb)) (hm : behindInMarks op b = false) :
    PE X (.Compare a [op] [b] pos) (tE X.K W (op2 g fa fb)) := pe_imp (pe_cmpR ho (pe_vl ha) (pe_vl hb) hm) fun σ H Q h => tOp_of rs σ H Q h
theorem pe_un1 {op : UnaryOp} {r : V → Hp → VK → Prop} {g : D → Option Tm} {a : Expr} {fa : EE} {pos : Pos} (ho : UnR X (unaryOp op) r) (rs : RS1 X.K r g) (ha : PE X a (tE X.K W fa)) :
    PE X (.UnaryOp op a pos) (tE X.K W (op1 g fa)) := pe_imp (pe_un ho (pe_vl ha)) fun σ H Q ⟨c, F, sl, ek, R, q⟩ => by
  refine ⟨c, F, sl, ek, R, (OutOk.bind q).imp fun x sl1 q1 v F1 H1 s1 R1 d1 => ?_⟩
  obtain ⟨t, et, q3⟩ := ofO_ok q1
  exact rs c F1 sl1 σ H1 v x t Q ek R1 d1 et fun v' F' H' s3 R3 t3 => q3 v' F' H' (Same.trans s1 s3) R3 t3

/-! ### ints -/
def bnd : Int := 18446744073709551616
theorem bnd_eq : bnd = 2 ^ 64 := by decide
def gInt2 (f : Int → Int → Option D) (x y : D) : Option Tm := match x, y with
  | .int i, .int j => (f i j).map .val
  | _, _ => none
theorem rs_int2 {K : PySem.W.Frag} {C : Int → Int → Prop} {g : Int → Int → V} {f : Int → Int → Option D} (h : ∀ i j d, f i j = some d → C i j ∧ ∀ F, Den K F (g i j) d) : RS2 K (rI C g) (gInt2 f) := by
  intro c F sl σ H x y dx dy t Q ek R hx hy et q
  cases dx with
  | int i =>
    cases dy with
    | int j =>
      have et' : (f i j).map Tm.val = some t := et
      cases z : f i j with
      | none => rw [z] at et'; cases et'
      | some d =>
        rw [z] at et'
        cases et'
        obtain ⟨h1, h2⟩ := h i j d z
        exact ⟨i, j, hx.int, hy.int, h1, q _ F H (Same.refl F) R (by show Den c.K F _ d; rw [ek]; exact h2 F)⟩
    | _ => cases et
  | _ => cases et
theorem rs_int20 {K : PySem.W.Frag} {g : Int → Int → V} {f : Int → Int → Option D} (h : ∀ i j d, f i j = some d → ∀ F, Den K F (g i j) d) : RS2 K (rI0 g) (gInt2 f) := by
  intro c F sl σ H x y dx dy t Q ek R hx hy et q
  obtain ⟨i, j, e1, e2, _, q'⟩ := rs_int2 (C := fun _ _ => True) (fun i j d z => ⟨trivial, h i j d z⟩) c F sl σ H x y dx dy t Q ek R hx hy et q
  exact ⟨i, j, e1, e2, q'⟩
theorem den_int {K : PySem.W.Frag} {F : Hp} (i : Int) : Den K F (.int i) (.int i) := Dp.int i
theorem den_bl {K : PySem.W.Frag} {F : Hp} (i : Bool) : Den K F (.bl i) (.bool i) := Dp.bl i
theorem den_str {K : PySem.W.Frag} {F : Hp} (i : Str) : Den K F (.str i) (.str i) := Dp.str i
theorem den_non {K : PySem.W.Frag} {F : Hp} : Den K F .non .none := Dp.non
def gSub : D → D → Option Tm := gInt2 fun i j => some (.int (i - j))
def gFdiv : D → D → Option Tm := gInt2 fun i j => if 0 < j ∧ j < 1073741824 then some (.int (i / j)) else none
def gMod : D → D → Option Tm := gInt2 fun i j => if 0 < j then some (.int (i % j)) else none
def gPow : D → D → Option Tm := gInt2 fun i j => if 0 ≤ j ∧ j ≤ 1000000 ∧ i.natAbs < 18446744073709551616 then some (.int (i ^ j.toNat)) else none
theorem rs_sub {K : PySem.W.Frag} : RS2 K (rI0 fun i j => .int (i - j)) gSub := rs_int20 fun i j d h F => by cases h; exact den_int _
theorem rs_fdiv {K : PySem.W.Frag} : RS2 K (rI CDiv fun i j => .int (i / j)) gFdiv := rs_int2 fun i j d h => by
  split at h
  · rename_i z; cases h; exact ⟨z, fun F => den_int _⟩
  · cases h
theorem rs_mod {K : PySem.W.Frag} : RS2 K (rI (fun _ j => 0 < j) fun i j => .int (i % j)) gMod := rs_int2 fun i j d h => by
  split at h
  · rename_i z; cases h; exact ⟨z, fun F => den_int _⟩
  · cases h
theorem rs_pow {K : PySem.W.Frag} : RS2 K (rI CPow fun i j => .int (i ^ j.toNat)) gPow := rs_int2 fun i j d h => by
  split at h
  · rename_i z; cases h; exact ⟨⟨z.1, z.2.1, by have := z.2.2; simpa using this⟩, fun F => den_int _⟩
  · cases h
def gNeg : D → Option Tm := fun x => match x with
  | .int i => some (.val (.int (-i)))
  | _ => none
theorem rs_neg {K : PySem.W.Frag} : RS1 K (rU fun i => .int (-i)) gNeg := by
  intro c F sl σ H x dx t Q ek R hx et q
  cases dx with
  | int i => cases et; exact ⟨i, hx.int, q _ F H (Same.refl F) R (den_int _)⟩
  | _ => cases et

/-! ### + and * of ints, lists, tuples, texts -/
def LINE : Nat := 16777216
theorem line_eq : LINE = sizeLine := sizeLine_eq.symm
def rAddA (K : PySem.W.Frag) : R2 := fun x y H Q => ((∃ i j, x = .int i ∧ y = .int j ∧ Q (.int (i + j)) H) ∨ rCatA K x y H Q) ∨ (∃ i j, x = .str i ∧ y = .str j ∧ i.length + j.length ≤ sizeLine ∧ Q (.str (i ++ j)) H)
theorem op_addA : OpR X (binaryOp .Add) (rAddA X.K) := (op_add.or op_catA).or op_add_str
def gAdd : D → D → Option Tm
  | .int i, .int j => some (.val (.int (i + j)))
  | .tuple xs, .tuple ys => if xs.length + ys.length ≤ LINE then some (.val (.tuple (xs ++ ys))) else none
  | .str i, .str j => if i.length + j.length ≤ LINE then some (.val (.str (i ++ j))) else none
  | _, _ => none
theorem dpAll_len {K : PySem.W.Frag} {F : Hp} : ∀ {xs : List V} {ds : List D}, DpAll K F xs ds → xs.length = ds.length
  | _, _, .nil => rfl
  | _, _, .cons _ t => by rw [List.length_cons, List.length_cons, dpAll_len t]
theorem dpAll_append {K : PySem.W.Frag} {F : Hp} {ys : List V} {es : List D} (h2 : DpAll K F ys es) : ∀ {xs : List V} {ds : List D}, DpAll K F xs ds → DpAll K F (xs ++ ys) (ds ++ es)
  | _, _, .nil => h2
  | _, _, .cons r t => .cons r (dpAll_append h2 t)
end
end Eng
set_option Elab.async false
set_option linter.all false
set_option maxRecDepth 100000
set_option maxHeartbeats 1000000
/-! THE ENGINE, 3: operators on values. -/
namespace Eng
open PySem L2 PyProof.Rows
section
variable {X : Cx} {W : WX} {e : Expr} {c : Ctx} {F F' H H' : Hp} {σ : L2.St} {sl : Sl} {K : PySem.W.Frag}
theorem Den.tup {v : V} {ds : List D} (h : Den K F v (.tuple ds)) : ∃ a xs, v = .ref a ∧ SqT K F a xs ∧ DpAll K F xs ds := by
  cases h with
  | tup hs ha => exact ⟨_, _, rfl, hs, ha⟩
theorem Den.lst {v : V} {ds : List D} (h : Den K F v (.list ds)) : ∃ a xs, v = .ref a ∧ SqL K F a xs ∧ DpAll K F xs ds := by
  cases h with
  | lst hs ha => exact ⟨_, _, rfl, hs, ha⟩
theorem den_tup {a : Addr} {xs : List V} {ds : List D} (h : SqT K F a xs) (ha : DpAll K F xs ds) : Den K F (.ref a) (.tuple ds) := Dp.tup h ha
theorem den_lst {a : Addr} {xs : List V} {ds : List D} (h : SqL K F a xs) (ha : DpAll K F xs ds) : Den K F (.ref a) (.list ds) := Dp.lst h ha
/-- list + list, wherever they stand -/
def rCatL (K : PySem.W.Frag) : R2 := fun x y H Q => ∃ l b xs zs, x = .ref l ∧ y = .ref b ∧ SqL K H l xs ∧ SqL K H b zs ∧ xs.length + zs.length ≤ sizeLine ∧ ∀ p, H p = none → Q (.ref p) (upd H p (.lst (xs ++ zs)))
theorem op_catL : OpR X (binaryOp .Add) (rCatL X.K) := by
  intro pins s σ H x y v u Q I rx ry h
  obtain ⟨l, b, xs, zs, rfl, rfl, hH, hB, hz, q⟩ := h
  cases rx
  cases ry
  obtain ⟨its, r, p1, z1⟩ := I.list hH
  obtain ⟨its2, r2, p2, z2⟩ := I.list hB
  obtain ⟨⟨cls, dd, data, sl⟩, ho, hc, n, hd⟩ := p1.isList
  obtain ⟨⟨cls2, dd2, data2, sl2⟩, ho2, hc2, n2, hd2⟩ := p2.isList
  simp only at hc hd hc2 hd2
  subst hc hd hc2 hd2
  have e1 := r.length
  have e2 := r2.length
  refine PySem.concat_meets ⟨_, ho, rfl⟩ ⟨_, ho2, rfl⟩ PySem.noFill_list_add PySem.seq_list_add PySem.F.slot_list_add PySem.F.entry_list_add (PySem.F.args_list_add_2 _ _) (PyProof.Rows.list_addW l b its.toArray its2.toArray n n2 dd dd2 sl sl2 (by rw [List.size_toArray, List.size_toArray]; omega)) ⟨ho, ho2, ?_⟩
  have ea : its.toArray ++ its2.toArray = (its ++ its2).toArray := by simp
  rw [ea]
  exact ⟨.ref _, _, I.lnew (t' := s.toks) (r.append r2) (by rw [List.length_append]; omega), rfl, q _ I.fresh⟩

def gAddA : D → D → Option Tm := fun x y => match x, y with
  | .int i, .int j => some (.val (.int (i + j)))
  | .tuple xs, .tuple ys => if xs.length + ys.length ≤ LINE then some (.val (.tuple (xs ++ ys))) else none
  | .str i, .str j => if i.length + j.length ≤ LINE then some (.val (.str (i ++ j))) else none
  | .list xs, .list ys => if xs.length + ys.length ≤ LINE then some (.own (.list (xs ++ ys))) else none
  | _, _ => none
def rAddB (K : PySem.W.Frag) : R2 := fun x y H Q => rAddA K x y H Q ∨ rCatL K x y H Q
theorem op_addB : OpR X (binaryOp .Add) (rAddB X.K) := op_addA.or op_catL
theorem rs_add : RS2 K (rAddB K) gAddA := by
  intro c F sl σ H x y dx dy t Q ek R hx hy et q
  subst ek
  cases dx with
  | int i =>
    cases dy with
    | int j => cases et; exact .inl (.inl (.inl ⟨i, j, hx.int, hy.int, q _ F H (Same.refl F) R (den_int _)⟩))
    | _ => cases et
  | str i =>
    cases dy with
    | str j =>
      have et' : (if i.length + j.length ≤ LINE then some (Tm.val (.str (i ++ j))) else none) = some t := et
      split at et'
      · rename_i hl
        cases et'
        exact .inl (.inr ⟨i, j, hx.str, hy.str, by rw [← line_eq]; exact hl, q _ F H (Same.refl F) R (den_str _)⟩)
      · cases et'
    | _ => cases et
  | tuple xs =>
    cases dy with
    | tuple ys =>
      have et' : (if xs.length + ys.length ≤ LINE then some (Tm.val (.tuple (xs ++ ys))) else none) = some t := et
      split at et'
      · rename_i hl
        cases et'
        obtain ⟨a, us, rfl, s1, d1⟩ := hx.tup
        obtain ⟨b, ws, rfl, s2, d2⟩ := hy.tup
        have l1 := dpAll_len d1
        have l2 := dpAll_len d2
        refine .inl (.inl (.inr ⟨a, b, us, ws, rfl, rfl, Same.sqT R.sub s1, Same.sqT R.sub s2, by rw [← line_eq]; omega, fun z => ?_, fun _ z => ?_, fun _ _ p hp => ?_⟩))
        · subst z
          cases d1
          exact q _ F H (Same.refl F) R (den_tup s2 d2)
        · subst z
          cases d2
          exact q _ F H (Same.refl F) R (by show Den c.K F (.ref a) (.tuple (xs ++ [])); rw [List.append_nil]; exact den_tup s1 d1)
        · obtain ⟨f1, f2⟩ := R.newF hp (.tup (us ++ ws))
          exact q _ _ _ f1 f2 (R.tmNewT hp (dpAll_append d2 d1))
      · cases et'
    | _ => cases et
  | list xs =>
    cases dy with
    | list ys =>
      have et' : (if xs.length + ys.length ≤ LINE then some (Tm.own (.list (xs ++ ys))) else none) = some t := et
      split at et'
      · rename_i hl
        cases et'
        obtain ⟨a, us, rfl, s1, d1⟩ := hx.lst
        obtain ⟨b, ws, rfl, s2, d2⟩ := hy.lst
        have l1 := dpAll_len d1
        have l2 := dpAll_len d2
        refine .inr ⟨a, b, us, ws, rfl, rfl, Same.seq R.sub s1, Same.seq R.sub s2, by rw [← line_eq]; omega, fun p hp => ?_⟩
        exact q _ F _ (Same.refl F) (R.newO hp _) (R.tmNewL hp (dpAll_append d2 d1))
      · cases et'
    | _ => cases et
  | _ => cases et

/-! ### * -/
theorem dpAll_rep : ∀ (k : Nat) {xs : List V} {ds : List D}, DpAll K F xs ds → DpAll K F (List.replicate k xs).flatten (List.replicate k ds).flatten
  | 0, _, _, _ => .nil
  | k + 1, xs, ds, h => by
    rw [List.replicate_succ, List.replicate_succ, List.flatten_cons, List.flatten_cons]
    exact dpAll_append (dpAll_rep k h) h
def mulOk (i j : Int) : Bool := (decide (-18446744073709551616 < i) && decide (i < 18446744073709551616)) || (decide (-18446744073709551616 < j) && decide (j < 18446744073709551616))
theorem mulOk_ok {i j : Int} (h : mulOk i j = true) : CMul i j := by
  have e : (2 : Int) ^ 64 = 18446744073709551616 := by decide
  unfold mulOk at h
  unfold CMul
  rw [e]
  simpa using h
def gMul : D → D → Option Tm := fun x y => match x, y with
  | .int i, .int j => if mulOk i j = true then some (.val (.int (i * j))) else none
  | .tuple xs, .int k => if xs.length ≤ 1000 ∧ k ≤ 1000 ∧ 1 ≤ k ∧ xs ≠ [] then some (.val (.tuple (List.replicate k.toNat xs).flatten)) else none
  | _, _ => none
theorem tuple_mul1 (l : Addr) (items : Array Value) (n : Nat) (dd : Option Addr) (sl : Array (Option Value)) (u : Tok) :
    Meets (Builtin.«tuple.__mul__» ⟨[.ref l, .int 1 u], []⟩) (fun _ R s => s.heap.get? l = some { cls := .type "tuple", dict := dd, data := .seq items n, slots := sl } ∧
      R (.ok (.ret (Value.ref l))) s) :=
  .of_wp fun prog w A R s h => by
    obtain ⟨hp, g, d, tk, os⟩ := s
    obtain ⟨hl, h⟩ := h
    have f1 := AutoSeq1.idx_int
    have c0 : (decide ((1 : Int) < -(2 ^ 63)) || decide ((1 : Int) ≥ 2 ^ 63)) = false := by decide
    have c1 : (items.isEmpty || (1 : Int) == 1) = true := by simp
    wp_walk using wpAny_loadPart' hl
    repeat (first
      | (refine wpAny_ite_false (decide_eq_false (by rw [c0]; exact Bool.false_ne_true)) ?_; wp_walk using wpAny_loadPart' hl)
      | (refine wpAny_ite_true (decide_eq_true c1) ?_; wp_walk using wpAny_loadPart' hl))
    exact ⟨_, rfl, h⟩
/-- a tuple once: itself -/
theorem op_repT1 : OpR X (binaryOp .Mult) (fun x y H Q => ∃ l xs, x = .ref l ∧ y = .int 1 ∧ SqT X.K H l xs ∧ xs ≠ [] ∧ xs.length ≤ 1000 ∧ Q (.ref l) H) := by
  intro pins s σ H x y v u Q I rx ry h
  obtain ⟨l, xs, rfl, rfl, hT, hne, hz, q⟩ := h
  cases rx
  obtain ⟨t, rfl⟩ := ry
  obtain ⟨its, r, ⟨⟨cls, dd, data, sl⟩, ho, hc, n, hd⟩, hs⟩ := I.tuple hT
  simp only at hc hd
  subst hc hd
  refine wpAny_binaryOp_repeat_ref (T := "tuple") (U := "int") (by decide) ⟨_, ho, rfl⟩ (fun s' => typeIs_int s' 1 t) noFill_tuple_mul F.fills_int_mul F.slot_int_rmul repeat_tuple F.slot_int_index.lookup
    (call_meets F.slot_int_rmul (typeIs_int s 1 t) F.entry_int_rmul (F.args_int_rmul_2 _ _) (int_rmul_tuple 1 t l its.toArray n dd sl)
      ⟨ho, rfl, ⟨_, ho, rfl⟩, call_meets F.slot_tuple_mul ⟨_, ho, rfl⟩ F.entry_tuple_mul (F.args_tuple_mul_2 _ _) (tuple_mul1 l its.toArray n dd sl t) ⟨ho, ?_⟩⟩)
  exact ⟨.ref l, H, I, rfl, q⟩
def rMulA (K : PySem.W.Frag) : R2 := fun x y H Q => (rI CMul (fun i j => .int (i * j)) x y H Q ∨ rRepT K x y H Q) ∨ (∃ l xs, x = .ref l ∧ y = .int 1 ∧ SqT K H l xs ∧ xs ≠ [] ∧ xs.length ≤ 1000 ∧ Q (.ref l) H)
theorem op_mulA : OpR X (binaryOp .Mult) (rMulA X.K) := (op_mul.or op_repT).or op_repT1
theorem rs_mul : RS2 K (rMulA K) gMul := by
  intro c F sl σ H x y dx dy t Q ek R hx hy et q
  subst ek
  cases dx with
  | int i =>
    cases dy with
    | int j =>
      have et' : (if mulOk i j = true then some (Tm.val (.int (i * j))) else none) = some t := et
      split at et'
      · rename_i hm
        cases et'
        exact .inl (.inl ⟨i, j, hx.int, hy.int, mulOk_ok hm, q _ F H (Same.refl F) R (den_int _)⟩)
      · cases et'
    | _ => cases et
  | tuple xs =>
    cases dy with
    | int k =>
      have et' : (if xs.length ≤ 1000 ∧ k ≤ 1000 ∧ 1 ≤ k ∧ xs ≠ [] then some (Tm.val (.tuple (List.replicate k.toNat xs).flatten)) else none) = some t := et
      split at et'
      · rename_i hm
        cases et'
        obtain ⟨a, us, rfl, s1, d1⟩ := hx.tup
        have l1 := dpAll_len d1
        have ne : us ≠ [] := fun z => by subst z; cases d1; exact hm.2.2.2 rfl
        by_cases k1 : k = 1
        · subst k1
          refine .inr ⟨a, us, rfl, hy.int, Same.sqT R.sub s1, ne, by omega, q _ F H (Same.refl F) R ?_⟩
          show Den c.K F (.ref a) (.tuple (List.replicate 1 xs).flatten)
          have e1 : (List.replicate 1 xs).flatten = xs := by simp
          rw [e1]
          exact den_tup s1 d1
        · refine .inl (.inr ⟨a, k, us, rfl, hy.int, Same.sqT R.sub s1, ne, by omega, hm.2.1, by omega, fun p hp => ?_⟩)
          obtain ⟨f1, f2⟩ := R.newF hp (.tup (List.replicate k.toNat us).flatten)
          exact q _ _ _ f1 f2 (R.tmNewT hp (dpAll_rep k.toNat d1))
      · cases et'
    | _ => cases et
  | _ => cases et

/-! ### == and != -/
def gEq (x y : D) : Option Tm := if SeqAt.shaped x = true ∧ SeqAt.shaped y = true then some (.val (.bool (PyData.eqv x y))) else none
def gNe (x y : D) : Option Tm := if SeqAt.shaped x = true ∧ SeqAt.shaped y = true then some (.val (.bool (!PyData.eqv x y))) else none
theorem rs_eq : RS2 K (rEqD K) gEq := by
  intro c F sl σ H x y dx dy t Q ek R hx hy et q
  subst ek
  unfold gEq at et
  split at et
  · rename_i z
    cases et
    exact ⟨dx, dy, dp_mono R.sub _ hx, dp_mono R.sub _ hy, z.1, z.2, q _ F H (Same.refl F) R (den_bl _)⟩
  · cases et
theorem rs_ne : RS2 K (rNeD K) gNe := by
  intro c F sl σ H x y dx dy t Q ek R hx hy et q
  subst ek
  unfold gNe at et
  split at et
  · rename_i z
    cases et
    exact ⟨dx, dy, dp_mono R.sub _ hx, dp_mono R.sub _ hy, z.1, z.2, q _ F H (Same.refl F) R (den_bl _)⟩
  · cases et

/-! ### order -/
def isNone : D → Bool
  | .none => true
  | _ => false
def cmpOk (x y : D) : Bool := PySem.W.alike x y && (!isNone x && decide (x.depth ≤ 64))
theorem cmpOk_ok {x y : D} (h : cmpOk x y = true) : PySem.W.alike x y = true ∧ x ≠ .none ∧ x.depth ≤ 64 := by
  unfold cmpOk at h
  simp only [Bool.and_eq_true, Bool.not_eq_true', decide_eq_true_eq] at h
  exact ⟨h.1, (fun e => by have := h.2.1; rw [e] at this; cases this), h.2.2⟩
def rOrd (K : PySem.W.Frag) (p : D → D → Bool) : R2 := fun x y H Q => ∃ d e, Dp K H x d ∧ Dp K H y e ∧ cmpOk d e = true ∧ Q (.bl (p d e)) H
def gOrd (p : D → D → Bool) (x y : D) : Option Tm := if cmpOk x y = true then some (.val (.bool (p x y))) else none
theorem rs_ord {p : D → D → Bool} : RS2 K (rOrd K p) (gOrd p) := by
  intro c F sl σ H x y dx dy t Q ek R hx hy et q
  subst ek
  unfold gOrd at et
  split at et
  · rename_i z
    cases et
    exact ⟨dx, dy, dp_mono R.sub _ hx, dp_mono R.sub _ hy, z, q _ F H (Same.refl F) R (den_bl _)⟩
  · cases et
section
variable (hu : X.A.units + 64 < cLine)
include hu
theorem op_ltD : OpR X (compareOp .Lt) (rOrd X.K PySem.W.dataLt) := by
  intro pins s σ H x y v u Q I rx ry h
  obtain ⟨d, e, hd, he, hz, q⟩ := h
  obtain ⟨ha, hn, hz⟩ := cmpOk_ok hz
  obtain ⟨as, r1⟩ := Dp.reads I d x v hd rx
  obtain ⟨bs, r2⟩ := Dp.reads I e y u he ry
  have h1 : min d.depth e.depth ≤ d.depth := Nat.min_le_left _ _
  exact PySem.W.lt_data r1 r2 ha hn (by omega) ⟨.bl _, H, I, rfl, q⟩
theorem op_gtD : OpR X (compareOp .Gt) (rOrd X.K fun d e => PySem.W.dataLt e d) := by
  intro pins s σ H x y v u Q I rx ry h
  obtain ⟨d, e, hd, he, hz, q⟩ := h
  obtain ⟨ha, hn, hz⟩ := cmpOk_ok hz
  obtain ⟨as, r1⟩ := Dp.reads I d x v hd rx
  obtain ⟨bs, r2⟩ := Dp.reads I e y u he ry
  have h1 : min d.depth e.depth ≤ d.depth := Nat.min_le_left _ _
  exact PySem.W.gt_data r1 r2 ha hn (by omega) ⟨.bl _, H, I, rfl, q⟩
theorem op_leD : OpR X (compareOp .LtE) (rOrd X.K fun d e => !PySem.W.dataLt e d) := by
  intro pins s σ H x y v u Q I rx ry h
  obtain ⟨d, e, hd, he, hz, q⟩ := h
  obtain ⟨ha, hn, hz⟩ := cmpOk_ok hz
  obtain ⟨as, r1⟩ := Dp.reads I d x v hd rx
  obtain ⟨bs, r2⟩ := Dp.reads I e y u he ry
  have h1 : min d.depth e.depth ≤ d.depth := Nat.min_le_left _ _
  exact PySem.W.le_data r1 r2 ha hn (by omega) ⟨.bl _, H, I, rfl, q⟩
theorem op_geD : OpR X (compareOp .GtE) (rOrd X.K fun d e => !PySem.W.dataLt d e) := by
  intro pins s σ H x y v u Q I rx ry h
  obtain ⟨d, e, hd, he, hz, q⟩ := h
  obtain ⟨ha, hn, hz⟩ := cmpOk_ok hz
  obtain ⟨as, r1⟩ := Dp.reads I d x v hd rx
  obtain ⟨bs, r2⟩ := Dp.reads I e y u he ry
  have h1 : min d.depth e.depth ≤ d.depth := Nat.min_le_left _ _
  exact PySem.W.ge_data r1 r2 ha hn (by omega) ⟨.bl _, H, I, rfl, q⟩
end
abbrev gLt : D → D → Option Tm := gOrd PySem.W.dataLt
abbrev gGt : D → D → Option Tm := gOrd fun d e => PySem.W.dataLt e d
abbrev gLe : D → D → Option Tm := gOrd fun d e => !PySem.W.dataLt e d
abbrev gGe : D → D → Option Tm := gOrd fun d e => !PySem.W.dataLt d e

/-! ### is None, is not None, is of bools -/
def gIsN (x y : D) : Option Tm := match y with
  | .none => some (.val (.bool (isNone x)))
  | _ => none
def gNotN (x y : D) : Option Tm := match y with
  | .none => some (.val (.bool (!isNone x)))
  | _ => none
theorem isNone_v {v : V} {d : D} (h : Den K F v d) : decide (v = .non) = isNone d := by
  cases h <;> rfl
theorem rs_isN : RS2 K (fun x y H Q => y = .non ∧ Q (.bl (decide (x = .non))) H) gIsN := by
  intro c F sl σ H x y dx dy t Q ek R hx hy et q
  cases dy with
  | none =>
    cases et
    exact ⟨hy.none, by rw [isNone_v hx]; exact q _ F H (Same.refl F) R (den_bl _)⟩
  | _ => cases et
theorem rs_notN : RS2 K (fun x y H Q => y = .non ∧ Q (.bl (!decide (x = .non))) H) gNotN := by
  intro c F sl σ H x y dx dy t Q ek R hx hy et q
  cases dy with
  | none =>
    cases et
    exact ⟨hy.none, by rw [isNone_v hx]; exact q _ F H (Same.refl F) R (den_bl _)⟩
  | _ => cases et
def gIsB (x y : D) : Option Tm := match x, y with
  | .bool a, .bool b => some (.val (.bool (decide (a = b))))
  | _, _ => none
def gNotB (x y : D) : Option Tm := match x, y with
  | .bool a, .bool b => some (.val (.bool (!decide (a = b))))
  | _, _ => none
theorem rs_isB : RS2 K (fun x y H Q => ∃ a b, x = .bl a ∧ y = .bl b ∧ Q (.bl (decide (a = b))) H) gIsB := by
  intro c F sl σ H x y dx dy t Q ek R hx hy et q
  cases dx with
  | bool a =>
    cases dy with
    | bool b => cases et; exact ⟨a, b, hx.bool, hy.bool, q _ F H (Same.refl F) R (den_bl _)⟩
    | _ => cases et
  | _ => cases et
theorem rs_notB : RS2 K (fun x y H Q => ∃ a b, x = .bl a ∧ y = .bl b ∧ Q (.bl (!decide (a = b))) H) gNotB := by
  intro c F sl σ H x y dx dy t Q ek R hx hy et q
  cases dx with
  | bool a =>
    cases dy with
    | bool b => cases et; exact ⟨a, b, hx.bool, hy.bool, q _ F H (Same.refl F) R (den_bl _)⟩
    | _ => cases et
  | _ => cases et
end
end Eng
set_option Elab.async false
set_option linter.all false
set_option maxRecDepth 100000
set_option maxHeartbeats 1000000
/-! THE ENGINE, 4: tests, displays, subscripts, slices, built-in functions. -/
namespace Eng
open PySem L2
section
variable {X : Cx} {W : WX} {e : Expr} {c : Ctx} {F F' H H' : Hp} {σ : L2.St} {sl : Sl} {K : PySem.W.Frag} {a b : Expr} {fa fb : EE} {pos : Pos}
/-! ### tests -/
def truD : D → Option Bool
  | .none => some false
  | .bool b => some b
  | .int i => some (i != 0)
  | .str s => if s.length ≤ LINE then some ((s.length : Int) != 0) else none
  | .list ds => some (!ds.isEmpty)
  | .tuple ds => some (!ds.isEmpty)
  | .dict kvs => some (!kvs.isEmpty)
theorem isEmpty_len {α β : Type} {xs : List α} {ys : List β} (h : xs.length = ys.length) : (!xs.isEmpty) = !ys.isEmpty := by
  cases xs <;> cases ys <;> simp at h ⊢
theorem tru_top {v : V} {d : D} {k : Bool} (s : Same F H) (h : Top c.K F H v d) (q : truD d = some k) : TruV c.K v H k := by
  cases d with
  | none => rcases h with h | ⟨_, _, h⟩; (cases h; cases q; exact rfl); exact h.elim
  | bool b => rcases h with h | ⟨_, _, h⟩; (cases h; cases q; exact rfl); exact h.elim
  | int i => rcases h with h | ⟨_, _, h⟩; (cases h; cases q; exact rfl); exact h.elim
  | str x =>
    rcases h with h | ⟨_, _, h⟩
    · cases h
      have q' : (if x.length ≤ LINE then some ((x.length : Int) != 0) else none) = some k := q
      split at q'
      · rename_i hl
        cases q'
        exact ⟨by rw [← line_eq]; exact hl, rfl⟩
      · cases q'
    · exact h.elim
  | list ds =>
    obtain ⟨a, xs, rfl, h1, h2⟩ := h.list s
    cases q
    exact .inl ⟨xs, h1, (isEmpty_len (dpAll_len h2)).symm⟩
  | tuple ds =>
    obtain ⟨a, xs, rfl, _, h1, h2⟩ := h.tuple s
    cases q
    exact .inr (.inl ⟨xs, h1, (isEmpty_len (dpAll_len h2)).symm⟩)
  | dict kvs =>
    obtain ⟨a, kv, rfl, h1, h2⟩ := h.dict s
    cases q
    exact .inr (.inr ⟨kv, h1, (isEmpty_len (Paired.length h2)).symm⟩)
/-- a value's truth -/
def truB (f : EE) : BB := fun sl => (pk f sl).bind fun t sl1 => ofO ((rsv t sl1).bind truD) sl1
theorem pt_tru (ha : PE X a (tE X.K W fa)) (he : ∀ whole, isTrue a X.env whole = (do let v ← whole; standAt a.pos; holding [v] (truthy v))) : PT X a (tB X.K W (truB fa)) :=
  pt_imp (pt_truth (pe_pk ha) he) fun σ H Q ⟨c, F, sl, ek, R, q⟩ => by
  refine ⟨c, F, sl, ek, R, (OutOk.bind q).imp fun t sl1 q1 v F1 H1 s1 R1 t1 => ?_⟩
  obtain ⟨k, et, q3⟩ := ofO_ok q1
  cases z : rsv t sl1 with
  | none => rw [z] at et; cases et
  | some d =>
    rw [z] at et
    exact ⟨k, by rw [← ek]; exact tru_top R1.sub (rsv_ok R1 t1 z) et, q3 F1 H1 s1 R1⟩
/-- a bool's truth -/
def asB (f : EE) : BB := fun sl => (f sl).bind fun t sl1 => match t with
  | .val (.bool b) => .ok b sl1
  | _ => .stuck
theorem tTest_of {f : EE} (σ : L2.St) (H : Hp) (Q : Bool → Hp → Prop) (h : tB X.K W (asB f) σ H Q) : tTest (tE X.K W f) σ H Q := by
  obtain ⟨c, F, sl, ek, R, q⟩ := h
  refine ⟨c, F, sl, ek, R, (OutOk.bind q).imp fun t sl1 q1 v F1 H1 s1 R1 t1 => ?_⟩
  cases t with
  | val d =>
    cases d with
    | bool k => exact ⟨k, Den.bool t1, q1 F1 H1 s1 R1⟩
    | _ => exact q1.elim
  | _ => exact q1.elim
theorem pt_cmp2 {op : CmpOp} {r : R2} {g : D → D → Option Tm} (ho : OpR X (compareOp op) r) (rs : RS2 X.K r g) (ha : PE X a (tE X.K W fa)) (hb : PE X b (tE X.K W fb)) (hm : behindInMarks op b = false) :
    PT X (.Compare a [op] [b] pos) (tB X.K W (asB (op2 g fa fb))) := pt_imp (pt_cmpR ho (pe_vl ha) (pe_vl hb) hm) fun σ H Q h => by
  obtain ⟨c, F, sl, ek, R, q⟩ := tTest_of σ H Q h
  exact tOp_of rs σ H _ ⟨c, F, sl, ek, R, q⟩
def andB (f g : BB) : BB := fun sl => (f sl).bind fun b sl1 => if b = true then g sl1 else .ok false sl1
def orB (f g : BB) : BB := fun sl => (f sl).bind fun b sl1 => if b = true then .ok true sl1 else g sl1
def notB (f : BB) : BB := fun sl => (f sl).bind fun b sl1 => .ok (!b) sl1
theorem pw_imp {t t' : TT} (h : PW X e t) (i : ∀ σ H Q, t' σ H Q → t σ H Q) : PW X e t' := ⟨fun w pins s σ H Q I q => h.run w pins s σ H Q I (i σ H Q q)⟩
theorem pw_andB {f g : BB} {rest : List Expr} (ha : PT X a (tB X.K W f)) (hb : PW X (.BoolOp .And (b :: rest) pos) (tB X.K W g)) : PW X (.BoolOp .And (a :: b :: rest) pos) (tB X.K W (andB f g)) :=
  pw_imp (pw_and ha hb) fun σ H Q ⟨c, F, sl, ek, R, q⟩ => by
  refine ⟨c, F, sl, ek, R, (OutOk.bind q).imp fun b sl1 q1 F1 H1 s1 R1 => ?_⟩
  cases b with
  | true => exact ⟨c, F1, sl1, ek, R1, OutOk.imp q1 fun b2 sl2 q2 F2 H2 s2 R2 => q2 F2 H2 (Same.trans s1 s2) R2⟩
  | false => exact q1 F1 H1 s1 R1
theorem pw_orB {f g : BB} {rest : List Expr} (ha : PT X a (tB X.K W f)) (hb : PW X (.BoolOp .Or (b :: rest) pos) (tB X.K W g)) : PW X (.BoolOp .Or (a :: b :: rest) pos) (tB X.K W (orB f g)) :=
  pw_imp (pw_or ha hb) fun σ H Q ⟨c, F, sl, ek, R, q⟩ => by
  refine ⟨c, F, sl, ek, R, (OutOk.bind q).imp fun b sl1 q1 F1 H1 s1 R1 => ?_⟩
  cases b with
  | false => exact ⟨c, F1, sl1, ek, R1, OutOk.imp q1 fun b2 sl2 q2 F2 H2 s2 R2 => q2 F2 H2 (Same.trans s1 s2) R2⟩
  | true => exact q1 F1 H1 s1 R1
theorem pt_notB {f : BB} (ha : PT X a (tB X.K W f)) : PT X (.UnaryOp .Not a pos) (tB X.K W (notB f)) := pt_imp (pt_not ha) fun σ H Q ⟨c, F, sl, ek, R, q⟩ =>
  ⟨c, F, sl, ek, R, (OutOk.bind q).imp fun b sl1 q1 F1 H1 s1 R1 => q1 F1 H1 s1 R1⟩
/-- as values -/
def bE (f : BB) : EE := fun sl => (f sl).bind fun b sl1 => .ok (.val (.bool b)) sl1
def vB (f : EE) : BB := asB f
theorem bE_of {f : BB} {t : TE} (h : ∀ σ H Q, tB X.K W f σ H (fun b H1 => Q (.bl b) H1) → t σ H Q) (σ : L2.St) (H : Hp) (Q : VK) (q : tE X.K W (bE f) σ H Q) : t σ H Q := by
  obtain ⟨c, F, sl, ek, R, q⟩ := q
  exact h σ H Q ⟨c, F, sl, ek, R, (OutOk.bind q).imp fun b sl1 q1 F1 H1 s1 R1 => q1 _ F1 H1 s1 R1 (den_bl b)⟩
theorem vB_of {f : EE} (σ : L2.St) (H : Hp) (Q : Bool → Hp → Prop) (h : tB X.K W (vB f) σ H Q) : tE X.K W f σ H fun x H1 => ∃ k, x = .bl k ∧ Q k H1 := tTest_of σ H Q h
theorem pe_andV {rest : List Expr} (ha : PE X a (tE X.K W fa)) (hb : PE X (.BoolOp .And (b :: rest) pos) (tE X.K W fb)) : PE X (.BoolOp .And (a :: b :: rest) pos) (tE X.K W (bE (andB (vB fa) (vB fb)))) :=
  pe_imp (pe_and ha hb) (bE_of fun σ H Q ⟨c, F, sl, ek, R, q⟩ => by
    refine vB_of σ H _ ⟨c, F, sl, ek, R, (OutOk.bind q).imp fun b sl1 q1 F1 H1 s1 R1 => ?_⟩
    cases b with
    | true =>
      have h2 := vB_of (W := W) σ H1 (fun b H2 => Q (.bl b) H2) ⟨c, F1, sl1, ek, R1, OutOk.imp q1 fun b2 sl2 q2 F2 H2 s2 R2 => q2 F2 H2 (Same.trans s1 s2) R2⟩
      obtain ⟨c2, F2, sl2, ek2, R2, q2⟩ := h2
      exact ⟨c2, F2, sl2, ek2, R2, OutOk.imp q2 fun t sl3 q3 v F3 H3 s3 R3 t3 => by
        obtain ⟨k, e1, e2⟩ := q3 v F3 H3 s3 R3 t3
        rw [e1]; exact e2⟩
    | false => exact q1 F1 H1 s1 R1)
theorem pe_orV {rest : List Expr} (ha : PE X a (tE X.K W fa)) (hb : PE X (.BoolOp .Or (b :: rest) pos) (tE X.K W fb)) : PE X (.BoolOp .Or (a :: b :: rest) pos) (tE X.K W (bE (orB (vB fa) (vB fb)))) :=
  pe_imp (pe_or ha hb) (bE_of fun σ H Q ⟨c, F, sl, ek, R, q⟩ => by
    refine vB_of σ H _ ⟨c, F, sl, ek, R, (OutOk.bind q).imp fun b sl1 q1 F1 H1 s1 R1 => ?_⟩
    cases b with
    | false =>
      have h2 := vB_of (W := W) σ H1 (fun b H2 => Q (.bl b) H2) ⟨c, F1, sl1, ek, R1, OutOk.imp q1 fun b2 sl2 q2 F2 H2 s2 R2 => q2 F2 H2 (Same.trans s1 s2) R2⟩
      obtain ⟨c2, F2, sl2, ek2, R2, q2⟩ := h2
      exact ⟨c2, F2, sl2, ek2, R2, OutOk.imp q2 fun t sl3 q3 v F3 H3 s3 R3 t3 => by
        obtain ⟨k, e1, e2⟩ := q3 v F3 H3 s3 R3 t3
        rw [e1]; exact e2⟩
    | true => exact q1 F1 H1 s1 R1)
theorem pe_notV (ha : PE X a (tE X.K W fa)) : PE X (.UnaryOp .Not a pos) (tE X.K W (bE (notB (vB fa)))) :=
  pe_imp (pe_not ha) (bE_of fun σ H Q ⟨c, F, sl, ek, R, q⟩ => vB_of σ H _ ⟨c, F, sl, ek, R, (OutOk.bind q).imp fun b sl1 q1 F1 H1 s1 R1 => q1 F1 H1 s1 R1⟩)
/-- a if t else b -/
def ifE (t : BB) (f g : EE) : EE := fun sl => (t sl).bind fun b sl1 => if b = true then f sl1 else g sl1
theorem pe_ifE {t : Expr} {ft : BB} (ht : PT X t (tB X.K W ft)) (ha : PE X a (tE X.K W fa)) (hb : PE X b (tE X.K W fb)) : PE X (.IfExp t a b pos) (tE X.K W (ifE ft fa fb)) :=
  pe_imp (pe_ifExp ht ha hb) fun σ H Q ⟨c, F, sl, ek, R, q⟩ => by
  refine ⟨c, F, sl, ek, R, (OutOk.bind q).imp fun b sl1 q1 F1 H1 s1 R1 => ?_⟩
  cases b with
  | true => exact ⟨c, F1, sl1, ek, R1, OutOk.imp q1 fun t sl2 q2 v F2 H2 s2 R2 t2 => q2 v F2 H2 (Same.trans s1 s2) R2 t2⟩
  | false => exact ⟨c, F1, sl1, ek, R1, OutOk.imp q1 fun t sl2 q2 v F2 H2 s2 R2 t2 => q2 v F2 H2 (Same.trans s1 s2) R2 t2⟩
/-- a op b op c -/
def chE (g g' : D → D → Option Tm) (fa fb fc : EE) : EE := fun sl => (vl fa sl).bind fun x sl1 => (vl fb sl1).bind fun y sl2 => match g x y with
  | some (.val (.bool k)) => if k = true then (vl fc sl2).bind fun z sl3 => ofO (g' y z) sl3 else .ok (.val (.bool false)) sl2
  | _ => .stuck
theorem tChain_of {r r' : R2} {g g' : D → D → Option Tm} {fc : EE} (rs : RS2 X.K r g) (rs' : RS2 X.K r' g') (σ : L2.St) (H : Hp) (Q : VK) (h : tE X.K W (chE g g' fa fb fc) σ H Q) : tChain r r' (tV X.K W (vl fa)) (tV X.K W (vl fb)) (tV X.K W (vl fc)) σ H Q := by
  obtain ⟨c, F, sl, ek, R, q⟩ := h
  refine ⟨c, F, sl, ek, R, (OutOk.bind q).imp fun x sl1 q1 v F1 H1 s1 R1 d1 => ⟨c, F1, sl1, ek, R1, (OutOk.bind q1).imp fun y sl2 q2 u F2 H2 s2 R2 d2 => ?_⟩⟩
  cases z : g x y with
  | none => rw [z] at q2; exact q2.elim
  | some t =>
    rw [z] at q2
    cases t with
    | val d =>
      cases d with
      | bool k =>
        refine rs c F2 sl2 σ H2 v u x y (.val (.bool k)) _ ek R2 (d1.mono s2) d2 z fun v' F3 H3 s3 R3 t3 => ⟨k, Den.bool t3, ?_⟩
        cases k with
        | true =>
          refine ⟨c, F3, sl2, ek, R3, (OutOk.bind q2).imp fun w' sl4 q4 u' F4 H4 s4 R4 d4 => ?_⟩
          obtain ⟨t', et, q5⟩ := ofO_ok q4
          exact rs' c F4 sl4 σ H4 u u' y w' t' Q ek R4 (d2.mono (Same.trans s3 s4)) d4 et fun v5 F5 H5 s5 R5 t5 => q5 v5 F5 H5 (Same.trans (Same.trans (Same.trans (Same.trans s1 s2) s3) s4) s5) R5 t5
        | false => exact q2 _ F3 H3 (Same.trans (Same.trans s1 s2) s3) R3 (den_bl false)
      | _ => exact q2.elim
    | _ => exact q2.elim
theorem pe_ch {op op' : CmpOp} {r r' : R2} {g g' : D → D → Option Tm} {c' : Expr} {fc : EE} (ho : OpR X (compareOp op) r) (ho' : OpR X (compareOp op') r') (rs : RS2 X.K r g) (rs' : RS2 X.K r' g') (ha : PE X a (tE X.K W fa)) (hb : PE X b (tE X.K W fb)) (hc : PE X c' (tE X.K W fc))
    (hm : lastMarks [op, op'] [b, c'] = false := by with_unfolding_all rfl) : PE X (.Compare a [op, op'] [b, c'] pos) (tE X.K W (chE g g' fa fb fc)) := pe_imp (pe_chain ho ho' (pe_vl ha) (pe_vl hb) (pe_vl hc) hm) fun σ H Q h => tChain_of rs rs' σ H Q h
theorem pt_ch {op op' : CmpOp} {r r' : R2} {g g' : D → D → Option Tm} {c' : Expr} {fc : EE} (ho : OpR X (compareOp op) r) (ho' : OpR X (compareOp op') r') (rs : RS2 X.K r g) (rs' : RS2 X.K r' g') (ha : PE X a (tE X.K W fa)) (hb : PE X b (tE X.K W fb)) (hc : PE X c' (tE X.K W fc))
    (hm : lastMarks [op, op'] [b, c'] = false := by with_unfolding_all rfl) : PT X (.Compare a [op, op'] [b, c'] pos) (tB X.K W (asB (chE g g' fa fb fc))) := pt_imp (pt_chain ho ho' (pe_vl ha) (pe_vl hb) (pe_vl hc) hm) fun σ H Q h => by
  obtain ⟨c, F, sl, ek, R, q⟩ := tTest_of σ H Q h
  exact tChain_of rs rs' σ H _ ⟨c, F, sl, ek, R, q⟩

/-! ### values in a row, displays -/
def vsL : List EE → Sl → Out (List D)
  | [], sl => .ok [] sl
  | f :: fs, sl => (vl f sl).bind fun d sl1 => (vsL fs sl1).bind fun ds sl2 => .ok (d :: ds) sl2
theorem dpAll_of : ∀ {vs : List V} {ds : List D}, DenAll K F vs ds → DpAll K F vs ds
  | _, _, .nil => .nil
  | _, _, .cons r t => .cons r (dpAll_of t)
theorem pa_nilL : PA X [] (tVs X.K W (vsL [])) := pa_imp pa_nil fun σ H Q ⟨c, F, sl, ek, R, q⟩ => q [] F H (Same.refl F) R .nil
theorem pa_consL {es : List Expr} {f : EE} {fs : List EE} (ha : PE X e (tE X.K W f)) (hr : PA X es (tVs X.K W (vsL fs))) (hs : starEach (e :: es) X.env = (false, eval e X.env) :: starEach es X.env := by rfl) : PA X (e :: es) (tVs X.K W (vsL (f :: fs))) :=
  pa_imp (pa_cons (pe_vl ha) hr hs) fun σ H Q ⟨c, F, sl, ek, R, q⟩ => by
  refine ⟨c, F, sl, ek, R, (OutOk.bind q).imp fun d sl1 q1 v F1 H1 s1 R1 d1 => ⟨c, F1, sl1, ek, R1, (OutOk.bind q1).imp fun ds sl2 q2 vs F2 H2 s2 R2 d2 => ?_⟩⟩
  exact q2 (v :: vs) F2 H2 (Same.trans s1 s2) R2 (.cons (d1.mono s2) d2)
theorem OutOk.len {fs : List EE} {sl : Sl} {P : List D → Sl → Prop} {Y : Str → D → Sl → Prop} : OutOk (vsL fs sl) P Y → OutOk (vsL fs sl) (fun ds sl' => ds.length = fs.length ∧ P ds sl') Y := by
  induction fs generalizing sl P with
  | nil => exact fun h => ⟨rfl, h⟩
  | cons f fs ih =>
    intro h
    have h1 := OutOk.bind (k := fun d sl1 => (vsL fs sl1).bind fun ds sl2 => .ok (d :: ds) sl2) h
    unfold vsL
    cases z : vl f sl with
    | ok d sl1 =>
      rw [z] at h1
      have h2 := ih (OutOk.bind h1)
      show OutOk ((vsL fs sl1).bind fun ds sl2 => Out.ok (d :: ds) sl2) _ _
      cases z2 : vsL fs sl1 with
      | ok ds sl2 =>
        rw [z2] at h2
        exact ⟨congrArg (· + 1) h2.1, h2.2⟩
      | exc cn d2 sl2 => rw [z2] at h2; exact h2
      | stuck => rw [z2] at h2; exact h2
    | exc cn d2 sl2 => rw [z] at h1; exact h1
    | stuck => rw [z] at h1; exact h1
def tupE (fs : List EE) : EE := fun sl => (vsL fs sl).bind fun ds sl1 => .ok (.val (.tuple ds)) sl1
def lstE (fs : List EE) : EE := fun sl => (vsL fs sl).bind fun ds sl1 => .ok (.own (.list ds)) sl1
theorem pe_tupE {es : List Expr} {fs : List EE} {x1 : Nat} (h : PA X es (tVs X.K W (vsL fs))) (hl : fs.length ≤ 1000 := by decide) : PE X (.Tuple es x1 pos) (tE X.K W (tupE fs)) := pe_imp (pe_tup h) fun σ H Q ⟨c, F, sl, ek, R, q⟩ => by
  refine ⟨c, F, sl, ek, R, (OutOk.len (OutOk.bind q)).imp fun ds sl1 ⟨hn, q1⟩ vs F1 H1 s1 R1 d1 => ⟨?_, fun p hp => ?_⟩⟩
  · rw [dpAll_len (dpAll_of d1), hn, ← line_eq]
    exact Nat.le_trans hl (by decide)
  · obtain ⟨f1, f2⟩ := R1.newF hp (.tup vs)
    exact q1 _ _ _ (Same.trans s1 f1) f2 (R1.tmNewT hp (dpAll_of d1))
theorem pe_lstE {es : List Expr} {fs : List EE} (h : PA X es (tVs X.K W (vsL fs))) (hl : fs.length ≤ 1000 := by decide) : PE X (.List es pos) (tE X.K W (lstE fs)) := pe_imp (pe_lst h) fun σ H Q ⟨c, F, sl, ek, R, q⟩ => by
  refine ⟨c, F, sl, ek, R, (OutOk.len (OutOk.bind q)).imp fun ds sl1 ⟨hn, q1⟩ vs F1 H1 s1 R1 d1 => ⟨?_, fun p hp => ?_⟩⟩
  · rw [dpAll_len (dpAll_of d1), hn, ← line_eq]
    exact Nat.le_trans hl (by decide)
  · exact q1 _ _ _ s1 (R1.newO hp _) (R1.tmNewL hp (dpAll_of d1))

/-! ### subscripts -/
theorem dpAll_get : ∀ {xs : List V} {ds : List D} {j : Nat} {d : D}, DpAll K F xs ds → ds[j]? = some d → ∃ v, xs[j]? = some v ∧ Dp K F v d
  | _, _, _, _, .nil, h => by simp at h
  | _, _, 0, _, .cons r _, h => by
    have e := Option.some.inj h
    subst e
    exact ⟨_, rfl, r⟩
  | _, _, j + 1, _, .cons _ t, h => dpAll_get (j := j) t h
theorem dpAll_at {xs : List V} {ds : List D} {i : Int} {d : D} (h : DpAll K F xs ds) (q : atI ds i = some d) : ∃ v, atI xs i = some v ∧ Dp K F v d := by
  unfold atI at q ⊢
  rw [dpAll_len h]
  cases z : ixN ds.length i with
  | none => rw [z] at q; cases q
  | some j =>
    rw [z] at q
    exact dpAll_get h q
def getD : D → D → Option D
  | .list ds, .int i => atI ds i
  | .tuple ds, .int i => atI ds i
  | .str x, .int i => if x.length ≤ LINE then (atI x.cps.toList i).map fun c => .str ⟨#[c]⟩ else none
  | _, _ => none
def ixE (fa fb : EE) : EE := fun sl => (pk fa sl).bind fun t sl1 => (vl fb sl1).bind fun i sl2 => ofO (((rsv t sl2).bind fun d => getD d i).map .val) sl2
theorem Top.str {v : V} {x : Str} (h : Top c.K F H v (.str x)) : v = .str x := by
  rcases h with h | ⟨_, _, h⟩
  · exact Den.str h
  · exact h.elim
theorem pe_ixE (ha : PE X a (tE X.K W fa)) (hb : PE X b (tE X.K W fb)) (hs : PlainIx b) : PE X (.Subscript a b pos) (tE X.K W (ixE fa fb)) := pe_imp (pe_ix ix_seq (pe_pk ha) (pe_vl hb) hs) fun σ H Q ⟨c, F, sl, ek, R, q⟩ => by
  refine ⟨c, F, sl, ek, R, (OutOk.bind q).imp fun t sl1 q1 v F1 H1 s1 R1 t1 => ⟨c, F1, sl1, ek, R1, (OutOk.bind q1).imp fun i sl2 q2 u F2 H2 s2 R2 d2 => ?_⟩⟩
  obtain ⟨t3, et, q3⟩ := ofO_ok q2
  cases z : rsv t sl2 with
  | none => rw [z] at et; cases et
  | some d =>
    rw [z] at et
    have t1' : ArgOk c.K F2 σ v t := by
      cases t with
      | val _ => exact Den.mono s2 t1
      | own _ => exact t1
      | bor _ => exact t1
    have tp := rsv_ok R2 t1' z
    have et' : (getD d i).map Tm.val = some t3 := et
    cases z2 : getD d i with
    | none => rw [z2] at et'; cases et'
    | some y =>
      rw [z2] at et'
      cases et'
      have fin : ∀ w', Dp c.K F2 w' y → Q w' H2 := fun w' hw => q3 w' F2 H2 (Same.trans s1 s2) R2 hw
      cases d with
      | list ds =>
        cases i with
        | int j =>
          obtain ⟨p, xs, rfl, h1, h2⟩ := tp.list R2.sub
          obtain ⟨w', h3, h4⟩ := dpAll_at h2 z2
          exact .inl ⟨p, xs, j, w', rfl, d2.int, by rw [← ek]; exact h1, h3, fin w' h4⟩
        | _ => cases z2
      | tuple ds =>
        cases i with
        | int j =>
          obtain ⟨p, xs, rfl, _, h1, h2⟩ := tp.tuple R2.sub
          obtain ⟨w', h3, h4⟩ := dpAll_at h2 z2
          exact .inr (.inl ⟨p, xs, j, w', rfl, d2.int, by rw [← ek]; exact h1, h3, fin w' h4⟩)
        | _ => cases z2
      | str x =>
        cases i with
        | int j =>
          have z3 : (if x.length ≤ LINE then (atI x.cps.toList j).map fun c => PyData.str ⟨#[c]⟩ else none) = some y := z2
          split at z3
          · rename_i hl
            cases z4 : atI x.cps.toList j with
            | none => rw [z4] at z3; cases z3
            | some ch =>
              rw [z4] at z3
              cases z3
              exact .inr (.inr ⟨x, j, ch, tp.str, d2.int, by rw [← line_eq]; exact hl, z4, fin _ (.str _)⟩)
          · cases z3
        | _ => cases z2
      | _ => cases z2

/-! ### slices -/
def optV (f : Option EE) : Sl → Out (Option Int) := fun sl => match f with
  | none => .ok none sl
  | some f => (vl f sl).bind fun d sl1 => match d with
    | .int i => .ok (some i) sl1
    | _ => .stuck
def tOv (K : PySem.W.Frag) (W : WX) (f : Sl → Out (Option Int)) : TO := fun σ H Q => At K σ H fun c F sl =>
  OutOk (f sl) (fun o sl' => ∀ F' H', Same F F' → Rel c F' sl' σ H' → Q o H') (ExcP c W σ)
theorem po_imp {o : Option Expr} {t t' : TO} (h : PO X o t) (i : ∀ σ H Q, t' σ H Q → t σ H Q) : PO X o t' := ⟨fun pins s σ H Q I q => h.run pins s σ H Q I (i σ H Q q)⟩
theorem po_no : PO X none (tOv X.K W (optV none)) := po_imp po_none fun σ H Q ⟨c, F, sl, ek, R, q⟩ => q F H (Same.refl F) R
theorem po_so {f : EE} (h : PE X e (tE X.K W f)) : PO X (some e) (tOv X.K W (optV (some f))) := po_imp (po_some (pe_vl h)) fun σ H Q ⟨c, F, sl, ek, R, q⟩ => by
  refine ⟨c, F, sl, ek, R, (OutOk.bind q).imp fun d sl1 q1 v F1 H1 s1 R1 d1 => ?_⟩
  cases d with
  | int i => exact ⟨i, Den.int d1, q1 F1 H1 s1 R1⟩
  | _ => exact q1.elim
def cutD (ds : List D) (lo hi : Option Int) : List D := (ds.drop (HT.sIx ds.length 0 lo)).take (HT.sIx ds.length ds.length hi - HT.sIx ds.length 0 lo)
theorem dpAll_drop : ∀ (n : Nat) {xs : List V} {ds : List D}, DpAll K F xs ds → DpAll K F (xs.drop n) (ds.drop n)
  | 0, _, _, h => h
  | _ + 1, _, _, .nil => .nil
  | n + 1, _, _, .cons _ t => dpAll_drop n t
theorem dpAll_take : ∀ (n : Nat) {xs : List V} {ds : List D}, DpAll K F xs ds → DpAll K F (xs.take n) (ds.take n)
  | 0, _, _, _ => .nil
  | _ + 1, _, _, .nil => .nil
  | n + 1, _, _, .cons r t => .cons r (dpAll_take n t)
theorem dpAll_cut {xs : List V} {ds : List D} {lo hi : Option Int} (h : DpAll K F xs ds) : DpAll K F (cutV xs lo hi) (cutD ds lo hi) := by
  unfold cutV cutD
  rw [dpAll_len h]
  exact dpAll_take _ (dpAll_drop _ h)
def slcD (d : D) (lo hi : Option Int) : Option Tm := match d with
  | .list ds => some (.own (.list (cutD ds lo hi)))
  | .tuple ds => some (.val (.tuple (cutD ds lo hi)))
  | _ => none
def slE (fa : EE) (lo hi : Option EE) : EE := fun sl => (pk fa sl).bind fun t sl1 => (optV lo sl1).bind fun l sl2 => (optV hi sl2).bind fun h sl3 => ofO ((rsv t sl3).bind fun d => slcD d l h) sl3
theorem ArgOk.mono {t : Tm} {v : V} (s : Same F F') (h : ArgOk K F σ v t) : ArgOk K F' σ v t := by
  cases t with
  | val _ => exact Den.mono s h
  | own _ => exact h
  | bor _ => exact h
theorem pe_slE {lo hi : Option Expr} {fl fh : Option EE} {p2 : Pos} (ha : PE X a (tE X.K W fa)) (hl : PO X lo (tOv X.K W (optV fl))) (hh : PO X hi (tOv X.K W (optV fh))) : PE X (.Subscript a (.Slice lo hi none p2) pos) (tE X.K W (slE fa fl fh)) :=
  pe_imp (pe_slice (sl_list.or sl_tupA) (pe_pk ha) hl hh) fun σ H Q ⟨c, F, sl, ek, R, q⟩ => by
  refine ⟨c, F, sl, ek, R, (OutOk.bind q).imp fun t sl1 q1 v F1 H1 s1 R1 t1 => ⟨c, F1, sl1, ek, R1, (OutOk.bind q1).imp fun l sl2 q2 F2 H2 s2 R2 => ⟨c, F2, sl2, ek, R2, (OutOk.bind q2).imp fun h sl3 q3 F3 H3 s3 R3 => ?_⟩⟩⟩
  obtain ⟨t3, et, q4⟩ := ofO_ok q3
  cases z : rsv t sl3 with
  | none => rw [z] at et; cases et
  | some d =>
    rw [z] at et
    have tp := rsv_ok R3 (t1.mono (Same.trans s2 s3)) z
    have s13 := Same.trans (Same.trans s1 s2) s3
    have et' : slcD d l h = some t3 := et
    cases d with
    | list ds =>
      cases et'
      obtain ⟨p, xs, rfl, h1, h2⟩ := tp.list R3.sub
      exact .inl ⟨p, xs, rfl, by rw [← ek]; exact h1, fun p' hp => q4 _ _ _ s13 (R3.newO hp _) (R3.tmNewL hp (dpAll_cut h2))⟩
    | tuple ds =>
      cases et'
      obtain ⟨p, xs, rfl, h0, h1, h2⟩ := tp.tuple R3.sub
      refine .inr ⟨p, xs, rfl, by rw [← ek]; exact h1, fun hw => ?_, fun hw p' hp => ?_⟩
      · refine q4 _ F3 H3 s13 R3 ?_
        have e1 : cutD ds l h = ds := by
          unfold cutD
          rw [← dpAll_len h2, hw.1, hw.2, List.drop_zero, Nat.sub_zero, dpAll_len h2, List.take_length]
        show Den c.K F3 (.ref p) (.tuple (cutD ds l h))
        rw [e1]
        exact den_tup h0 h2
      · obtain ⟨f1, f2⟩ := R3.newF hp (.tup (cutV xs l h))
        exact q4 _ _ _ (Same.trans s13 f1) f2 (R3.tmNewT hp (dpAll_cut h2))
    | _ => cases et'
end
end Eng
set_option Elab.async false
set_option linter.all false
set_option maxRecDepth 100000
set_option maxHeartbeats 2000000
/-! THE ENGINE, 5: built-in functions. -/
namespace PySem
open Sem (wp)
namespace EngB
open PySem.W
section
variable {prog : Program} {w : World} {A : Around} {E : Value → Shared → Prop} {s : Shared}
theorem call_max_twoH {a b : Value} {Q : Value → Shared → Prop}
    (h : wpAny (model prog w) A.in1 (pyIter (.ref s.heap.objs.size)) (fun it s₂ => ∃ I fp wr G n P St H bt, it = .ref I ∧ WalksS prog w A.in1 I fp wr G n P St ∧ St 0 s₂ ∧ (∀ b ∈ fp, b < s₂.heap.objs.size) ∧ 0 < n ∧
      (∀ b o, H.get? b = some o → b ∉ wr) ∧ (∀ b o, H.get? b = some o → s₂.heap.get? b = some o) ∧ CmpIn prog w A.in1 .Gt H P bt ∧ ∀ v s', P (argBest bt (n - 1)) v → Moved wr G s₂ s' → Q v s') E
      { s with heap := s.heap.push { cls := .type "tuple", data := .seq #[a, b] } }) :
    wpAny (model prog w) A (call (.builtin "max") [a, b]) Q E s := by
  have hname : (toString "max" ++ toString ".loop" : String) = "max.loop" := by decide
  refine call_function_tree F.kind_max F.plain_max F.entry_max (F.args_max2 _ _) ?_
  show wpAny _ A.in1 (Builtin.Builtins.bindParams "max" ["key", "default"] 0 ⟨[], []⟩ >>= _) _ _ s
  refine wpAny_bind (wpAny_of_eq (show Builtin.Builtins.bindParams "max" ["key", "default"] 0 ⟨[], []⟩ = pure [none, none] from rfl) ?_)
  show wpAny _ A.in1 (newTuple [a, b] >>= _) _ _ s
  refine wpAny_bind (wpAny_newObj_type ?_)
  refine wpAny_bind (wpAny_mono h (fun it s₂ h₂ => ?_) fun _ _ e => e)
  obtain ⟨I, fp, wr, G, n, P, St, H, bt, rfl, W, hst, hfp, hn, hw, hkeep, hcmp, hQ⟩ := h₂
  refine wpAny_bind (wpAny_newObj_type ?_)
  have hSf : s₂.heap.objs.size ∉ fp := fun hm => Nat.lt_irrefl _ (hfp _ hm)
  rw [hname]
  refine wpAny_pure ⟨plainId_quiet F.plain_max_loop _, codeAny_max_loop_firstH W H hw bt hcmp s₂.heap.objs.size hSf (fresh_in hkeep) _ hn (fun b o e => Heap.get?_push_of_some _ (hkeep b o e)) (W.frame 0 s₂ _ s₂.toks hst (Nat.le_refl _) fun b _ o e => Heap.get?_push_of_some _ e) (Heap.get?_push_size _ rfl) fun v s' hP hm => ?_⟩
  exact hQ v s' hP (Moved.drop_new (tk := s₂.toks) hm (Nat.le_refl _))
theorem call_min_twoH {a b : Value} {Q : Value → Shared → Prop}
    (h : wpAny (model prog w) A.in1 (pyIter (.ref s.heap.objs.size)) (fun it s₂ => ∃ I fp wr G n P St H bt, it = .ref I ∧ WalksS prog w A.in1 I fp wr G n P St ∧ St 0 s₂ ∧ (∀ b ∈ fp, b < s₂.heap.objs.size) ∧ 0 < n ∧
      (∀ b o, H.get? b = some o → b ∉ wr) ∧ (∀ b o, H.get? b = some o → s₂.heap.get? b = some o) ∧ CmpIn prog w A.in1 .Lt H P bt ∧ ∀ v s', P (argBest bt (n - 1)) v → Moved wr G s₂ s' → Q v s') E
      { s with heap := s.heap.push { cls := .type "tuple", data := .seq #[a, b] } }) :
    wpAny (model prog w) A (call (.builtin "min") [a, b]) Q E s := by
  have hname : (toString "min" ++ toString ".loop" : String) = "min.loop" := by decide
  refine call_function_tree F.kind_min F.plain_min F.entry_min (F.args_min2 _ _) ?_
  show wpAny _ A.in1 (Builtin.Builtins.bindParams "min" ["key", "default"] 0 ⟨[], []⟩ >>= _) _ _ s
  refine wpAny_bind (wpAny_of_eq (show Builtin.Builtins.bindParams "min" ["key", "default"] 0 ⟨[], []⟩ = pure [none, none] from rfl) ?_)
  show wpAny _ A.in1 (newTuple [a, b] >>= _) _ _ s
  refine wpAny_bind (wpAny_newObj_type ?_)
  refine wpAny_bind (wpAny_mono h (fun it s₂ h₂ => ?_) fun _ _ e => e)
  obtain ⟨I, fp, wr, G, n, P, St, H, bt, rfl, W, hst, hfp, hn, hw, hkeep, hcmp, hQ⟩ := h₂
  refine wpAny_bind (wpAny_newObj_type ?_)
  have hSf : s₂.heap.objs.size ∉ fp := fun hm => Nat.lt_irrefl _ (hfp _ hm)
  rw [hname]
  refine wpAny_pure ⟨plainId_quiet F.plain_min_loop _, codeAny_min_loop_firstH W H hw bt hcmp s₂.heap.objs.size hSf (fresh_in hkeep) _ hn (fun b o e => Heap.get?_push_of_some _ (hkeep b o e)) (W.frame 0 s₂ _ s₂.toks hst (Nat.le_refl _) fun b _ o e => Heap.get?_push_of_some _ e) (Heap.get?_push_size _ rfl) fun v s' hP hm => ?_⟩
  exact hQ v s' hP (Moved.drop_new (tk := s₂.toks) hm (Nat.le_refl _))
theorem pair_tuple (h : Heap) (a b : Value) : (h.push { cls := .type "tuple", data := .seq #[a, b] }).IsTuple h.objs.size #[a, b] := ⟨_, Heap.get?_push_size _ rfl, rfl, 0, rfl⟩
theorem max_two_data {a b : Value} {x y : PyData} {as bs : List Addr} {Q : Value → Shared → Prop} (hh : A.handled = none) (ra : Reads s.heap a x as) (rb : Reads s.heap b y bs) (hal : AlikeAll [x, y]) (hu : A.units + 1 + PyData.depthAll [x, y] < cLine)
    (h : ∀ h' tk, (∀ b o, s.heap.get? b = some o → h'.get? b = some o) → Q (if dataLt x y = true then b else a) { s with heap := h', toks := tk }) :
    wpAny (model prog w) A (call (.builtin "max") [a, b]) Q E s := by
  have hk0 : ∀ c o, s.heap.get? c = some o → (s.heap.push { cls := .type "tuple", data := .seq #[a, b] }).get? c = some o := fun c o e => Heap.get?_push_of_some _ e
  have hr : ReadsAll (s.heap.push { cls := .type "tuple", data := .seq #[a, b] }) (#[a, b] : Array Value).toList [x, y] _ := .cons (reads_keeps hk0 ra) (.cons (reads_keeps hk0 rb) .nil)
  refine call_max_twoH (iter_tupleW (A := A.in1) hh (pair_tuple _ _ _) fun s₂ e W st hfp hw hk => ?_)
  refine ⟨_, _, _, _, _, _, _, _, _, rfl, W, st, hfp, Nat.zero_lt_succ _, hw, hk, cmpIn_gt (A := A.in1) (s := { s with heap := s.heap.push { cls := .type "tuple", data := .seq #[a, b] } }) hr hal (by show A.units + 1 + _ < _; exact hu), fun v s' hP m => ?_⟩
  obtain ⟨h', tk, rfl, hk'⟩ := moved_old e rfl m
  have e0 : argBest (fun i j => dataLt (([x, y] : List PyData).getD j .none) (([x, y] : List PyData).getD i .none)) ((#[a, b] : Array Value).size - 1) = if dataLt x y = true then 1 else 0 := by
    show argBest _ 1 = _
    simp [argBest]
  rw [e0] at hP
  have q := h h' tk fun c o e => hk' c o (hk0 c o e)
  by_cases z : dataLt x y = true
  · rw [if_pos z] at hP q
    have hP' : some b = some v := hP
    cases hP'; exact q
  · rw [if_neg z] at hP q
    have hP' : some a = some v := hP
    cases hP'; exact q
theorem min_two_data {a b : Value} {x y : PyData} {as bs : List Addr} {Q : Value → Shared → Prop} (hh : A.handled = none) (ra : Reads s.heap a x as) (rb : Reads s.heap b y bs) (hal : AlikeAll [x, y]) (hu : A.units + 1 + PyData.depthAll [x, y] < cLine)
    (h : ∀ h' tk, (∀ b o, s.heap.get? b = some o → h'.get? b = some o) → Q (if dataLt y x = true then b else a) { s with heap := h', toks := tk }) :
    wpAny (model prog w) A (call (.builtin "min") [a, b]) Q E s := by
  have hk0 : ∀ c o, s.heap.get? c = some o → (s.heap.push { cls := .type "tuple", data := .seq #[a, b] }).get? c = some o := fun c o e => Heap.get?_push_of_some _ e
  have hr : ReadsAll (s.heap.push { cls := .type "tuple", data := .seq #[a, b] }) (#[a, b] : Array Value).toList [x, y] _ := .cons (reads_keeps hk0 ra) (.cons (reads_keeps hk0 rb) .nil)
  refine call_min_twoH (iter_tupleW (A := A.in1) hh (pair_tuple _ _ _) fun s₂ e W st hfp hw hk => ?_)
  refine ⟨_, _, _, _, _, _, _, _, _, rfl, W, st, hfp, Nat.zero_lt_succ _, hw, hk, cmpIn_lt (A := A.in1) (s := { s with heap := s.heap.push { cls := .type "tuple", data := .seq #[a, b] } }) hr hal (by show A.units + 1 + _ < _; exact hu), fun v s' hP m => ?_⟩
  obtain ⟨h', tk, rfl, hk'⟩ := moved_old e rfl m
  have e0 : argBest (fun i j => dataLt (([x, y] : List PyData).getD i .none) (([x, y] : List PyData).getD j .none)) ((#[a, b] : Array Value).size - 1) = if dataLt y x = true then 1 else 0 := by
    show argBest _ 1 = _
    simp [argBest]
  rw [e0] at hP
  have q := h h' tk fun c o e => hk' c o (hk0 c o e)
  by_cases z : dataLt y x = true
  · rw [if_pos z] at hP q
    have hP' : some b = some v := hP
    cases hP'; exact q
  · rw [if_neg z] at hP q
    have hP' : some a = some v := hP
    cases hP'; exact q
/-- sum of a tuple of ints -/
theorem sum_intTupG {l : Addr} {xs : Array (Int × Tok)} {Q : Value → Shared → Prop} (hh : A.handled = none) (hl : s.heap.IsTuple l (intItems xs))
    (h : ∀ h' tk t', (∀ b o, s.heap.get? b = some o → h'.get? b = some o) → Q (.int (preSum (numAt xs) xs.size) t') { s with heap := h', toks := tk }) :
    wpAny (model prog w) A (call (.builtin "sum") [.ref l]) Q E s := by
  have hlt : l < s.heap.objs.size := by obtain ⟨_, e, _⟩ := hl; exact Heap.lt_size e
  refine call_sum_walkG (wpAny_pyIter_tuple hl ?_)
  refine ⟨_, [_, l], [_], _, _, _, numAt xs, rfl, Walks.tuple (A := A.in1) hh _ l (Nat.ne_of_lt hlt) (intItems xs), ⟨⟨_, Heap.get?_push_size _ rfl, rfl, rfl⟩, hl.push _⟩, fun c hc => ?_, (fun _ _ => intItems_at), fun h' tk t' hk => ?_⟩
  · show c < (s.heap.push _).objs.size
    rw [Heap.size_push]
    rcases List.mem_cons.mp hc with rfl | hc
    · exact Nat.lt_succ_self _
    · rcases List.mem_cons.mp hc with rfl | hc
      · exact Nat.lt_succ_of_lt hlt
      · cases hc
  · have hold : ∀ c o, s.heap.get? c = some o → h'.get? c = some o := fun c o e => by
      refine hk c o (fun hm => ?_) (Heap.get?_push_of_some _ e)
      rcases List.mem_cons.mp hm with e1 | hm
      · have := Heap.lt_size e; rw [e1] at this; exact Nat.lt_irrefl _ this
      · cases hm
    have := h h' tk t' hold
    simpa [intItems] using this
end
end EngB
end PySem
namespace Eng
open PySem L2 PyProof.Rows
section
variable {X : Cx} {W : WX} {e : Expr} {c : Ctx} {F F' H H' : Hp} {σ : L2.St} {sl : Sl} {K : PySem.W.Frag} {a b : Expr} {fa fb : EE} {pos p : Pos}
/-! ### one argument, looked at as it stands -/
def cb1 (g : D → Option Tm) (fa : EE) : EE := fun sl => (pk fa sl).bind fun t sl1 => ofO ((rsv t sl1).bind g) sl1
def RC1 (K : PySem.W.Frag) (r : List V → Hp → VK → Prop) (g : D → Option Tm) : Prop := ∀ (c : Ctx) (F : Hp) (sl : Sl) (σ : L2.St) (H : Hp) (v : V) (d : D) (t : Tm) (Q : VK), c.K = K → Rel c F sl σ H → Top c.K F H v d → g d = some t →
  (∀ v F' H', Same F F' → Rel c F' sl σ H' → TmOk c F' H' σ sl v t → Q v H') → r [v] H Q
theorem cb1_of {r : List V → Hp → VK → Prop} {g : D → Option Tm} (rs : RC1 X.K r g) (σ : L2.St) (H : Hp) (Q : VK) (h : tE X.K W (cb1 g fa) σ H Q) : tCB r (tCons (tP X.K W (pk fa)) tNil) σ H Q := by
  obtain ⟨c, F, sl, ek, R, q⟩ := h
  refine ⟨c, F, sl, ek, R, (OutOk.bind q).imp fun t sl1 q1 v F1 H1 s1 R1 t1 => ?_⟩
  obtain ⟨t3, et, q3⟩ := ofO_ok q1
  cases z : rsv t sl1 with
  | none => rw [z] at et; cases et
  | some d =>
    rw [z] at et
    exact rs c F1 sl1 σ H1 v d t3 Q ek R1 (rsv_ok R1 t1 z) et fun v' F' H' s3 R3 t3 => q3 v' F' H' (Same.trans s1 s3) R3 t3
theorem pe_cb1 {x : Str} {id : String} {r : List V → Hp → VK → Prop} {g : D → Option Tm} (hc : CallR X (.builtin id) r) (rs : RC1 X.K r g) (hg : Gl X x) (hm : X.mg x = none) (hv : bootBuiltins x = some (.builtin id)) (ha : PE X a (tE X.K W fa)) (hs : starEach [a] X.env = (false, eval a X.env) :: starEach [] X.env := by rfl) (hn : x ≠ "__name__" := by decide) (hdb : (x == ("__debug__" : Str)) = false := by decide) :
    PE X (.Call (.Name x p) [a] [] pos) (tE X.K W (cb1 g fa)) := pe_imp (pe_callB hc hg hm hv (pa_cons (pe_pk ha) pa_nil hs) hn hdb (he := hs) (hpl := rfl)) fun σ H Q h => cb1_of rs σ H Q h
theorem pe_ct1 {x : Str} {id : String} {r : List V → Hp → VK → Prop} {g : D → Option Tm} (hc : CallR X (.type id) r) (rs : RC1 X.K r g) (hg : Gl X x) (hm : X.mg x = none) (hv : bootBuiltins x = some (.type id)) (ha : PE X a (tE X.K W fa)) (hs : starEach [a] X.env = (false, eval a X.env) :: starEach [] X.env := by rfl) (hn : x ≠ "__name__" := by decide) (hdb : (x == ("__debug__" : Str)) = false := by decide) :
    PE X (.Call (.Name x p) [a] [] pos) (tE X.K W (cb1 g fa)) := pe_imp (pe_callTy hc hg hm hv (pa_cons (pe_pk ha) pa_nil hs) hn hdb (he := hs) (hpl := rfl)) fun σ H Q h => cb1_of rs σ H Q h
/-- len -/
def gLen : D → Option Tm
  | .list ds => some (.val (.int ds.length))
  | .tuple ds => some (.val (.int ds.length))
  | .str x => if x.length ≤ LINE then some (.val (.int x.length)) else none
  | .dict kvs => some (.val (.int kvs.length))
  | _ => none
def rLenA (K : PySem.W.Frag) : List V → Hp → VK → Prop := fun xs H Q => (∃ x n, xs = [x] ∧ LenV K x H n ∧ Q (.int n) H) ∨ (∃ a kvs, xs = [V.ref a] ∧ H a = some (.dK kvs) ∧ Q (.int kvs.length) H)
theorem call_lenA : CallR X (.builtin "len") (rLenA X.K) := call_len.or call_lenD
theorem rc_len : RC1 K (rLenA K) gLen := by
  intro c F sl σ H v d t Q ek R hv et q
  subst ek
  cases d with
  | list ds =>
    cases et
    obtain ⟨a, xs, rfl, h1, h2⟩ := hv.list R.sub
    exact .inl ⟨_, xs.length, rfl, .inl ⟨xs, h1, rfl⟩, by rw [dpAll_len h2]; exact q _ F H (Same.refl F) R (den_int _)⟩
  | tuple ds =>
    cases et
    obtain ⟨a, xs, rfl, _, h1, h2⟩ := hv.tuple R.sub
    exact .inl ⟨_, xs.length, rfl, .inr ⟨xs, h1, rfl⟩, by rw [dpAll_len h2]; exact q _ F H (Same.refl F) R (den_int _)⟩
  | str x =>
    have et' : (if x.length ≤ LINE then some (Tm.val (.int x.length)) else none) = some t := et
    split at et'
    · rename_i hl
      cases et'
      rw [hv.str]
      exact .inl ⟨_, x.length, rfl, ⟨by rw [← line_eq]; exact hl, rfl⟩, q _ F H (Same.refl F) R (den_int _)⟩
    · cases et'
  | dict kvs =>
    cases et
    obtain ⟨a, kv, rfl, h1, h2⟩ := hv.dict R.sub
    exact .inr ⟨a, kv, rfl, h1, by rw [Paired.length h2]; exact q _ F H (Same.refl F) R (den_int _)⟩
  | _ => cases et
/-- tuple(x), list(x) -/
def gTuple : D → Option Tm
  | .list ds => some (.val (.tuple ds))
  | .tuple ds => some (.val (.tuple ds))
  | _ => none
theorem rc_tuple : RC1 K (fun xs H Q => ∃ p ys, xs = [.ref p] ∧ ((SqL K H p ys ∧ ∀ l, H l = none → Q (.ref l) (upd H l (.tup ys))) ∨ (SqT K H p ys ∧ Q (.ref p) H))) gTuple := by
  intro c F sl σ H v d t Q ek R hv et q
  subst ek
  cases d with
  | list ds =>
    cases et
    obtain ⟨a, xs, rfl, h1, h2⟩ := hv.list R.sub
    refine ⟨a, xs, rfl, .inl ⟨h1, fun l hl => ?_⟩⟩
    obtain ⟨f1, f2⟩ := R.newF hl (.tup xs)
    exact q _ _ _ f1 f2 (R.tmNewT hl h2)
  | tuple ds =>
    cases et
    obtain ⟨a, xs, rfl, h0, h1, h2⟩ := hv.tuple R.sub
    exact ⟨a, xs, rfl, .inr ⟨h1, q _ F H (Same.refl F) R (den_tup h0 h2)⟩⟩
  | _ => cases et
def gList : D → Option Tm
  | .list ds => some (.own (.list ds))
  | .tuple ds => some (.own (.list ds))
  | _ => none
theorem rc_list : RC1 K (fun xs H Q => ∃ p ys, xs = [.ref p] ∧ (SqL K H p ys ∨ SqT K H p ys) ∧ ∀ l, H l = none → Q (.ref l) (upd H l (.lst ys))) gList := by
  intro c F sl σ H v d t Q ek R hv et q
  subst ek
  cases d with
  | list ds =>
    cases et
    obtain ⟨a, xs, rfl, h1, h2⟩ := hv.list R.sub
    exact ⟨a, xs, rfl, .inl h1, fun l hl => q _ F _ (Same.refl F) (R.newO hl _) (R.tmNewL hl h2)⟩
  | tuple ds =>
    cases et
    obtain ⟨a, xs, rfl, h0, h1, h2⟩ := hv.tuple R.sub
    exact ⟨a, xs, rfl, .inr h1, fun l hl => q _ F _ (Same.refl F) (R.newO hl _) (R.tmNewL hl h2)⟩
  | _ => cases et
/-- ints, bools -/
def intsOf : List D → Option (List Int)
  | [] => some []
  | .int i :: ds => (intsOf ds).map (i :: ·)
  | _ :: _ => none
def boolsOf : List D → Option (List Bool)
  | [] => some []
  | .bool i :: ds => (boolsOf ds).map (i :: ·)
  | _ :: _ => none
theorem ints_v : ∀ {xs : List V} {ds : List D} {ns : List Int}, DpAll K F xs ds → intsOf ds = some ns → xs = ns.map V.int
  | _, _, _, .nil, h => by cases h; rfl
  | _, d :: ds, _, .cons r t, h => by
    cases d with
    | int i =>
      have h' : (intsOf ds).map (i :: ·) = some _ := h
      cases z : intsOf ds with
      | none => rw [z] at h'; cases h'
      | some ms =>
        rw [z] at h'
        cases h'
        cases r
        rw [ints_v t z]
        rfl
    | _ => cases h
theorem bools_v : ∀ {xs : List V} {ds : List D} {ns : List Bool}, DpAll K F xs ds → boolsOf ds = some ns → xs = ns.map V.bl
  | _, _, _, .nil, h => by cases h; rfl
  | _, d :: ds, _, .cons r t, h => by
    cases d with
    | bool i =>
      have h' : (boolsOf ds).map (i :: ·) = some _ := h
      cases z : boolsOf ds with
      | none => rw [z] at h'; cases h'
      | some ms =>
        rw [z] at h'
        cases h'
        cases r
        rw [bools_v t z]
        rfl
    | _ => cases h
def rSumA (K : PySem.W.Frag) : List V → Hp → VK → Prop := fun vs H Q => rSum K vs H Q ∨ ∃ (a : Addr) (ns : List Int), vs = [V.ref a] ∧ SqT K H a (ns.map V.int) ∧ Q (.int ns.sum) H
theorem call_sumT (hc : X.calm = true) : CallR X (.builtin "sum") (fun vs H Q => ∃ (a : Addr) (ns : List Int), vs = [V.ref a] ∧ SqT X.K H a (ns.map V.int) ∧ Q (.int ns.sum) H) := by
  intro pins s σ H vs us Q I r h
  obtain ⟨a, ns, rfl, hs, q⟩ := h
  obtain ⟨its, rv, hl, _⟩ := I.tuple hs
  rw [Vals.ref1 r]
  have hi : IntsAre its ns := Vals.ints rv
  obtain ⟨xs, e⟩ := hi.allInts.items
  have hn : numsOf (intItems xs).toList = ns := by rw [← e]; exact hi.numsOf
  rw [nums_intItems] at hn
  have hl' : s.heap.IsTuple a (intItems xs) := by rw [← e]; exact hl
  refine PySem.EngB.sum_intTupG (I.ok.hd hc) hl' fun h' tk t' hk => ?_
  have e2 : preSum (numAt xs) xs.size = ns.sum := by rw [preSum_eq, List.take_of_length_le (by simp), hn]
  rw [e2]
  exact ⟨.int _, H, I.kept hk, ⟨_, rfl⟩, q⟩
theorem call_sumA (hc : X.calm = true) : CallR X (.builtin "sum") (rSumA X.K) := (cr_sum hc).or (call_sumT hc)
def gSum : D → Option Tm
  | .list ds => (intsOf ds).map fun ns => .val (.int ns.sum)
  | .tuple ds => (intsOf ds).map fun ns => .val (.int ns.sum)
  | _ => none
theorem rc_sum : RC1 K (rSumA K) gSum := by
  intro c F sl σ H v d t Q ek R hv et q
  subst ek
  cases d with
  | list ds =>
    have et' : (intsOf ds).map (fun ns => Tm.val (.int ns.sum)) = some t := et
    cases z : intsOf ds with
    | none => rw [z] at et'; cases et'
    | some ns =>
      rw [z] at et'
      cases et'
      obtain ⟨a, xs, rfl, h1, h2⟩ := hv.list R.sub
      rw [ints_v h2 z] at h1
      exact .inl ⟨a, ns, rfl, h1, q _ F H (Same.refl F) R (den_int _)⟩
  | tuple ds =>
    have et' : (intsOf ds).map (fun ns => Tm.val (.int ns.sum)) = some t := et
    cases z : intsOf ds with
    | none => rw [z] at et'; cases et'
    | some ns =>
      rw [z] at et'
      cases et'
      obtain ⟨a, xs, rfl, h0, h1, h2⟩ := hv.tuple R.sub
      rw [ints_v h2 z] at h1
      exact .inr ⟨a, ns, rfl, h1, q _ F H (Same.refl F) R (den_int _)⟩
  | _ => cases et
def gAny : D → Option Tm
  | .list ds => (boolsOf ds).map fun bs => .val (.bool (bs.any id))
  | _ => none
def gAll : D → Option Tm
  | .list ds => (boolsOf ds).map fun bs => .val (.bool (bs.all id))
  | _ => none
theorem rc_any : RC1 K (rAny K) gAny := by
  intro c F sl σ H v d t Q ek R hv et q
  subst ek
  cases d with
  | list ds =>
    have et' : (boolsOf ds).map (fun bs => Tm.val (.bool (bs.any id))) = some t := et
    cases z : boolsOf ds with
    | none => rw [z] at et'; cases et'
    | some ns =>
      rw [z] at et'
      cases et'
      obtain ⟨a, xs, rfl, h1, h2⟩ := hv.list R.sub
      rw [bools_v h2 z] at h1
      exact ⟨a, ns, rfl, h1, q _ F H (Same.refl F) R (den_bl _)⟩
  | _ => cases et
theorem rc_all : RC1 K (rAll K) gAll := by
  intro c F sl σ H v d t Q ek R hv et q
  subst ek
  cases d with
  | list ds =>
    have et' : (boolsOf ds).map (fun bs => Tm.val (.bool (bs.all id))) = some t := et
    cases z : boolsOf ds with
    | none => rw [z] at et'; cases et'
    | some ns =>
      rw [z] at et'
      cases et'
      obtain ⟨a, xs, rfl, h1, h2⟩ := hv.list R.sub
      rw [bools_v h2 z] at h1
      exact ⟨a, ns, rfl, h1, q _ F H (Same.refl F) R (den_bl _)⟩
  | _ => cases et
/-- int(x) of an int -/
def gInt : D → Option Tm
  | .int i => some (.val (.int i))
  | .bool b => some (.val (.int (if b then 1 else 0)))
  | _ => none
theorem rc_int : RC1 K (fun xs H Q => (∃ i, xs = [.int i] ∧ Q (.int i) H) ∨ ∃ k, xs = [.bl k] ∧ Q (.int (if k then 1 else 0)) H) gInt := by
  intro c F sl σ H v d t Q ek R hv et q
  cases d with
  | int i =>
    cases et
    rcases hv with h | ⟨_, _, h⟩
    · cases h; exact .inl ⟨i, rfl, q _ F H (Same.refl F) R (den_int _)⟩
    · exact h.elim
  | bool i =>
    cases et
    rcases hv with h | ⟨_, _, h⟩
    · cases h; exact .inr ⟨i, rfl, q _ F H (Same.refl F) R (den_int _)⟩
    · exact h.elim
  | _ => cases et

/-! ### two values -/
def RC2 (K : PySem.W.Frag) (r : List V → Hp → VK → Prop) (g : D → D → Option Tm) : Prop := ∀ (c : Ctx) (F : Hp) (sl : Sl) (σ : L2.St) (H : Hp) (x y : V) (dx dy : D) (t : Tm) (Q : VK), c.K = K → Rel c F sl σ H → Den c.K F x dx → Den c.K F y dy → g dx dy = some t →
  (∀ v F' H', Same F F' → Rel c F' sl σ H' → TmOk c F' H' σ sl v t → Q v H') → r [x, y] H Q
theorem cb2_of {r : List V → Hp → VK → Prop} {g : D → D → Option Tm} (rs : RC2 X.K r g) (σ : L2.St) (H : Hp) (Q : VK) (h : tE X.K W (op2 g fa fb) σ H Q) : tCB r (tCons (tV X.K W (vl fa)) (tCons (tV X.K W (vl fb)) tNil)) σ H Q := by
  obtain ⟨c, F, sl, ek, R, q⟩ := h
  refine ⟨c, F, sl, ek, R, (OutOk.bind q).imp fun x sl1 q1 v F1 H1 s1 R1 d1 => ⟨c, F1, sl1, ek, R1, (OutOk.bind q1).imp fun y sl2 q2 u F2 H2 s2 R2 d2 => ?_⟩⟩
  obtain ⟨t, et, q3⟩ := ofO_ok q2
  exact rs c F2 sl2 σ H2 v u x y t Q ek R2 (d1.mono s2) d2 et fun v' F' H' s3 R3 t3 => q3 v' F' H' (Same.trans (Same.trans s1 s2) s3) R3 t3
theorem pe_cb2 {x : Str} {id : String} {r : List V → Hp → VK → Prop} {g : D → D → Option Tm} (hc : CallR X (.builtin id) r) (rs : RC2 X.K r g) (hg : Gl X x) (hm : X.mg x = none) (hv : bootBuiltins x = some (.builtin id)) (ha : PE X a (tE X.K W fa)) (hb : PE X b (tE X.K W fb))
    (hs : starEach [a, b] X.env = (false, eval a X.env) :: starEach [b] X.env := by rfl) (hs2 : starEach [b] X.env = (false, eval b X.env) :: starEach [] X.env := by rfl) (hn : x ≠ "__name__" := by decide) (hdb : (x == ("__debug__" : Str)) = false := by decide) :
    PE X (.Call (.Name x p) [a, b] [] pos) (tE X.K W (op2 g fa fb)) := pe_imp (pe_callB hc hg hm hv (pa_cons (pe_vl ha) (pa_cons (pe_vl hb) pa_nil hs2) hs) hn hdb (he := hs) (hpl := by rw [hs2]; rfl)) fun σ H Q h => cb2_of rs σ H Q h
/-- max, min of two data -/
def cmp2Ok (x y : D) : Bool := PySem.W.alike x y && (PySem.W.alike y x && (PySem.W.alike x x && (PySem.W.alike y y && (!isNone x && (!isNone y && decide (PyData.depthAll [x, y] ≤ 60))))))
def gMax2 (x y : D) : Option Tm := if cmp2Ok x y = true then some (.val (if PySem.W.dataLt x y = true then y else x)) else none
def gMin2 (x y : D) : Option Tm := if cmp2Ok x y = true then some (.val (if PySem.W.dataLt y x = true then y else x)) else none
theorem cmp2_ok {x y : D} (h : cmp2Ok x y = true) : PySem.W.AlikeAll [x, y] ∧ PyData.depthAll [x, y] ≤ 60 := by
  unfold cmp2Ok at h
  simp only [Bool.and_eq_true, Bool.not_eq_true', decide_eq_true_eq] at h
  obtain ⟨h1, h2, h3, h4, h5, h6, h7⟩ := h
  refine ⟨⟨fun a ha b hb => ?_, fun a ha e => ?_⟩, h7⟩
  · simp only [List.mem_cons, List.not_mem_nil, or_false] at ha hb
    rcases ha with rfl | rfl <;> rcases hb with rfl | rfl <;> assumption
  · simp only [List.mem_cons, List.not_mem_nil, or_false] at ha
    rcases ha with rfl | rfl
    · rw [e] at h5; cases h5
    · rw [e] at h6; cases h6
def rMax2 (K : PySem.W.Frag) : List V → Hp → VK → Prop := fun vs H Q => ∃ x y dx dy, vs = [x, y] ∧ Dp K H x dx ∧ Dp K H y dy ∧ cmp2Ok dx dy = true ∧ Q (if PySem.W.dataLt dx dy = true then y else x) H
def rMin2 (K : PySem.W.Frag) : List V → Hp → VK → Prop := fun vs H Q => ∃ x y dx dy, vs = [x, y] ∧ Dp K H x dx ∧ Dp K H y dy ∧ cmp2Ok dx dy = true ∧ Q (if PySem.W.dataLt dy dx = true then y else x) H
theorem call_max2D (hc : X.calm = true) (hu : X.A.units + 64 < cLine) : CallR X (.builtin "max") (rMax2 X.K) := by
  intro pins s σ H vs us Q I r h
  obtain ⟨x, y, dx, dy, rfl, hx, hy, hz, q⟩ := h
  obtain ⟨u, w', rfl, ru, rw'⟩ := vals2 r
  obtain ⟨h1, h2⟩ := cmp2_ok hz
  obtain ⟨as, r1⟩ := Dp.reads I dx x u hx ru
  obtain ⟨bs, r2⟩ := Dp.reads I dy y w' hy rw'
  refine PySem.EngB.max_two_data (I.ok.hd hc) r1 r2 h1 (by omega) fun h' tk hk => ?_
  refine ⟨_, H, I.kept hk, ?_, q⟩
  by_cases z : PySem.W.dataLt dx dy = true
  · rw [if_pos z, if_pos z]; exact rw'
  · rw [if_neg z, if_neg z]; exact ru
theorem call_min2D (hc : X.calm = true) (hu : X.A.units + 64 < cLine) : CallR X (.builtin "min") (rMin2 X.K) := by
  intro pins s σ H vs us Q I r h
  obtain ⟨x, y, dx, dy, rfl, hx, hy, hz, q⟩ := h
  obtain ⟨u, w', rfl, ru, rw'⟩ := vals2 r
  obtain ⟨h1, h2⟩ := cmp2_ok hz
  obtain ⟨as, r1⟩ := Dp.reads I dx x u hx ru
  obtain ⟨bs, r2⟩ := Dp.reads I dy y w' hy rw'
  refine PySem.EngB.min_two_data (I.ok.hd hc) r1 r2 h1 (by omega) fun h' tk hk => ?_
  refine ⟨_, H, I.kept hk, ?_, q⟩
  by_cases z : PySem.W.dataLt dy dx = true
  · rw [if_pos z, if_pos z]; exact rw'
  · rw [if_neg z, if_neg z]; exact ru
theorem rc_max2 : RC2 K (rMax2 K) gMax2 := by
  intro c F sl σ H x y dx dy t Q ek R hx hy et q
  subst ek
  unfold gMax2 at et
  split at et
  · rename_i hz
    cases et
    refine ⟨x, y, dx, dy, rfl, dp_mono R.sub _ hx, dp_mono R.sub _ hy, hz, q _ F H (Same.refl F) R ?_⟩
    show Den c.K F _ (if PySem.W.dataLt dx dy = true then dy else dx)
    by_cases z : PySem.W.dataLt dx dy = true
    · rw [if_pos z, if_pos z]; exact hy
    · rw [if_neg z, if_neg z]; exact hx
  · cases et
theorem rc_min2 : RC2 K (rMin2 K) gMin2 := by
  intro c F sl σ H x y dx dy t Q ek R hx hy et q
  subst ek
  unfold gMin2 at et
  split at et
  · rename_i hz
    cases et
    refine ⟨x, y, dx, dy, rfl, dp_mono R.sub _ hx, dp_mono R.sub _ hy, hz, q _ F H (Same.refl F) R ?_⟩
    show Den c.K F _ (if PySem.W.dataLt dy dx = true then dy else dx)
    by_cases z : PySem.W.dataLt dy dx = true
    · rw [if_pos z, if_pos z]; exact hy
    · rw [if_neg z, if_neg z]; exact hx
  · cases et
/-- lcm -/
def rLcm : List V → Hp → VK → Prop := fun vs H Q => ∃ i j : Int, vs = [.int i, .int j] ∧ i.natAbs < 18446744073709551616 ∧ j.natAbs < 18446744073709551616 ∧ Q (.int ((i.natAbs.lcm j.natAbs : Nat) : Int)) H
theorem call_lcm : CallR X (.builtin "math.lcm") rLcm := by
  intro pins s σ H vs us Q I r h
  obtain ⟨i, j, rfl, hi, hj, q⟩ := h
  obtain ⟨t, u, rfl⟩ := Vals.int2 r
  have e : (2 : Nat) ^ 64 = 18446744073709551616 := by decide
  exact PySem.W.mc_lcm (by rw [e]; exact hi) (by rw [e]; exact hj) fun _ => ⟨.int _, H, I.tok _, ⟨_, rfl⟩, q⟩
def gLcm : D → D → Option Tm
  | .int i, .int j => if i.natAbs < 18446744073709551616 ∧ j.natAbs < 18446744073709551616 then some (.val (.int ((i.natAbs.lcm j.natAbs : Nat) : Int))) else none
  | _, _ => none
theorem rc_lcm : RC2 K rLcm gLcm := by
  intro c F sl σ H x y dx dy t Q ek R hx hy et q
  cases dx with
  | int i =>
    cases dy with
    | int j =>
      have et' : (if i.natAbs < 18446744073709551616 ∧ j.natAbs < 18446744073709551616 then some (Tm.val (.int ((i.natAbs.lcm j.natAbs : Nat) : Int))) else none) = some t := et
      split at et'
      · rename_i hz
        cases et'
        exact ⟨i, j, by rw [hx.int, hy.int], hz.1, hz.2, q _ F H (Same.refl F) R (den_int _)⟩
      · cases et'
    | _ => cases et
  | _ => cases et
/-- isinstance(x, T), T a built-in type -/
def tyName : D → String
  | .none => "NoneType"
  | .bool _ => "bool"
  | .int _ => "int"
  | .str _ => "str"
  | .list _ => "list"
  | .tuple _ => "tuple"
  | .dict _ => "dict"
theorem tyX_of {v : V} {d : D} (s : Same F H) (h : Top K F H v d) : TyX K H v (.type (tyName d)) := by
  rcases h with h | ⟨a, rfl, h⟩
  · cases h with
    | non => exact .base .non
    | bl b => exact .base (.bl b)
    | int i => exact .base (.int i)
    | str x => exact .base (.str x)
    | lst hs ha =>
      rcases Same.seq s hs with (h | ⟨o, h⟩) | ⟨o, its, n, h1, h2, _⟩
      · exact .base (.lst h)
      · exact .base (.frz h)
      · exact .kList h1 h2
    | tup hs ha =>
      rcases Same.sqT s hs with (h | ⟨o, h⟩) | ⟨o, its, n, h1, h2, _⟩
      · exact .base (.tup h)
      · exact .fTuple h
      · exact .kTuple h1 h2
  · cases d with
    | list ds => obtain ⟨xs, h1, _⟩ := h; exact .base (.lst h1)
    | dict kvs => obtain ⟨kv, h1, _⟩ := h; exact .base (.dK h1)
    | _ => exact h.elim
def isiD (T : String) (d : D) : Option Bool := kitB (tyName d) T
def isiE (T : String) (fa : EE) : EE := fun sl => (pk fa sl).bind fun t sl1 => ofO (((rsv t sl1).bind (isiD T)).map fun b => .val (.bool b)) sl1
theorem pe_isi {T : String} {x : Str} {p2 : Pos} (hg : Gl X "isinstance") (hm : X.mg "isinstance" = none) (ha : PE X a (tE X.K W fa)) (hT : PE X (.Name x p2) (tC (.ty T))) (hs : starEach [a, .Name x p2] X.env = (false, eval a X.env) :: starEach [.Name x p2] X.env := by rfl) :
    PE X (.Call (.Name "isinstance" p) [a, .Name x p2] [] pos) (tE X.K W (isiE T fa)) := pe_imp (pe_callB call_isi hg hm (by decide +kernel) (pa_cons (pe_pk ha) (pa_cons hT pa_nil) hs) (he := hs) (hpl := rfl)) fun σ H Q ⟨c, F, sl, ek, R, q⟩ => by
  refine ⟨c, F, sl, ek, R, (OutOk.bind q).imp fun t sl1 q1 v F1 H1 s1 R1 t1 => ?_⟩
  obtain ⟨t3, et, q3⟩ := ofO_ok q1
  cases z : rsv t sl1 with
  | none => rw [z] at et; cases et
  | some d =>
    rw [z] at et
    have et' : (isiD T d).map (fun b => Tm.val (.bool b)) = some t3 := et
    cases z2 : isiD T d with
    | none => rw [z2] at et'; cases et'
    | some bb =>
      rw [z2] at et'
      cases et'
      exact ⟨v, .ty T, _, _, bb, rfl, .ty _, by rw [← ek]; exact tyX_of R1.sub (rsv_ok R1 t1 z), kit_ty z2, q3 _ F1 H1 s1 R1 (den_bl bb)⟩
end
end Eng
set_option Elab.async false
set_option linter.all false
set_option maxRecDepth 100000
set_option maxHeartbeats 2000000
/-! THE ENGINE, 6: defs and their calls. -/
namespace Eng
open PySem L2 PyProof.Rows
/-- what a def does: its parameters' contents behind it -/
inductive FR where
  | ok (t : Tm) (cs : List Cell) | exc (cn : Str) (d : D) (cs : List Cell) | stuck
abbrev FF := List Cell → FR
def fnOf (n N : Nat) (body : SS) : FF := fun cs => match body (cs ++ List.replicate (N - n) .no) with
  | .nx sl => .ok (.val .none) (sl.take n)
  | .rt (.val d) sl => .ok (.val d) (sl.take n)
  | .rt (.own d) sl => .ok (.own d) (sl.take n)
  | .rt (.bor i) sl => match sl[i]? with
    | some (.own d) => .ok (.own d) (sl.take n)
    | _ => .stuck
  | .exc cn d sl => .exc cn d (sl.take n)
  | _ => .stuck
/-! ### the promise -/
/-- the arguments -/
inductive ArR (K : PySem.W.Frag) (F H : Hp) : List V → List Cell → Prop
  | nil : ArR K F H [] []
  | val {v : V} {vs : List V} {d : D} {cs : List Cell} : Den K F v d → ArR K F H vs cs → ArR K F H (v :: vs) (.val d :: cs)
  | io {a : Addr} {vs : List V} {d : D} {cs : List Cell} : F a = none → ObjR K F H a d → ArR K F H vs cs → ArR K F H (.ref a :: vs) (.io d :: cs)
/-- the objects handed in: (place, address) -/
def iosOf : Nat → List V → List Cell → List (Nat × Addr)
  | n, .ref a :: vs, .io _ :: cs => (n, a) :: iosOf (n + 1) vs cs
  | n, _ :: vs, _ :: cs => iosOf (n + 1) vs cs
  | _, _, _ => []
structure EndR (K : PySem.W.Frag) (F H F' H' : Hp) (ios : List (Nat × Addr)) (cs' : List Cell) : Prop where
  ff : Same F F'
  sub : Same F' H'
  f0 : ∀ b, H b ≠ none → F' b = F b
  kp : ∀ b o, H b = some o → (∀ i, (i, b) ∉ ios) → H' b = some o
  out : ∀ i a, (i, a) ∈ ios → ∃ d', cs'[i]? = some (.io d') ∧ ObjR K F' H' a d'
def RetOk (K : PySem.W.Frag) (H F' H' : Hp) (v : V) : Tm → Prop
  | .val d => Den K F' v d
  | .own d => ∃ a, v = .ref a ∧ H a = none ∧ F' a = none ∧ ObjR K F' H' a d
  | .bor _ => False
def spF (K : PySem.W.Frag) (n : Nat) (f : FF) : Sp := fun vs H Q E => vs.length = n ∧ ∃ (F : Hp) (cs : List Cell), Same F H ∧ ArR K F H vs cs ∧ ((iosOf 0 vs cs).map (·.2)).Nodup ∧
  match f cs with
  | .ok t cs' => ∀ v F' H', EndR K F H F' H' (iosOf 0 vs cs) cs' → RetOk K H F' H' v t → Q v H'
  | .exc cn d cs' => ∀ dd v F' H', EndR K F H F' H' (iosOf 0 vs cs) cs' → H' dd = some (.xd [(("value" : Str), v)]) → Den K F' v d → E (.ref (He.ga K cn)) (some dd) H'
  | .stuck => False
section
variable {K : PySem.W.Frag} {F H F' H' : Hp}
theorem ArR.len {vs : List V} {cs : List Cell} (h : ArR K F H vs cs) : vs.length = cs.length := by
  induction h with
  | nil => rfl
  | val _ _ ih => exact congrArg (· + 1) ih
  | io _ _ _ ih => exact congrArg (· + 1) ih
theorem ios_mem {vs : List V} {cs : List Cell} (h : ArR K F H vs cs) : ∀ (n i : Nat) (a : Addr), (i, a) ∈ iosOf n vs cs → n ≤ i ∧ vs[i - n]? = some (.ref a) ∧ (∃ d, cs[i - n]? = some (.io d)) ∧ F a = none ∧ H a ≠ none := by
  induction h with
  | nil => intro n i a h; cases h
  | @val v vs d cs _ hr ih =>
    intro n i a h
    have h' : (i, a) ∈ iosOf (n + 1) vs cs := by cases v <;> exact h
    obtain ⟨h1, h2, h3, h4⟩ := ih (n + 1) i a h'
    have e : i - n = (i - (n + 1)) + 1 := by omega
    exact ⟨by omega, by rw [e]; exact h2, by rw [e]; exact h3, h4⟩
  | @io b vs d cs hF ho hr ih =>
    intro n i a h
    have h' : (i, a) ∈ (n, b) :: iosOf (n + 1) vs cs := h
    rcases List.mem_cons.mp h' with e | h'
    · cases e
      exact ⟨Nat.le_refl _, by rw [Nat.sub_self]; rfl, ⟨d, by rw [Nat.sub_self]; rfl⟩, hF, ho.some⟩
    · obtain ⟨h1, h2, h3, h4⟩ := ih (n + 1) i a h'
      have e : i - n = (i - (n + 1)) + 1 := by omega
      exact ⟨by omega, by rw [e]; exact h2, by rw [e]; exact h3, h4⟩
theorem ios_of {vs : List V} {cs : List Cell} (h : ArR K F H vs cs) : ∀ (n i : Nat) (d : D), cs[i]? = some (.io d) → ∃ a, vs[i]? = some (.ref a) ∧ (n + i, a) ∈ iosOf n vs cs ∧ ObjR K F H a d := by
  induction h with
  | nil => intro n i d h; simp at h
  | @val v vs d0 cs _ hr ih =>
    intro n i d h
    cases i with
    | zero => simp at h
    | succ i =>
      obtain ⟨a, h1, h2, h3⟩ := ih (n + 1) i d (by simpa using h)
      refine ⟨a, by simpa using h1, ?_, h3⟩
      have e : n + (i + 1) = n + 1 + i := by omega
      rw [e]
      cases v <;> exact h2
  | @io b vs d0 cs hF ho hr ih =>
    intro n i d h
    cases i with
    | zero =>
      have e : d0 = d := by simpa using h
      subst e
      exact ⟨b, rfl, List.mem_cons_self, ho⟩
    | succ i =>
      obtain ⟨a, h1, h2, h3⟩ := ih (n + 1) i d (by simpa using h)
      have e : n + (i + 1) = n + 1 + i := by omega
      exact ⟨a, by simpa using h1, by rw [e]; exact List.mem_cons_of_mem _ h2, h3⟩
theorem ar_val {vs : List V} {cs : List Cell} (h : ArR K F H vs cs) : ∀ (i : Nat) (d : D), cs[i]? = some (.val d) → ∃ v, vs[i]? = some v ∧ Den K F v d := by
  induction h with
  | nil => intro i d h; simp at h
  | val hd hr ih =>
    intro i d h
    cases i with
    | zero =>
      have e := Option.some.inj h
      cases e
      exact ⟨_, rfl, hd⟩
    | succ i => exact ih i d h
  | io hF ho hr ih =>
    intro i d h
    cases i with
    | zero => cases Option.some.inj h
    | succ i => exact ih i d h
theorem ar_own {vs : List V} {cs : List Cell} (h : ArR K F H vs cs) : ∀ (i : Nat) (cl : Cell), cs[i]? = some cl → (∃ d, cl = .val d) ∨ ∃ d, cl = .io d := by
  induction h with
  | nil => intro i d h; simp at h
  | val hd hr ih =>
    intro i cl h
    cases i with
    | zero =>
      have e := Option.some.inj h
      exact .inl ⟨_, e.symm⟩
    | succ i => exact ih i cl h
  | io hF ho hr ih =>
    intro i cl h
    cases i with
    | zero =>
      have e := Option.some.inj h
      exact .inr ⟨_, e.symm⟩
    | succ i => exact ih i cl h
theorem nodup_snd {l : List (Nat × Addr)} (h : (l.map (·.2)).Nodup) {i j : Nat} {a : Addr} (h1 : (i, a) ∈ l) (h2 : (j, a) ∈ l) : i = j := by
  induction l with
  | nil => cases h1
  | cons p l ih =>
    rw [List.map_cons, List.nodup_cons] at h
    rcases List.mem_cons.mp h1 with e1 | h1
    · rcases List.mem_cons.mp h2 with e2 | h2
      · rw [← e1] at e2; cases e2; rfl
      · exact absurd (List.mem_map.mpr ⟨(j, a), h2, by rw [← e1]⟩) h.1
    · rcases List.mem_cons.mp h2 with e2 | h2
      · exact absurd (List.mem_map.mpr ⟨(i, a), h1, by rw [← e2]⟩) h.1
      · exact ih h.2 h1 h2
/-- the body's start -/
theorem rel_start {Nm : List Str} {vs : List V} {cs : List Cell} {n : Nat} (s : Same F H) (h : ArR K F H vs cs) (nd : ((iosOf 0 vs cs).map (·.2)).Nodup) (hn : vs.length = n) (hle : n ≤ Nm.length) :
    Rel ⟨K, H, F, iosOf 0 vs cs⟩ F (cs ++ List.replicate (Nm.length - n) .no) (L2.start Nm vs) H := by
  have hl := h.len
  have g1 : ∀ (i : Nat) (v : V), vs[i]? = some v → (L2.start Nm vs)[i]? = some (some v) := fun i v e => by
    unfold L2.start
    have hi : i < vs.length := (List.getElem?_eq_some_iff.mp e).1
    rw [List.getElem?_append_left (by rw [List.length_map]; exact hi), List.getElem?_map, e]
    rfl
  have g2 : ∀ (i : Nat) (cl : Cell), (cs ++ List.replicate (Nm.length - n) Cell.no)[i]? = some cl → cs[i]? = some cl ∨ cl = .no := fun i cl e => by
    by_cases hi : i < cs.length
    · rw [List.getElem?_append_left hi] at e; exact .inl e
    · rw [List.getElem?_append_right (by omega)] at e
      have := List.mem_of_getElem? e
      exact .inr (List.eq_of_mem_replicate this)
  have g3 : ∀ i a, OwnA (L2.start Nm vs) (cs ++ List.replicate (Nm.length - n) Cell.no) i a → (i, a) ∈ iosOf 0 vs cs := fun i a ⟨o1, o2⟩ => by
    cases q : (cs ++ List.replicate (Nm.length - n) Cell.no)[i]? with
    | none => rw [q] at o1; cases o1
    | some cl =>
      rcases g2 i cl q with e | e
      · rcases ar_own h i cl e with ⟨d, e2⟩ | ⟨d, e2⟩
        · rw [q, e2] at o1; cases o1
        · rw [e2] at e
          obtain ⟨a', h1, h2, _⟩ := ios_of h 0 i d e
          rw [g1 i _ h1] at o2
          cases o2
          rw [Nat.zero_add] at h2
          exact h2
      · rw [q, e] at o1; cases o1
  refine ⟨?_, s, fun _ _ => rfl, fun _ _ e _ => e, fun i cl e => ?_, fun i j a h1 h2 => nodup_snd nd (g3 i a h1) (g3 j a h2), fun i a hi => ?_⟩
  · unfold L2.start
    rw [List.length_append, List.length_append, List.length_replicate, List.length_replicate, List.length_map, hl, ← hn, hl]
  · rcases g2 i cl e with e | e
    · rcases ar_own h i cl e with ⟨d, e2⟩ | ⟨d, e2⟩
      · subst e2
        obtain ⟨v, h1, h2⟩ := ar_val h i d e
        exact ⟨v, g1 i v h1, h2⟩
      · subst e2
        obtain ⟨a, h1, h2, h3⟩ := ios_of h 0 i d e
        rw [Nat.zero_add] at h2
        exact ⟨a, g1 i _ h1, h2, (ios_mem h 0 i a h2).2.2.2.1, h3⟩
    · subst e; trivial
  · obtain ⟨_, h1, ⟨d, h2⟩, _⟩ := ios_mem h 0 i a hi
    rw [Nat.sub_zero] at h1 h2
    refine ⟨g1 i _ h1, d, ?_⟩
    rw [List.getElem?_append_left (List.getElem?_eq_some_iff.mp h2).1]
    exact h2
/-- the body's end -/
theorem rel_end {vs : List V} {cs : List Cell} {sl : Sl} {σ : L2.St} {n : Nat} (s : Same F H) (h : ArR K F H vs cs) (hn : vs.length = n) (R : Rel ⟨K, H, F, iosOf 0 vs cs⟩ F' sl σ H') : EndR K F H F' H' (iosOf 0 vs cs) (sl.take n) where
  ff := fun b o e => (R.f0 b (by show H b ≠ none; rw [s b o e]; intro z; cases z)).trans e
  sub := R.sub
  f0 := R.f0
  kp := R.kp
  out := fun i a hi => by
    obtain ⟨e1, d, e2⟩ := R.io i a hi
    obtain ⟨_, h1, _⟩ := ios_mem h 0 i a hi
    rw [Nat.sub_zero] at h1
    have hlt : i < n := by rw [← hn]; exact (List.getElem?_eq_some_iff.mp h1).1
    obtain ⟨b, q1, _, _, q4⟩ := R.cell i _ e2
    rw [e1] at q1
    cases q1
    exact ⟨d, by rw [List.getElem?_take_of_lt hlt]; exact e2, q4⟩
end

/-! ### statements -/
def SRP (c : Ctx) (W : WX) (F : Hp) (E : Ends) : SR → Prop
  | .nx sl => ∀ σ F' H', Same F F' → Rel c F' sl σ H' → E.nx σ H'
  | .bk sl => ∀ σ F' H', Same F F' → Rel c F' sl σ H' → E.bk σ H'
  | .ct sl => ∀ σ F' H', Same F F' → Rel c F' sl σ H' → E.ct σ H'
  | .rt t sl => ∀ v σ F' H', Same F F' → Rel c F' sl σ H' → TmOk c F' H' σ sl v t → E.rt v H'
  | .exc cn d sl => ∀ σ, ExcP c W σ cn d sl
  | .stuck => False
def tS (K : PySem.W.Frag) (W : WX) (f : SS) : TS := fun E σ H => At K σ H fun c F sl => SRP c W F E (f sl)
section
variable {P : Program} {w : World} {K : PySem.W.Frag} {mg : Str → Option Value} {base : Heap} {x qual : Str} {params : Arguments} {body : List Stmt} {scope : Scope} {dvs : List V} {kws : List (Str × V)} {f : Addr} {fd : FuncData}
/-- THE RULE for a def -/
theorem def_ok {Nm ps : List Str} {k n N : Nat} {sem : SS} (Fd : FunD K x qual params body scope dvs kws f fd) (S : FnScope Nm ps scope) (hn : ps.length = n) (hN : Nm.length = N) (hle : n ≤ N)
    (hb : ∀ (cdv : Value) (A : Around) (outer : List Env) (s : Shared) (H : Hp) (E : XK), Room k (A.deeper (envOfC qual scope s.heap.objs.size f cdv)) →
      PSs (cxOf (L2.CX P w) P w K mg base Nm qual scope f cdv A outer s H E) body (tS K (fun cls d _ H => E cls d H) sem)) : FnOk P w K mg base (L2.CX P w) (k + 1) f fd ps (spF K n (fnOf n N sem)) := by
  refine Fd.ok S (fun vs H Q E h => h.1.trans hn.symm) (fun cdv A outer s H vs Q E hr h => ⟨_, hb cdv A outer s H E hr, ?_⟩)
  obtain ⟨hl, F, cs, sF, hA, nd, q⟩ := h
  refine ⟨⟨K, H, F, iosOf 0 vs cs⟩, F, cs ++ List.replicate (Nm.length - n) .no, rfl, rel_start sF hA nd hl (by rw [hN]; exact hle), ?_⟩
  rw [hN]
  show SRP _ _ _ _ (sem (cs ++ List.replicate (N - n) Cell.no))
  unfold fnOf at q
  cases z : sem (cs ++ List.replicate (N - n) Cell.no) with
  | nx sl =>
    rw [z] at q
    exact fun σ F' H' s' R => q .non F' H' (rel_end sF hA hl R) den_non
  | rt t sl =>
    rw [z] at q
    intro v σ F' H' s' R t1
    cases t with
    | val d => exact q v F' H' (rel_end sF hA hl R) t1
    | own d =>
      obtain ⟨a, e1, e2, e3, e4, _⟩ := t1
      exact q v F' H' (rel_end sF hA hl R) ⟨a, e1, e2, e3, e4⟩
    | bor i =>
      dsimp only at q
      cases z2 : sl[i]? with
      | none => rw [z2] at q; exact q.elim
      | some cl =>
        rw [z2] at q
        cases cl with
        | own d =>
          obtain ⟨a, e1, e2, e3, e4⟩ := R.cell i _ z2
          have e5 : σ[i]? = some (some v) := t1.1
          rw [e5] at e1
          cases e1
          exact q _ F' H' (rel_end sF hA hl R) ⟨a, rfl, e2, e3, e4⟩
        | _ => exact q.elim
  | bk sl => rw [z] at q; exact q.elim
  | ct sl => rw [z] at q; exact q.elim
  | exc cn d sl =>
    rw [z] at q
    intro σ dd v F' H' R hd hv
    exact q dd v F' H' (rel_end sF hA hl R) hd hv
  | stuck => rw [z] at q; exact q.elim
end

/-! ### calls -/
/-- arguments: by value; the object of a slot -/
inductive AM where
  | v (f : EE) | b (f : EE)
def asL : List AM → Sl → Out (List Tm)
  | [], sl => .ok [] sl
  | .v f :: fs, sl => (vl f sl).bind fun d sl1 => (asL fs sl1).bind fun ts sl2 => .ok (.val d :: ts) sl2
  | .b f :: fs, sl => (f sl).bind fun t sl1 => match t with
    | .bor i => (asL fs sl1).bind fun ts sl2 => .ok (.bor i :: ts) sl2
    | _ => .stuck
def cellsOf (sl : Sl) : List Tm → Option (List Cell)
  | [] => some []
  | .val d :: ts => (cellsOf sl ts).map (.val d :: ·)
  | .bor i :: ts => match sl[i]? with
    | some (.own d) => (cellsOf sl ts).map (.io d :: ·)
    | some (.io d) => (cellsOf sl ts).map (.io d :: ·)
    | _ => none
  | .own _ :: _ => none
def bors : List Tm → List Nat
  | [] => []
  | .bor i :: ts => i :: bors ts
  | _ :: ts => bors ts
def putAll (sl : Sl) : List Tm → List Cell → Sl
  | .bor i :: ts, .io d :: cs => putAll (putSl sl i d) ts cs
  | _ :: ts, _ :: cs => putAll sl ts cs
  | _, _ => sl
def callR (g : FF) (dds : List D) (ts : List Tm) (sl : Sl) : Out Tm := match cellsOf sl ts with
  | none => .stuck
  | some cs => if (bors ts).Nodup then match g (cs ++ dds.map .val) with
    | .ok (.bor _) _ => .stuck
    | .ok t cs' => .ok t (putAll sl ts cs')
    | .exc cn d cs' => .exc cn d (putAll sl ts cs')
    | .stuck => .stuck
    else .stuck
def callE (g : FF) (dds : List D) (as : List AM) : EE := fun sl => (asL as sl).bind fun ts sl1 => callR g dds ts sl1
section
variable {X : Cx} {W : WX} {e : Expr} {c : Ctx} {F F' H H' : Hp} {σ : L2.St} {sl : Sl} {K : PySem.W.Frag} {a b : Expr} {fa fb : EE} {pos p : Pos}
theorem pa_nilA : PA X [] (tAs X.K W (asL [])) := pa_imp pa_nil fun σ H Q ⟨c, F, sl, ek, R, q⟩ => q [] F H (Same.refl F) R .nil
theorem pa_consV {es : List Expr} {f : EE} {fs : List AM} (ha : PE X e (tE X.K W f)) (hr : PA X es (tAs X.K W (asL fs))) (hs : starEach (e :: es) X.env = (false, eval e X.env) :: starEach es X.env := by rfl) : PA X (e :: es) (tAs X.K W (asL (.v f :: fs))) :=
  pa_imp (pa_cons (pe_vl ha) hr hs) fun σ H Q ⟨c, F, sl, ek, R, q⟩ => by
  refine ⟨c, F, sl, ek, R, (OutOk.bind q).imp fun d sl1 q1 v F1 H1 s1 R1 d1 => ⟨c, F1, sl1, ek, R1, (OutOk.bind q1).imp fun ts sl2 q2 vs F2 H2 s2 R2 d2 => ?_⟩⟩
  exact q2 (v :: vs) F2 H2 (Same.trans s1 s2) R2 (.cons (d1.mono s2) d2)
theorem pa_consB {es : List Expr} {f : EE} {fs : List AM} (ha : PE X e (tE X.K W f)) (hr : PA X es (tAs X.K W (asL fs))) (hs : starEach (e :: es) X.env = (false, eval e X.env) :: starEach es X.env := by rfl) : PA X (e :: es) (tAs X.K W (asL (.b f :: fs))) :=
  pa_imp (pa_cons ha hr hs) fun σ H Q ⟨c, F, sl, ek, R, q⟩ => by
  refine ⟨c, F, sl, ek, R, (OutOk.bind q).imp fun t sl1 q1 v F1 H1 s1 R1 t1 => ?_⟩
  cases t with
  | bor i =>
    refine ⟨c, F1, sl1, ek, R1, (OutOk.bind q1).imp fun ts sl2 q2 vs F2 H2 s2 R2 d2 => ?_⟩
    exact q2 (v :: vs) F2 H2 (Same.trans s1 s2) R2 (.cons t1.1 d2)
  | _ => exact q1.elim
/-- the relation with holes: objects that are about to be told anew -/
structure RelX (c : Ctx) (F : Hp) (sl : Sl) (σ : L2.St) (H : Hp) (hs : List Nat) : Prop where
  len : sl.length = σ.length
  sub : Same F H
  f0 : ∀ b, c.H0 b ≠ none → F b = c.F0 b
  kp : ∀ b o, c.H0 b = some o → (∀ i, (i, b) ∉ c.ios) → H b = some o
  cell : ∀ i cl, sl[i]? = some cl → i ∉ hs → CellOk c F H i σ[i]? cl
  hole : ∀ i cl, sl[i]? = some cl → i ∈ hs → match cl with
    | .own _ => ∃ a, σ[i]? = some (some (.ref a)) ∧ c.H0 a = none ∧ F a = none
    | .io _ => ∃ a, σ[i]? = some (some (.ref a)) ∧ (i, a) ∈ c.ios ∧ F a = none
    | _ => False
  sep : ∀ i j a, OwnA σ sl i a → OwnA σ sl j a → i = j
  io : ∀ i a, (i, a) ∈ c.ios → σ[i]? = some (some (.ref a)) ∧ ∃ d, sl[i]? = some (.io d)
theorem RelX.rel (R : RelX c F sl σ H []) : Rel c F sl σ H := ⟨R.len, R.sub, R.f0, R.kp, fun i cl e => R.cell i cl e (by simp), R.sep, R.io⟩
theorem putSl_len (sl : Sl) (i : Nat) (d : D) : (putSl sl i d).length = sl.length := by
  unfold putSl
  split
  · rw [List.length_set]
  · rfl
theorem putSl_get {i j : Nat} {d : D} {cl : Cell} (h : (putSl sl i d)[j]? = some cl) : (i = j ∧ ∃ cl0, sl[i]? = some cl0 ∧ cl = cl0.put d) ∨ (i ≠ j ∧ sl[j]? = some cl) := by
  unfold putSl at h
  split at h
  · rename_i cl0 e0
    rcases set_get h with ⟨z1, z2, _⟩ | ⟨z1, z2⟩
    · exact .inl ⟨z1, cl0, e0, z2⟩
    · exact .inr ⟨z1, z2⟩
  · rename_i e0
    by_cases z : i = j
    · subst z; rw [e0] at h; cases h
    · exact .inr ⟨z, h⟩
theorem putSl_own {i j : Nat} {d : D} : isOwn (putSl sl i d)[j]? = isOwn sl[j]? := by
  cases q : (putSl sl i d)[j]? with
  | none =>
    have : sl[j]? = none := by
      rw [List.getElem?_eq_none_iff] at q ⊢
      rw [putSl_len] at q; exact q
    rw [this]
  | some cl =>
    rcases putSl_get q with ⟨z1, cl0, z2, z3⟩ | ⟨_, z2⟩
    · subst z1; rw [z2, z3]; cases cl0 <;> rfl
    · rw [z2]
theorem RelX.fill {i : Nat} {hs : List Nat} {v : V} {ad : Addr} {d : D} (R : RelX c F sl σ H (i :: hs)) (hi : i ∉ hs) (hσ : σ[i]? = some (some (.ref ad))) (ho : ObjR c.K F H ad d) : RelX c F (putSl sl i d) σ H hs where
  len := by rw [putSl_len]; exact R.len
  sub := R.sub
  f0 := R.f0
  kp := R.kp
  cell := fun j cl e hj => by
    rcases putSl_get e with ⟨z1, cl0, z2, z3⟩ | ⟨z1, z2⟩
    · subst z1
      have h := R.hole i cl0 z2 List.mem_cons_self
      subst z3
      cases cl0 with
      | own d0 =>
        obtain ⟨b, e1, e2, e3⟩ := h
        rw [hσ] at e1; cases e1
        exact ⟨ad, hσ, e2, e3, ho⟩
      | io d0 =>
        obtain ⟨b, e1, e2, e3⟩ := h
        rw [hσ] at e1; cases e1
        exact ⟨ad, hσ, e2, e3, ho⟩
      | _ => exact h.elim
    · refine R.cell j cl z2 fun z => ?_
      rcases List.mem_cons.mp z with z | z
      · exact z1 z.symm
      · exact hj z
  hole := fun j cl e hj => by
    rcases putSl_get e with ⟨z1, _⟩ | ⟨z1, z2⟩
    · subst z1; exact (hi hj).elim
    · exact R.hole j cl z2 (List.mem_cons_of_mem _ hj)
  sep := fun j k b ⟨h1, h2⟩ ⟨h3, h4⟩ => R.sep j k b ⟨by rw [putSl_own] at h1; exact h1, h2⟩ ⟨by rw [putSl_own] at h3; exact h3, h4⟩
  io := fun j b h => by
    obtain ⟨e1, d0, e2⟩ := R.io j b h
    refine ⟨e1, ?_⟩
    by_cases z : i = j
    · subst z
      exact ⟨d, by unfold putSl; rw [e2]; rw [List.getElem?_set]; simp [(List.getElem?_eq_some_iff.mp e2).1, Cell.put]⟩
    · refine ⟨d0, ?_⟩
      unfold putSl
      split
      · rw [List.getElem?_set_ne z]; exact e2
      · exact e2
/-- arguments as they stand in the slots -/
inductive CA (K : PySem.W.Frag) (F : Hp) (sl : Sl) (σ : L2.St) : List Tm → List V → List Cell → Prop
  | nil : CA K F sl σ [] [] []
  | val {d : D} {v : V} {ts : List Tm} {vs : List V} {cs : List Cell} : Den K F v d → CA K F sl σ ts vs cs → CA K F sl σ (.val d :: ts) (v :: vs) (.val d :: cs)
  | bor {i : Nat} {ad : Addr} {d : D} {ts : List Tm} {vs : List V} {cs : List Cell} : (sl[i]? = some (.own d) ∨ sl[i]? = some (.io d)) → σ[i]? = some (some (.ref ad)) → CA K F sl σ ts vs cs → CA K F sl σ (.bor i :: ts) (.ref ad :: vs) (.io d :: cs)
theorem ca_of (R : Rel c F sl σ H) : ∀ {ts : List Tm} {vs : List V} {cs : List Cell}, ArgsOk c.K F σ vs ts → cellsOf sl ts = some cs → CA c.K F sl σ ts vs cs
  | [], _, _, .nil, h => by cases h; exact .nil
  | .val d :: ts, _, _, .cons r t, h => by
    have h' : (cellsOf sl ts).map (Cell.val d :: ·) = some _ := h
    cases z : cellsOf sl ts with
    | none => rw [z] at h'; cases h'
    | some cs => rw [z] at h'; cases h'; exact .val r (ca_of R t z)
  | .bor i :: ts, v :: vs, _, .cons r t, h => by
    have hr : σ[i]? = some (some v) := r
    unfold cellsOf at h
    cases z : sl[i]? with
    | none => rw [z] at h; cases h
    | some cl =>
      rw [z] at h
      have hc := R.cell i cl z
      cases cl with
      | own d =>
        obtain ⟨ad, e1, _⟩ := hc
        rw [hr] at e1; cases e1
        cases z2 : cellsOf sl ts with
        | none => rw [z2] at h; cases h
        | some cs => rw [z2] at h; cases h; exact .bor (.inl z) hr (ca_of R t z2)
      | io d =>
        obtain ⟨ad, e1, _⟩ := hc
        rw [hr] at e1; cases e1
        cases z2 : cellsOf sl ts with
        | none => rw [z2] at h; cases h
        | some cs => rw [z2] at h; cases h; exact .bor (.inr z) hr (ca_of R t z2)
      | _ => cases h
  | .own d :: ts, _, _, .cons r t, h => by cases h
theorem CA.own {ts : List Tm} {vs : List V} {cs : List Cell} (h : CA K F sl σ ts vs cs) : ∀ i ∈ bors ts, isOwn sl[i]? = true := by
  induction h with
  | nil => intro i h; cases h
  | val _ _ ih => exact ih
  | bor h1 h2 _ ih =>
    intro i h
    rcases List.mem_cons.mp h with e | h
    · subst e
      rcases h1 with h1 | h1 <;> (rw [h1]; rfl)
    · exact ih i h
theorem ca_ar (R : Rel c F sl σ H) {ts : List Tm} {vs : List V} {cs : List Cell} (h : CA c.K F sl σ ts vs cs) {dvs : List V} {dds : List D} (hd : DenAll c.K F dvs dds) : ArR c.K F H (vs ++ dvs) (cs ++ dds.map .val) := by
  induction h with
  | nil =>
    rw [List.nil_append, List.nil_append]
    induction hd with
    | nil => exact .nil
    | cons r _ ih => exact .val r ih
  | val h1 _ ih => exact .val h1 ih
  | @bor i ad d ts vs cs h1 h2 _ ih =>
    have hc : F ad = none ∧ ObjR c.K F H ad d := by
      rcases h1 with h1 | h1
      · obtain ⟨b, e1, _, e3, e4⟩ := R.cell i _ h1
        rw [h2] at e1; cases e1; exact ⟨e3, e4⟩
      · obtain ⟨b, e1, _, e3, e4⟩ := R.cell i _ h1
        rw [h2] at e1; cases e1; exact ⟨e3, e4⟩
    exact .io hc.1 hc.2 ih
theorem ios_vals : ∀ (n : Nat) (dvs : List V) (dds : List D), iosOf n dvs (dds.map .val) = []
  | _, [], [] => rfl
  | _, [], _ :: _ => rfl
  | _, v :: _, [] => by cases v <;> rfl
  | n, v :: vs, d :: ds => by
    have h := ios_vals (n + 1) vs ds
    cases v <;> (simp only [List.map_cons, iosOf]; exact h)
/-- where the objects of the slots stand among the arguments -/
theorem ca_ios {ts : List Tm} {vs : List V} {cs : List Cell} (h : CA K F sl σ ts vs cs) (dvs : List V) (dds : List D) : ∀ (n k : Nat) (ad : Addr), (k, ad) ∈ iosOf n (vs ++ dvs) (cs ++ dds.map .val) → ∃ i, i ∈ bors ts ∧ σ[i]? = some (some (.ref ad)) := by
  induction h with
  | nil => intro n k ad h; rw [List.nil_append, List.nil_append, ios_vals] at h; cases h
  | @val d v ts vs cs _ _ ih =>
    intro n k ad h
    have h' : (k, ad) ∈ iosOf (n + 1) (vs ++ dvs) (cs ++ dds.map Cell.val) := by cases v <;> exact h
    exact ih (n + 1) k ad h'
  | @bor i ad' d ts vs cs h1 h2 _ ih =>
    intro n k ad h
    have h' : (k, ad) ∈ (n, ad') :: iosOf (n + 1) (vs ++ dvs) (cs ++ dds.map Cell.val) := h
    rcases List.mem_cons.mp h' with e | h'
    · cases e
      exact ⟨i, List.mem_cons_self, h2⟩
    · obtain ⟨j, h3, h4⟩ := ih (n + 1) k ad h'
      exact ⟨j, List.mem_cons_of_mem _ h3, h4⟩
theorem ca_nodup (R : Rel c F sl σ H) {ts : List Tm} {vs : List V} {cs : List Cell} (h : CA c.K F sl σ ts vs cs) (dvs : List V) (dds : List D) (nd : (bors ts).Nodup) : ∀ n : Nat, ((iosOf n (vs ++ dvs) (cs ++ dds.map .val)).map (·.2)).Nodup := by
  induction h with
  | nil => intro n; rw [List.nil_append, List.nil_append, ios_vals]; exact List.nodup_nil
  | @val d v ts vs cs _ _ ih =>
    intro n
    have e : iosOf n (v :: vs ++ dvs) (Cell.val d :: cs ++ dds.map Cell.val) = iosOf (n + 1) (vs ++ dvs) (cs ++ dds.map Cell.val) := by cases v <;> rfl
    rw [e]
    exact ih nd (n + 1)
  | @bor i ad' d ts vs cs h1 h2 hr ih =>
    intro n
    have nd' : i ∉ bors ts ∧ (bors ts).Nodup := List.nodup_cons.mp nd
    show ((((n, ad') :: iosOf (n + 1) (vs ++ dvs) (cs ++ dds.map Cell.val))).map (·.2)).Nodup
    rw [List.map_cons, List.nodup_cons]
    refine ⟨fun hm => ?_, ih nd'.2 (n + 1)⟩
    obtain ⟨q, hq, e⟩ := List.mem_map.mp hm
    obtain ⟨k, ad⟩ := q
    dsimp only at e
    subst e
    obtain ⟨j, h3, h4⟩ := ca_ios hr dvs dds (n + 1) k ad hq
    have o1 : OwnA σ sl i ad := ⟨by rcases h1 with h1 | h1 <;> (rw [h1]; rfl), h2⟩
    have o2 : OwnA σ sl j ad := ⟨hr.own j h3, h4⟩
    rw [R.sep i j ad o1 o2] at nd'
    exact nd'.1 h3
theorem fillAll {sl0 : Sl} {ts : List Tm} {vs : List V} {cs : List Cell} (h : CA K F sl0 σ ts vs cs) (ek : c.K = K) (dvs : List V) (dds : List D) : ∀ (n : Nat) (sl1 : Sl) (cs1 : List Cell), (bors ts).Nodup → RelX c F' sl1 σ H' (bors ts) →
    (∀ k ad, (k, ad) ∈ iosOf n (vs ++ dvs) (cs ++ dds.map .val) → n ≤ k ∧ ∃ d', cs1[k - n]? = some (.io d') ∧ ObjR K F' H' ad d') → Rel c F' (putAll sl1 ts cs1) σ H' := by
  induction h with
  | nil => intro n sl1 cs1 nd R hq; unfold putAll; exact R.rel
  | @val d v ts vs cs _ _ ih =>
    intro n sl1 cs1 nd R hq
    have e : iosOf n (v :: vs ++ dvs) (Cell.val d :: cs ++ dds.map Cell.val) = iosOf (n + 1) (vs ++ dvs) (cs ++ dds.map Cell.val) := by cases v <;> rfl
    rw [e] at hq
    cases cs1 with
    | nil =>
      have R' := ih (n + 1) sl1 [] nd R (fun k ad hk => by obtain ⟨_, d', h2, _⟩ := hq k ad hk; simp at h2)
      have e2 : putAll sl1 ts [] = sl1 := by
        cases ts with
        | nil => rfl
        | cons t ts => cases t <;> rfl
      rw [e2] at R'
      exact R'
    | cons c1 cs1 =>
      refine ih (n + 1) sl1 cs1 nd R (fun k ad hk => ?_)
      obtain ⟨h1, d', h2, h3⟩ := hq k ad hk
      obtain ⟨h5, _⟩ : n + 1 ≤ k ∧ True := ⟨by
        by_cases z : k = n
        · exfalso
          subst z
          have : ∀ (m : Nat) (xs : List V) (ys : List Cell), (k, ad) ∈ iosOf m xs ys → m ≤ k := by
            intro m xs
            induction xs generalizing m with
            | nil => intro ys h; cases ys <;> cases h
            | cons x xs ihx =>
              intro ys h
              cases ys with
              | nil => cases x <;> cases h
              | cons y ys =>
                cases x with
                | ref b =>
                  cases y with
                  | io d0 =>
                    rcases List.mem_cons.mp h with e | h
                    · cases e; exact Nat.le_refl _
                    · exact Nat.le_of_succ_le (ihx (m + 1) ys h)
                  | _ => exact Nat.le_of_succ_le (ihx (m + 1) ys h)
                | _ => exact Nat.le_of_succ_le (ihx (m + 1) ys h)
          exact absurd (this (k + 1) _ _ hk) (by omega)
        · omega, trivial⟩
      refine ⟨h5, d', ?_, h3⟩
      have e3 : k - n = (k - (n + 1)) + 1 := by omega
      rw [e3] at h2
      exact h2
  | @bor i ad' d ts vs cs h1 h2 hr ih =>
    intro n sl1 cs1 nd R hq
    have nd' : i ∉ bors ts ∧ (bors ts).Nodup := List.nodup_cons.mp nd
    obtain ⟨_, d', q2, q3⟩ := hq n ad' List.mem_cons_self
    rw [Nat.sub_self] at q2
    cases cs1 with
    | nil => simp at q2
    | cons c1 cs1 =>
      have e1 : c1 = .io d' := by simpa using q2
      subst e1
      have R2 : RelX c F' (putSl sl1 i d') σ H' (bors ts) := RelX.fill (v := .non) R nd'.1 h2 (by rw [ek]; exact q3)
      refine ih (n + 1) (putSl sl1 i d') cs1 nd'.2 R2 (fun k ad hk => ?_)
      obtain ⟨h5, d2, h6, h7⟩ := hq k ad (List.mem_cons_of_mem _ hk)
      have h8 : n + 1 ≤ k := by
        by_cases z : k = n
        · exfalso
          subst z
          have : ∀ (m : Nat) (xs : List V) (ys : List Cell), (k, ad) ∈ iosOf m xs ys → m ≤ k := by
            intro m xs
            induction xs generalizing m with
            | nil => intro ys h; cases ys <;> cases h
            | cons x xs ihx =>
              intro ys h
              cases ys with
              | nil => cases x <;> cases h
              | cons y ys =>
                cases x with
                | ref b =>
                  cases y with
                  | io d0 =>
                    rcases List.mem_cons.mp h with e | h
                    · cases e; exact Nat.le_refl _
                    · exact Nat.le_of_succ_le (ihx (m + 1) ys h)
                  | _ => exact Nat.le_of_succ_le (ihx (m + 1) ys h)
                | _ => exact Nat.le_of_succ_le (ihx (m + 1) ys h)
          exact absurd (this (k + 1) _ _ hk) (by omega)
        · omega
      have e3 : k - n = (k - (n + 1)) + 1 := by omega
      rw [e3] at h6
      exact ⟨h8, d2, h6, h7⟩
/-- behind a call -/
theorem rel_after {ts : List Tm} {vs dvs : List V} {cs cs' : List Cell} {dds : List D} (R : Rel c F sl σ H) (h : CA c.K F sl σ ts vs cs) (nd : (bors ts).Nodup) (e : EndR c.K F H F' H' (iosOf 0 (vs ++ dvs) (cs ++ dds.map .val)) cs') : Rel c F' (putAll sl ts cs') σ H' := by
  refine fillAll h rfl dvs dds 0 sl cs' nd ⟨R.len, e.sub, fun b hb => (e.f0 b (R.there hb)).trans (R.f0 b hb), fun b o hb hn => ?_, fun i cl hi hni => ?_, fun i cl hi hin => ?_, R.sep, R.io⟩ fun k ad hk => ?_
  · refine e.kp b o (R.kp b o hb hn) fun k hk => ?_
    obtain ⟨i, h1, h2⟩ := ca_ios h dvs dds 0 k b hk
    obtain ⟨_, _, q⟩ := R.owned (i := i) (a := b) ⟨h.own i h1, h2⟩
    rcases q with q | q
    · rw [q] at hb; cases hb
    · exact hn i q
  · have hc := R.cell i cl hi
    have keep : ∀ ad, OwnA σ sl i ad → H' ad = H ad := fun ad ho => by
      obtain ⟨_, q2, _⟩ := R.owned ho
      cases z : H ad with
      | none => exact (q2 z).elim
      | some o =>
        refine e.kp ad o z fun k hk => ?_
        obtain ⟨j, h1, h2⟩ := ca_ios h dvs dds 0 k ad hk
        have := R.sep i j ad ho ⟨h.own j h1, h2⟩
        rw [this] at hni
        exact hni h1
    cases cl with
    | no => trivial
    | val d =>
      obtain ⟨v, e1, e2⟩ := hc
      exact ⟨v, e1, e2.mono e.ff⟩
    | own d =>
      obtain ⟨ad, e1, e2, e3, e4⟩ := hc
      exact ⟨ad, e1, e2, (e.f0 ad e4.some).trans e3, e4.mono e.ff (keep ad ⟨by rw [hi]; rfl, e1⟩)⟩
    | io d =>
      obtain ⟨ad, e1, e2, e3, e4⟩ := hc
      exact ⟨ad, e1, e2, (e.f0 ad e4.some).trans e3, e4.mono e.ff (keep ad ⟨by rw [hi]; rfl, e1⟩)⟩
  · have hc := R.cell i cl hi
    have ho := h.own i hin
    rw [hi] at ho
    cases cl with
    | no => cases ho
    | val d => cases ho
    | own d =>
      obtain ⟨ad, e1, e2, e3, e4⟩ := hc
      exact ⟨ad, e1, e2, (e.f0 ad e4.some).trans e3⟩
    | io d =>
      obtain ⟨ad, e1, e2, e3, e4⟩ := hc
      exact ⟨ad, e1, e2, (e.f0 ad e4.some).trans e3⟩
  · obtain ⟨d', h1, h2⟩ := e.out k ad hk
    exact ⟨Nat.zero_le _, d', by rw [Nat.sub_zero]; exact h1, h2⟩
theorem call_of {g : FF} {dds : List D} {dvs : List V} {n : Nat} {ts : List Tm} {vs : List V} {Q : VK} (hdd : DenAll c.K F dvs dds) (hn : vs.length + dvs.length = n) (R : Rel c F sl σ H) (ha : ArgsOk c.K F σ vs ts)
    (q : OutOk (callR g dds ts sl) (fun t sl' => ∀ v F' H', Same F F' → Rel c F' sl' σ H' → TmOk c F' H' σ sl' v t → Q v H') (ExcP c W σ)) : spF c.K n g (vs ++ dvs) H Q (WE W σ) := by
  unfold callR at q
  cases z : cellsOf sl ts with
  | none => rw [z] at q; exact q.elim
  | some cs =>
    rw [z] at q
    dsimp only at q
    split at q
    · rename_i nd
      have h := ca_of R ha z
      refine ⟨by rw [List.length_append]; exact hn, F, cs ++ dds.map .val, R.sub, ca_ar R h hdd, ca_nodup R h dvs dds nd 0, ?_⟩
      cases z2 : g (cs ++ dds.map Cell.val) with
      | ok t cs' =>
        rw [z2] at q
        intro v F' H' e rt
        have R' := rel_after R h nd e
        have own' : ∀ {ad : Addr}, H ad = none → ∀ i, ¬ OwnA σ (putAll sl ts cs') i ad := fun {ad} hz i ho => by
          have h1 : ∀ (sl1 : Sl) (ts : List Tm) (cs : List Cell) (i : Nat), isOwn (putAll sl1 ts cs)[i]? = isOwn sl1[i]? := by
            intro sl1 ts
            induction ts generalizing sl1 with
            | nil => intro cs i; cases cs <;> rfl
            | cons t ts ih =>
              intro cs i
              cases cs with
              | nil => cases t <;> rfl
              | cons c1 cs =>
                cases t with
                | bor j =>
                  cases c1 with
                  | io d => show isOwn (putAll (putSl sl1 j d) ts cs)[i]? = _; rw [ih, putSl_own]
                  | _ => exact ih sl1 cs i
                | _ => exact ih sl1 cs i
          have ho' : OwnA σ sl i ad := ⟨by rw [← h1 sl ts cs' i]; exact ho.1, ho.2⟩
          exact (R.owned ho').2.1 hz
        cases t with
        | val d => exact q v F' H' e.ff R' rt
        | own d =>
          obtain ⟨ad, e1, e2, e3, e4⟩ := rt
          exact q v F' H' e.ff R' ⟨ad, e1, R.notH0 e2, e3, e4, own' e2⟩
        | bor i => exact q.elim
      | exc cn d cs' =>
        rw [z2] at q
        intro dd v F' H' e hd hv
        exact q dd v F' H' (rel_after R h nd e) hd hv
      | stuck => rw [z2] at q; exact q.elim
    · exact q.elim
theorem asL_len {as : List AM} {sl : Sl} {P : List Tm → Sl → Prop} {Y : Str → D → Sl → Prop} : OutOk (asL as sl) P Y → OutOk (asL as sl) (fun ts sl' => P ts sl') Y := id
theorem args_len : ∀ {vs : List V} {ts : List Tm}, ArgsOk K F σ vs ts → vs.length = ts.length
  | _, _, .nil => rfl
  | _, _, .cons _ t => by rw [List.length_cons, List.length_cons, args_len t]
theorem OutOk.lenA {fs : List AM} {sl : Sl} {P : List Tm → Sl → Prop} {Y : Str → D → Sl → Prop} : OutOk (asL fs sl) P Y → OutOk (asL fs sl) (fun ds sl' => ds.length = fs.length ∧ P ds sl') Y := by
  induction fs generalizing sl P with
  | nil => exact fun h => ⟨rfl, h⟩
  | cons f fs ih =>
    intro h
    cases f with
    | v f =>
      have h0 : OutOk ((vl f sl).bind fun d sl1 => (asL fs sl1).bind fun ds sl2 => Out.ok (.val d :: ds) sl2) P Y := h
      have h1 := OutOk.bind h0
      unfold asL
      cases z : vl f sl with
      | ok d sl1 =>
        rw [z] at h1
        have h2 := ih (OutOk.bind h1)
        show OutOk ((asL fs sl1).bind fun ds sl2 => Out.ok (.val d :: ds) sl2) _ _
        cases z2 : asL fs sl1 with
        | ok ds sl2 =>
          rw [z2] at h2
          exact ⟨congrArg (· + 1) h2.1, h2.2⟩
        | exc cn d2 sl2 => rw [z2] at h2; exact h2
        | stuck => rw [z2] at h2; exact h2
      | exc cn d2 sl2 => rw [z] at h1; exact h1
      | stuck => rw [z] at h1; exact h1
    | b f =>
      unfold asL at h ⊢
      cases z : f sl with
      | ok t sl1 =>
        rw [z] at h
        cases t with
        | bor i =>
          have h1 : OutOk ((asL fs sl1).bind fun ds sl2 => Out.ok (.bor i :: ds) sl2) P Y := h
          have h2 := ih (OutOk.bind h1)
          show OutOk ((asL fs sl1).bind fun ds sl2 => Out.ok (.bor i :: ds) sl2) _ _
          cases z2 : asL fs sl1 with
          | ok ds sl2 =>
            rw [z2] at h2
            exact ⟨congrArg (· + 1) h2.1, h2.2⟩
          | exc cn d2 sl2 => rw [z2] at h2; exact h2
          | stuck => rw [z2] at h2; exact h2
        | _ => exact h.elim
      | exc cn d2 sl2 => rw [z] at h; exact h
      | stuck => rw [z] at h; exact h
/-- f(a, ..) -/
theorem pe_fn {x : Str} {k n : Nat} {f : Addr} {fd : FuncData} {ps : List Str} {g : FF} {es : List Expr} {as : List AM} {dvs : List V} {ds : List Value} {dds : List D} (Fn : FnOk X.prog X.w X.K X.mg X.base (L2.CX X.prog X.w) k f fd ps (spF X.K n g)) (hr : Room k X.A) (hg : Gl X x) (hm : X.mg x = some (.ref f)) (hk : PySem.W.keepIn X.K (.ref f) = true)
    (hb : Binds X.K fd ps ds) (hd : Vals dvs ds) (hdd : ∀ F, DenAll X.K F dvs dds) (tk : Takes X W) (ha : PA X (e :: es) (tAs X.K W (asL as))) (hn : as.length + dvs.length = n := by rfl) (hdb : (x == ("__debug__" : Str)) = false := by decide)
    (he : starEach (e :: es) X.env = (false, eval e X.env) :: starEach es X.env := by rfl) (hpl : (backTo pos (starEach es X.env)).any (·.1) = false := by rfl) : PE X (.Call (.Name x p) (e :: es) [] pos) (tE X.K W (callE g dds as)) :=
  pe_imp (pe_callSD Fn hr hg hm hk hb hd (fun σ => passAt tk σ) ha hdb he hpl) fun σ H Q ⟨c, F, sl, ek, R, q⟩ => by
  refine ⟨c, F, sl, ek, R, OutOk.imp (OutOk.lenA (OutOk.bind q)) fun ts sl1 ⟨hl, q1⟩ vs F1 H1 s1 R1 a1 => ?_⟩
  have z := call_of (g := g) (n := n) (Q := Q) (W := W) (c := c) (by rw [ek]; exact hdd F1) (by rw [args_len a1, hl]; exact hn) R1 a1 (OutOk.imp q1 fun t sl2 q2 v F2 H2 s2 R2 t2 => q2 v F2 H2 (Same.trans s1 s2) R2 t2)
  rw [ek] at z
  exact z
end
end Eng
set_option Elab.async false
set_option linter.all false
set_option maxRecDepth 100000
set_option maxHeartbeats 2000000
/-! THE ENGINE, 7: statements. -/
namespace Eng
open PySem L2 PyProof.Rows
/-! ### targets -/
abbrev TGf := D → Sl → Option Sl
def isIo : Option Cell → Bool
  | some (.io _) => true
  | _ => false
def cellT : Tm → Cell
  | .val d => .val d
  | .own d => .own d
  | .bor _ => .no
def setT (i : Nat) (t : Tm) (sl : Sl) : Option Sl := if isIo sl[i]? = true then none else some (sl.set i (cellT t))
/-- a slot's object becomes a value, anything else stays -/
def frzB (t : Tm) (sl : Sl) : Out Tm := match t with
  | .bor i => (frzT (.bor i) sl).bind fun d sl1 => .ok (.val d) sl1
  | t => .ok t sl
def toNx (o : Option Sl) : SR := match o with
  | some sl => .nx sl
  | none => .stuck
def doS {α : Type} (o : Out α) (k : α → Sl → SR) : SR := match o with
  | .ok a sl => k a sl
  | .exc cn d sl => .exc cn d sl
  | .stuck => .stuck
def tgN (i : Nat) : TGf := fun d sl => setT i (.val d) sl
def tgL : List TGf → List D → Sl → Option Sl
  | [], [], sl => some sl
  | g :: gs, d :: ds, sl => (g d sl).bind fun sl1 => tgL gs ds sl1
  | _, _, _ => none
def tgT (gs : List TGf) : TGf := fun d sl => match d with
  | .tuple ds => tgL gs ds sl
  | _ => none
def Agree (ns : List Nat) (σ σ' : L2.St) : Prop := σ'.length = σ.length ∧ ∀ j, j ∉ ns → σ'[j]? = σ[j]?
def tG (K : PySem.W.Frag) (ns : List Nat) (g : TGf) : TG := fun v σ H Q => ∃ c F sl d, c.K = K ∧ Rel c F sl σ H ∧ Den c.K F v d ∧ ∃ sl', g d sl = some sl' ∧ ∀ σ', Agree ns σ σ' → Rel c F sl' σ' H → Q σ' H
def tGs (K : PySem.W.Frag) (ns : List Nat) (g : List D → Sl → Option Sl) : TGs := fun vs σ H Q => ∃ c F sl ds, c.K = K ∧ Rel c F sl σ H ∧ DenAll c.K F vs ds ∧ ∃ sl', g ds sl = some sl' ∧ ∀ σ', Agree ns σ σ' → Rel c F sl' σ' H → Q σ' H
section
variable {X : Cx} {W : WX} {e : Expr} {c : Ctx} {F F' H H' : Hp} {σ : L2.St} {sl : Sl} {K : PySem.W.Frag} {a b : Expr} {fa fb : EE} {pos p : Pos}
theorem Agree.refl {ns : List Nat} : Agree ns σ σ := ⟨rfl, fun _ _ => rfl⟩
theorem Agree.set {i : Nat} {v : Option V} : Agree [i] σ (σ.set i v) := ⟨List.length_set, fun j hj => List.getElem?_set_ne fun z => hj (by rw [z]; exact List.mem_cons_self)⟩
theorem Agree.trans {ns ms : List Nat} {σ1 σ2 : L2.St} (h : Agree ns σ σ1) (h2 : Agree ms σ1 σ2) : Agree (ns ++ ms) σ σ2 := ⟨h2.1.trans h.1, fun j hj => (h2.2 j fun z => hj (List.mem_append_right _ z)).trans (h.2 j fun z => hj (List.mem_append_left _ z))⟩
theorem set_getO {i j : Nat} {l : L2.St} {x : Option V} (h : i < l.length) : (l.set i x)[j]? = if i = j then some x else l[j]? := by
  rw [List.getElem?_set]
  split
  · simp [h]
  · rfl
/-- a temporary is stored -/
theorem Rel.setTm (R : Rel c F sl σ H) {i : Nat} {v : V} {t : Tm} {sl' : Sl} (h : TmOk c F H σ sl v t) (nb : ∀ k, t ≠ .bor k) (q : setT i t sl = some sl') : Rel c F sl' (σ.set i (some v)) H := by
  unfold setT at q
  split at q
  · cases q
  · rename_i hio
    cases q
    by_cases hi : i < sl.length
    · have hi' : i < σ.length := by rw [← R.len]; exact hi
      have own1 : ∀ j ad, OwnA (σ.set i (some v)) (sl.set i (cellT t)) j ad → (i = j ∧ v = .ref ad ∧ ∃ d, t = .own d) ∨ (i ≠ j ∧ OwnA σ sl j ad) := fun j ad ⟨h1, h2⟩ => by
        rw [set_getO hi'] at h2
        by_cases z : i = j
        · subst z
          rw [if_pos rfl] at h2
          have e : v = .ref ad := by simpa using h2
          rw [List.getElem?_set] at h1
          simp [hi] at h1
          cases t with
          | val d => cases h1
          | own d => exact .inl ⟨rfl, e, d, rfl⟩
          | bor k => exact (nb k rfl).elim
        · rw [if_neg z] at h2
          rw [List.getElem?_set_ne z] at h1
          exact .inr ⟨z, h1, h2⟩
      refine ⟨by rw [List.length_set, List.length_set]; exact R.len, R.sub, R.f0, R.kp, fun j cl ej => ?_, fun j k ad o1 o2 => ?_, fun j ad hj => ?_⟩
      · rcases set_get ej with ⟨z1, z2, _⟩ | ⟨z1, z2⟩
        · subst z1; subst z2
          have e1 : (σ.set i (some v))[i]? = some (some v) := by rw [set_getO hi', if_pos rfl]
          cases t with
          | val d => exact ⟨v, e1, h⟩
          | own d =>
            obtain ⟨ad, rfl, q2, q3, q4, _⟩ := h
            exact ⟨ad, e1, q2, q3, q4⟩
          | bor k => exact (nb k rfl).elim
        · have hc := R.cell j cl z2
          have e1 : (σ.set i (some v))[j]? = σ[j]? := by rw [set_getO hi', if_neg z1]
          cases cl with
          | no => trivial
          | val d => obtain ⟨u, q1, q2⟩ := hc; exact ⟨u, e1.trans q1, q2⟩
          | own d => obtain ⟨ad, q1, q2⟩ := hc; exact ⟨ad, e1.trans q1, q2⟩
          | io d => obtain ⟨ad, q1, q2⟩ := hc; exact ⟨ad, e1.trans q1, q2⟩
      · rcases own1 j ad o1 with ⟨z1, e1, d, e2⟩ | ⟨z1, o1'⟩
        · rcases own1 k ad o2 with ⟨z2, _⟩ | ⟨z2, o2'⟩
          · exact z1.symm.trans z2
          · subst e2
            obtain ⟨ad', r1, _, _, _, r5⟩ := h
            rw [e1] at r1; cases r1
            exact (r5 k o2').elim
        · rcases own1 k ad o2 with ⟨z2, e1, d, e2⟩ | ⟨z2, o2'⟩
          · subst e2
            obtain ⟨ad', r1, _, _, _, r5⟩ := h
            rw [e1] at r1; cases r1
            exact (r5 j o1').elim
          · exact R.sep j k ad o1' o2'
      · obtain ⟨q1, d, q2⟩ := R.io j ad hj
        have z : i ≠ j := fun z => by subst z; rw [q2] at hio; exact hio rfl
        exact ⟨by rw [set_getO hi', if_neg z]; exact q1, d, by rw [List.getElem?_set_ne z]; exact q2⟩
    · have e1 : sl.set i (cellT t) = sl := List.set_eq_of_length_le (by omega)
      have e2 : σ.set i (some v) = σ := List.set_eq_of_length_le (by rw [← R.len]; omega)
      rw [e1, e2]
      exact R
theorem frzB_ok {t : Tm} {v : V} {P : Tm → Sl → Prop} {Y : Str → D → Sl → Prop} (R : Rel c F sl σ H) (h : TmOk c F H σ sl v t) (q : OutOk (frzB t sl) P Y) : ∃ F' t' sl', Same F F' ∧ Rel c F' sl' σ H ∧ TmOk c F' H σ sl' v t' ∧ (∀ k, t' ≠ .bor k) ∧ P t' sl' := by
  cases t with
  | val d => exact ⟨F, _, sl, Same.refl F, R, h, (fun k z => by cases z), q⟩
  | own d => exact ⟨F, _, sl, Same.refl F, R, h, (fun k z => by cases z), q⟩
  | bor i =>
    obtain ⟨F', d, sl', s, R', d', q'⟩ := frz_ok R h (OutOk.bind q)
    exact ⟨F', .val d, sl', s, R', d', (fun k z => by cases z), q'⟩
theorem pg_n {i : Nat} {x : Str} (h : PG X (.Name x p) (gName i)) : PG X (.Name x p) (tG X.K [i] (tgN i)) := ⟨fun pins s σ H v u Q I r ⟨c, F, sl, d, ek, R, hd, sl', e, q⟩ =>
  h.run pins s σ H v u Q I r (q _ Agree.set (R.setTm (t := .val d) hd (fun k z => by cases z) e))⟩
theorem pgs_n : PGs X [] (tGs X.K [] (tgL [])) := ⟨fun pins s σ H vs us Q I r ⟨c, F, sl, ds, ek, R, hd, sl', e, q⟩ => by
  cases hd with
  | nil =>
    cases e
    exact pgs_nil.run pins s σ H [] us Q I r ⟨rfl, q σ Agree.refl R⟩
  | cons _ _ => cases e⟩
theorem pgs_c {es : List Expr} {n1 n2 : List Nat} {g : TGf} {gs : List TGf} (h1 : PG X e (tG X.K n1 g)) (h2 : PGs X es (tGs X.K n2 (tgL gs)))
    (hs : (assignEach (e :: es) X.env).map (·.2) = assign e X.env :: (assignEach es X.env).map (·.2) := by rfl) : PGs X (e :: es) (tGs X.K (n1 ++ n2) (tgL (g :: gs))) := ⟨fun pins s σ H vs us Q I r ⟨c, F, sl, ds, ek, R, hd, sl', e, q⟩ => by
  refine (pgs_cons h1 h2 hs).run pins s σ H vs us Q I r ?_
  cases hd with
  | nil => cases e
  | @cons v d vs ds hd hds =>
    have e' : (g d sl).bind (fun sl1 => tgL gs ds sl1) = some sl' := e
    cases z : g d sl with
    | none => rw [z] at e'; cases e'
    | some sl1 =>
      rw [z] at e'
      exact ⟨v, vs, rfl, c, F, sl, d, ek, R, hd, sl1, z, fun σ1 a1 R1 => ⟨c, F, sl1, ds, ek, R1, hds, sl', e', fun σ2 a2 R2 => q σ2 (a1.trans a2) R2⟩⟩⟩
theorem tgL_len : ∀ {gs : List TGf} {ds : List D} {sl sl' : Sl}, tgL gs ds sl = some sl' → gs.length = ds.length
  | [], [], _, _, _ => rfl
  | [], _ :: _, _, _, h => by cases h
  | _ :: _, [], _, _, h => by cases h
  | g :: gs, d :: ds, sl, sl', h => by
    have h' : (g d sl).bind (fun sl1 => tgL gs ds sl1) = some sl' := h
    cases z : g d sl with
    | none => rw [z] at h'; cases h'
    | some sl1 => rw [z] at h'; exact congrArg (· + 1) (tgL_len h')
theorem denAll_of : ∀ {vs : List V} {ds : List D}, DpAll K F vs ds → DenAll K F vs ds
  | _, _, .nil => .nil
  | _, _, .cons r t => .cons r (denAll_of t)
theorem pg_t {es : List Expr} {k n : Nat} {ns : List Nat} {gs : List TGf} (hc : X.calm = true) (h : PGs X es (tGs X.K ns (tgL gs))) (hg : gs.length = n)
    (hn : (assignEach es X.env).length = n := by rfl) (hst : (assignEach es X.env).findIdx? (·.1) = none := by rfl) : PG X (.Tuple es k pos) (tG X.K ns (tgT gs)) := ⟨fun pins s σ H v u Q I r ⟨c, F, sl, d, ek, R, hd, sl', e, q⟩ => by
  refine (pg_tup hc h hn hst).run pins s σ H v u Q I r ?_
  cases d with
  | tuple ds =>
    obtain ⟨ad, xs, rfl, h1, h2⟩ := Den.tup hd
    have e' : tgL gs ds sl = some sl' := e
    exact ⟨ad, xs, rfl, by rw [← ek]; exact Same.sqT R.sub h1, by rw [dpAll_len h2, ← tgL_len e', hg], c, F, sl, ds, ek, R, denAll_of h2, sl', e', q⟩
  | _ => cases e⟩

/-! ### blocks -/
def seqS (f g : SS) : SS := fun sl => match f sl with
  | .nx sl1 => g sl1
  | r => r
def nxS : SS := fun sl => .nx sl
theorem SRP.mono {E : Ends} {r : SR} (s : Same F F') (h : SRP c W F E r) : SRP c W F' E r := by
  cases r with
  | nx sl => exact fun σ F2 H2 s2 R2 => h σ F2 H2 (Same.trans s s2) R2
  | bk sl => exact fun σ F2 H2 s2 R2 => h σ F2 H2 (Same.trans s s2) R2
  | ct sl => exact fun σ F2 H2 s2 R2 => h σ F2 H2 (Same.trans s s2) R2
  | rt t sl => exact fun v σ F2 H2 s2 R2 t2 => h v σ F2 H2 (Same.trans s s2) R2 t2
  | exc cn d sl => exact h
  | stuck => exact h
theorem SRP.seq {E : Ends} {f g : SS} (h : SRP c W F E (seqS f g sl)) (ek : c.K = K) : SRP c W F { E with nx := tS K W g E } (f sl) := by
  unfold seqS at h
  cases z : f sl with
  | nx sl1 =>
    rw [z] at h
    exact fun σ F2 H2 s2 R2 => ⟨c, F2, sl1, ek, R2, SRP.mono s2 h⟩
  | bk sl => rw [z] at h; exact h
  | ct sl => rw [z] at h; exact h
  | rt t sl => rw [z] at h; exact h
  | exc cn d sl => rw [z] at h; exact h
  | stuck => rw [z] at h; exact h
theorem ss_nil : PSs X [] (tS X.K W nxS) := pss_imp pss_nil fun E σ H ⟨c, F, sl, ek, R, q⟩ => q σ F H (Same.refl F) R
theorem ss_cons {st : Stmt} {rest : List Stmt} {f g : SS} (h1 : PS X st (tS X.K W f)) (h2 : PSs X rest (tS X.K W g)) : PSs X (st :: rest) (tS X.K W (seqS f g)) :=
  pss_imp (pss_cons h1 h2) fun E σ H ⟨c, F, sl, ek, R, q⟩ => ⟨c, F, sl, ek, R, SRP.seq q ek⟩
theorem ss_one {st : Stmt} {f : SS} (h1 : PS X st (tS X.K W f)) : PSs X [st] (tS X.K W f) := pss_one h1
theorem OutOk.srp {α : Type} {E : Ends} {o : Out α} {k : α → Sl → SR} (q : SRP c W F E (doS o k)) : OutOk o (fun a sl1 => SRP c W F E (k a sl1)) (ExcP c W σ) := by
  cases o with
  | ok a sl1 => exact q
  | exc cn d sl1 => exact q σ
  | stuck => exact q
/-- name = e -/
def asgS (i : Nat) (f : EE) : SS := fun sl => doS ((f sl).bind frzB) fun t sl1 => toNx (setT i t sl1)
theorem toNx_ok {E : Ends} {o : Option Sl} (q : SRP c W F E (toNx o)) : ∃ sl', o = some sl' ∧ ∀ σ F' H', Same F F' → Rel c F' sl' σ H' → E.nx σ H' := by
  cases o with
  | none => exact q.elim
  | some sl' => exact ⟨sl', rfl, q⟩
theorem tAsg_of {i : Nat} (E : Ends) (σ : L2.St) (H : Hp) (h : tS X.K W (asgS i fa) E σ H) : tAsg (tE X.K W fa) (gName i) E σ H := by
  obtain ⟨c, F, sl, ek, R, q⟩ := h
  refine ⟨c, F, sl, ek, R, (OutOk.bind (OutOk.srp q)).imp fun t sl1 q1 v F1 H1 s1 R1 t1 => ?_⟩
  obtain ⟨F2, t', sl2, s2, R2, t2, nb, q2⟩ := frzB_ok (Y := ExcP c W σ) R1 t1 q1
  obtain ⟨sl3, e3, q3⟩ := toNx_ok q2
  exact q3 _ F2 H1 (Same.trans s1 s2) (R2.setTm t2 nb e3)
theorem ss_set {i : Nat} {x : Str} {pos' : Pos} (hN : X.N.Nodup) (hi : X.N[i]? = some x) (hx : Loc X.env.scope x) (he : PE X e (tE X.K W fa)) (hs : swapsWith e (some (.Name x pos')) pos.line X.env = pure false := by rfl) (hf : X.fn x = true ∨ X.env.scope.names.lookup x = some .local := by first | exact .inl rfl | exact .inr rfl | assumption) :
    PS X (.Assign [.Name x pos'] e pos) (tS X.K W (asgS i fa)) := ps_imp (ps_set hN hi hx he hs hf) fun E σ H h => tAsg_of E σ H h
/-- target = e, a value -/
def asgT (g : TGf) (f : EE) : SS := fun sl => doS (vl f sl) fun d sl1 => toNx (g d sl1)
theorem ss_asg {tg : Expr} {ns : List Nat} {g : TGf} (he : PE X e (tE X.K W fa)) (hg : PG X tg (tG X.K ns g)) (hs : swapsWithSole [tg] e pos.line X.env = pure false := by rfl) (hw : swappedStores [tg] e X.env = pure none := by rfl) (h1 : (assignEach [tg] X.env).map (·.2) = [assign tg X.env] := by rfl) :
    PS X (.Assign [tg] e pos) (tS X.K W (asgT g fa)) := ps_imp (ps_asg (pe_vl he) hg hs hw h1) fun E σ H ⟨c, F, sl, ek, R, q⟩ => by
  refine ⟨c, F, sl, ek, R, (OutOk.srp q).imp fun d sl1 q1 v F1 H1 s1 R1 d1 => ?_⟩
  obtain ⟨sl3, e3, q3⟩ := toNx_ok q1
  exact ⟨c, F1, sl1, d, ek, R1, d1, sl3, e3, fun σ' _ R' => q3 σ' F1 H1 s1 R'⟩
/-- x, y = a, b: values -/
def parV (is : List Nat) (fs : List EE) : SS := fun sl => doS (vsL fs sl) fun ds sl1 => toNx (tgL (is.map tgN) ds sl1)
theorem ss_parV {i j : Nat} {x y : Str} {px py pt : Pos} {kt k2 : Nat} {pt2 : Pos} (hc : X.calm = true) (hN : X.N.Nodup) (hi : X.N[i]? = some x) (hj : X.N[j]? = some y) (hij : i ≠ j)
    (hx : X.env.scope.names.lookup x = some .local) (hy : X.env.scope.names.lookup y = some .local) (ha : PA X [a, b] (tVs X.K W (vsL [fa, fb])))
    (hw : swappedStores [.Tuple [.Name x px, .Name y py] kt pt] (.Tuple [a, b] k2 pt2) X.env = pure (some [x, y]))
    (hs : swapsWithSole [.Tuple [.Name x px, .Name y py] kt pt] (.Tuple [a, b] k2 pt2) pos.line X.env = pure false := by rfl) :
    PS X (.Assign [.Tuple [.Name x px, .Name y py] kt pt] (.Tuple [a, b] k2 pt2) pos) (tS X.K W (parV [i, j] [fa, fb])) :=
  ps_imp (ps_par hc hN hi hj hij hx hy ha hw hs) fun E σ H ⟨c, F, sl, ek, R, q⟩ => by
  refine ⟨c, F, sl, ek, R, (OutOk.srp q).imp fun ds sl1 q1 vs F1 H1 s1 R1 d1 => ?_⟩
  obtain ⟨sl3, e3, q3⟩ := toNx_ok q1
  cases d1 with
  | nil => cases e3
  | @cons v d vs ds h1 hr =>
    cases hr with
    | nil =>
      have e4 : (tgN i d sl1).bind (fun sl2 => tgL [tgN j] [] sl2) = some sl3 := e3
      cases z : tgN i d sl1 with
      | none => rw [z] at e4; cases e4
      | some sl2 => rw [z] at e4; cases e4
    | @cons u d2 us ds2 h2 hr2 =>
      have e4 : (tgN i d sl1).bind (fun sl2 => (tgN j d2 sl2).bind fun sl4 => tgL [] ds2 sl4) = some sl3 := e3
      cases z : tgN i d sl1 with
      | none => rw [z] at e4; cases e4
      | some sl2 =>
        rw [z] at e4
        have e5 : (tgN j d2 sl2).bind (fun sl4 => tgL [] ds2 sl4) = some sl3 := e4
        cases z2 : tgN j d2 sl2 with
        | none => rw [z2] at e5; cases e5
        | some sl4 =>
          rw [z2] at e5
          cases hr2 with
          | nil =>
            cases e5
            exact ⟨v, u, rfl, q3 _ F1 H1 s1 (Rel.setTm (t := .val d2) (Rel.setTm (t := .val d) R1 h1 (fun k z => by cases z) z) h2 (fun k z => by cases z) z2)⟩
          | cons _ _ => cases e5
theorem ss_parV3 {i j l : Nat} {x y z : Str} {a' : Expr} {fc : EE} {px py pz pt : Pos} {kt k2 : Nat} {pt2 : Pos} (hc : X.calm = true) (hN : X.N.Nodup) (hi : X.N[i]? = some x) (hj : X.N[j]? = some y) (hl : X.N[l]? = some z) (hij : i ≠ j) (hil : i ≠ l) (hjl : j ≠ l)
    (hx : X.env.scope.names.lookup x = some .local) (hy : X.env.scope.names.lookup y = some .local) (hz : X.env.scope.names.lookup z = some .local) (ha : PA X [a, b, a'] (tVs X.K W (vsL [fa, fb, fc])))
    (hw : swappedStores [.Tuple [.Name x px, .Name y py, .Name z pz] kt pt] (.Tuple [a, b, a'] k2 pt2) X.env = pure (some [x, y, z]))
    (hs : swapsWithSole [.Tuple [.Name x px, .Name y py, .Name z pz] kt pt] (.Tuple [a, b, a'] k2 pt2) pos.line X.env = pure false := by rfl) :
    PS X (.Assign [.Tuple [.Name x px, .Name y py, .Name z pz] kt pt] (.Tuple [a, b, a'] k2 pt2) pos) (tS X.K W (parV [i, j, l] [fa, fb, fc])) :=
  ps_imp (ps_par3 hc hN hi hj hl hij hil hjl hx hy hz ha hw hs) fun E σ H ⟨c, F, sl, ek, R, q⟩ => by
  refine ⟨c, F, sl, ek, R, (OutOk.srp q).imp fun ds sl1 q1 vs F1 H1 s1 R1 d1 => ?_⟩
  obtain ⟨sl3, e3, q3⟩ := toNx_ok q1
  have step : ∀ (k : Nat) (is : List Nat) (ds : List D) (sl1 : Sl), tgL ((k :: is).map tgN) ds sl1 = some sl3 → ∃ d ds', ds = d :: ds' ∧ ∃ sl2, tgN k d sl1 = some sl2 ∧ tgL (is.map tgN) ds' sl2 = some sl3 := fun k is ds sl1 h => by
    cases ds with
    | nil => cases h
    | cons d ds =>
      have h' : (tgN k d sl1).bind (fun sl2 => tgL (is.map tgN) ds sl2) = some sl3 := h
      cases z : tgN k d sl1 with
      | none => rw [z] at h'; cases h'
      | some sl2 => rw [z] at h'; exact ⟨d, ds, rfl, sl2, z, h'⟩
  obtain ⟨d1', ds1, rfl, sl2, g1, g2⟩ := step _ _ _ _ e3
  obtain ⟨d2', ds2, rfl, sl4, g3, g4⟩ := step _ _ _ _ g2
  obtain ⟨d3', ds3, rfl, sl5, g5, g6⟩ := step _ _ _ _ g4
  cases d1 with
  | @cons v1 _ vs1 _ h1 hr1 =>
    cases hr1 with
    | @cons v2 _ vs2 _ h2 hr2 =>
      cases hr2 with
      | @cons v3 _ vs3 _ h3 hr3 =>
        cases hr3 with
        | nil =>
          cases g6
          exact ⟨v1, v2, v3, rfl, q3 _ F1 H1 s1 (Rel.setTm (t := .val d3') (Rel.setTm (t := .val d2') (Rel.setTm (t := .val d1') R1 h1 (fun k z => by cases z) g1) h2 (fun k z => by cases z) g3) h3 (fun k z => by cases z) g5)⟩
        | cons _ _ => cases g6
/-- x, y = a, b: new objects -/
def noBor : Tm → Bool
  | .bor _ => false
  | _ => true
def parS (i j : Nat) (fa fb : EE) : SS := fun sl => doS (fa sl) fun t1 sl1 => doS (fb sl1) fun t2 sl2 => if (noBor t1 && noBor t2) = true then (match setT i t1 sl2 with
  | some sl3 => toNx (setT j t2 sl3)
  | none => .stuck) else .stuck
/-- a temporary over a further evaluation -/
theorem Rel.hold (R : Rel c F sl σ H) {v : V} {t : Tm} (h : TmOk c F H σ sl v t) (nb : ∀ k, t ≠ .bor k) : ∃ c', c'.K = c.K ∧ Rel c' F sl σ H ∧ (∀ {F' H' : Hp} {sl' : Sl} {σ' : L2.St}, Rel c' F' sl' σ' H' → Rel c F' sl' σ' H' ∧ (Same F F' → TmOk c F' H' σ' sl' v t)) ∧
    (∀ {F' H' : Hp} {sl' : Sl} {σ' : L2.St} {u : V} {t2 : Tm}, TmOk c' F' H' σ' sl' u t2 → TmOk c F' H' σ' sl' u t2 ∧ (∀ d d2, t = .own d → t2 = .own d2 → u ≠ v)) := by
  cases t with
  | val d => exact ⟨c, rfl, R, fun R' => ⟨R', fun s => Den.mono s h⟩, fun h2 => ⟨h2, fun _ _ z => by cases z⟩⟩
  | bor k => exact (nb k rfl).elim
  | own d =>
    obtain ⟨ad, rfl, e2, e3, e4, e5⟩ := h
    have hio : ∀ i, (i, ad) ∉ c.ios := fun i hi => by
      obtain ⟨q1, d', q2⟩ := R.io i ad hi
      exact e5 i ⟨by rw [q2]; rfl, q1⟩
    cases z : H ad with
    | none => exact (e4.some z).elim
    | some o =>
      refine ⟨c.pin ad o, rfl, R.pin z e3 e2 e5, fun {F' H' sl' σ'} R' => ?_, fun {F' H' sl' σ' u t2} h2 => ?_⟩
      · obtain ⟨r1, r2, r3, r4⟩ := R'.unpin e2 hio
        exact ⟨r1, fun s => ⟨ad, rfl, e2, r3, e4.mono s (r2.trans z.symm), r4⟩⟩
      · cases t2 with
        | val d2 => exact ⟨h2, fun _ _ _ z => by cases z⟩
        | bor k => exact ⟨h2, fun _ _ _ z => by cases z⟩
        | own d2 =>
          obtain ⟨ad2, rfl, q2, q3, q4, q5⟩ := h2
          have ne : ad2 ≠ ad := fun z => by
            subst z
            rw [show (c.pin ad2 o).H0 ad2 = some o from upd_same] at q2
            cases q2
          refine ⟨⟨ad2, rfl, ?_, q3, q4, q5⟩, fun _ _ _ _ z => ?_⟩
          · rw [show (c.pin ad o).H0 ad2 = c.H0 ad2 from upd_ne ne] at q2
            exact q2
          · cases z; exact ne rfl
theorem TmOk.setO {i : Nat} {u v : V} {t t2 : Tm} {sl' : Sl} (R : Rel c F sl σ H) (h : TmOk c F H σ sl u t2) (h1 : TmOk c F H σ sl v t) (nb : ∀ k, t2 ≠ .bor k) (nb1 : ∀ k, t ≠ .bor k) (ne : ∀ d d2, t = .own d → t2 = .own d2 → u ≠ v) (q : setT i t sl = some sl') : TmOk c F H (σ.set i (some v)) sl' u t2 := by
  unfold setT at q
  split at q
  · cases q
  · cases q
    cases t2 with
    | val d2 => exact h
    | bor k => exact (nb k rfl).elim
    | own d2 =>
      obtain ⟨ad, rfl, q2, q3, q4, q5⟩ := h
      refine ⟨ad, rfl, q2, q3, q4, fun j ⟨o1, o2⟩ => ?_⟩
      by_cases z : i = j
      · subst z
        by_cases hi : i < σ.length
        · rw [set_getO hi, if_pos rfl] at o2
          rw [List.getElem?_set] at o1
          have hi' : i < sl.length := by rw [R.len]; exact hi
          simp [hi'] at o1
          cases t with
          | val d => cases o1
          | own d => exact ne d d2 rfl rfl (by simpa using o2.symm)
          | bor k => exact nb1 k rfl
        · rw [List.getElem?_eq_none_iff.mpr (by rw [List.length_set]; omega)] at o2
          cases o2
      · rw [List.getElem?_set_ne z] at o2 o1
        exact q5 j ⟨o1, o2⟩
theorem noBor_ok {t : Tm} (h : noBor t = true) : ∀ k, t ≠ .bor k := fun k z => by rw [z] at h; cases h
theorem ss_par {i j : Nat} {x y : Str} {px py pt : Pos} {kt k2 : Nat} {pt2 : Pos} (hc : X.calm = true) (hN : X.N.Nodup) (hi : X.N[i]? = some x) (hj : X.N[j]? = some y) (hij : i ≠ j)
    (hx : X.env.scope.names.lookup x = some .local) (hy : X.env.scope.names.lookup y = some .local) (ha : PE X a (tE X.K W fa)) (hb : PE X b (tE X.K W fb))
    (hw : swappedStores [.Tuple [.Name x px, .Name y py] kt pt] (.Tuple [a, b] k2 pt2) X.env = pure (some [x, y]))
    (hs : swapsWithSole [.Tuple [.Name x px, .Name y py] kt pt] (.Tuple [a, b] k2 pt2) pos.line X.env = pure false := by rfl)
    (h1 : starEach [a, b] X.env = (false, eval a X.env) :: starEach [b] X.env := by rfl) (h2 : starEach [b] X.env = (false, eval b X.env) :: starEach [] X.env := by rfl) :
    PS X (.Assign [.Tuple [.Name x px, .Name y py] kt pt] (.Tuple [a, b] k2 pt2) pos) (tS X.K W (parS i j fa fb)) :=
  ps_imp (ps_par hc hN hi hj hij hx hy (pa_cons ha (pa_cons hb pa_nil h2) h1) hw hs) fun E σ H ⟨c, F, sl, ek, R, q⟩ => by
  refine ⟨c, F, sl, ek, R, (OutOk.srp q).imp fun t sl1 q1 v F1 H1 s1 R1 t1 => ?_⟩
  by_cases nb : noBor t = true
  · obtain ⟨c', ek', R1', back, own'⟩ := R1.hold t1 (noBor_ok nb)
    refine ⟨c', F1, sl1, ek'.trans ek, R1', ?_⟩
    show OutOk (fb sl1) _ _
    cases z : fb sl1 with
    | ok t2 sl2 =>
      rw [z] at q1
      intro u F2 H2 s2 R2' t2ok'
      obtain ⟨t2ok, ne⟩ := own' t2ok'
      obtain ⟨R2, t1f⟩ := back R2'
      refine ⟨v, u, rfl, ?_⟩
      have q2 : SRP c W F E (if (noBor t && noBor t2) = true then (match setT i t sl2 with
        | some sl3 => toNx (setT j t2 sl3)
        | none => .stuck) else .stuck) := q1
      split at q2
      · rename_i nb2
        rw [Bool.and_eq_true] at nb2
        cases z2 : setT i t sl2 with
        | none => rw [z2] at q2; exact q2.elim
        | some sl3 =>
          rw [z2] at q2
          obtain ⟨sl4, e4, q4⟩ := toNx_ok q2
          have R3 := R2.setTm (t1f s2) (noBor_ok nb) z2
          have t3 := TmOk.setO R2 t2ok (t1f s2) (noBor_ok nb2.2) (noBor_ok nb) ne z2
          exact q4 _ F2 H2 (Same.trans s1 s2) (R3.setTm t3 (noBor_ok nb2.2) e4)
      · exact q2.elim
    | exc cn d sl2 =>
      rw [z] at q1
      intro dd v' F' H' R' hd hv
      have q2 : ∀ σ, ExcP c W σ cn d sl2 := q1
      have := q2 σ dd v' F' H' (back R').1 hd (by rw [← ek']; exact hv)
      rw [ek'] 
      exact this
    | stuck => rw [z] at q1; exact q1.elim
  · cases t with
    | bor k =>
      have q2 : SRP c W F E (doS (fb sl1) fun t2 sl2 => SR.stuck) := by
        have : (fun t2 sl2 => if (noBor (Tm.bor k) && noBor t2) = true then (match setT i (Tm.bor k) sl2 with
          | some sl3 => toNx (setT j t2 sl3)
          | none => SR.stuck) else SR.stuck) = fun (t2 : Tm) (sl2 : Sl) => SR.stuck := by
          funext t2 sl2
          simp [noBor]
        rw [← this]
        exact q1
      refine ⟨c, F1, sl1, ek, R1, ?_⟩
      show OutOk (fb sl1) _ _
      cases z : fb sl1 with
      | ok t2 sl2 => rw [z] at q2; exact q2.elim
      | exc cn d sl2 => rw [z] at q2; exact q2 σ
      | stuck => rw [z] at q2; exact q2.elim
    | _ => exact (nb rfl).elim
end
end Eng
set_option Elab.async false
set_option linter.all false
set_option maxRecDepth 100000
set_option maxHeartbeats 2000000
/-! THE ENGINE, 8: return, if, loops, comprehensions, methods. -/
namespace Eng
open PySem L2 PyProof.Rows
/-! ### return, if, an expression alone -/
def retS (f : EE) : SS := fun sl => doS (f sl) fun t sl1 => .rt t sl1
def drpS (f : EE) : SS := fun sl => doS (f sl) fun _ sl1 => .nx sl1
def ifS (t : BB) (f g : SS) : SS := fun sl => doS (t sl) fun b sl1 => if b = true then f sl1 else g sl1
def brkS : SS := fun sl => .bk sl
def cntS : SS := fun sl => .ct sl
def stuS : SS := fun _ => .stuck
section
variable {X : Cx} {W : WX} {e : Expr} {c : Ctx} {F F' H H' : Hp} {σ : L2.St} {sl : Sl} {K : PySem.W.Frag} {a b : Expr} {fa fb : EE} {pos p : Pos}
theorem ss_ret (he : PE X e (tE X.K W fa)) : PS X (.Return (some e) pos) (tS X.K W (retS fa)) := ps_imp (ps_ret he) fun E σ H ⟨c, F, sl, ek, R, q⟩ =>
  ⟨c, F, sl, ek, R, (OutOk.srp q).imp fun t sl1 q1 v F1 H1 s1 R1 t1 => q1 v σ F1 H1 s1 R1 t1⟩
def retN : SS := fun sl => .rt (.val .none) sl
theorem ss_retN : PS X (.Return none pos) (tS X.K W retN) := ps_imp ps_retN fun E σ H ⟨c, F, sl, ek, R, q⟩ => q .non σ F H (Same.refl F) R den_non
theorem ss_expr (he : PE X e (tE X.K W fa)) (hs : swapsWith e none pos.line X.env = pure false := by rfl) : PS X (.Expr e pos) (tS X.K W (drpS fa)) := ps_imp (ps_expr he hs) fun E σ H ⟨c, F, sl, ek, R, q⟩ =>
  ⟨c, F, sl, ek, R, (OutOk.srp q).imp fun t sl1 q1 v F1 H1 s1 R1 t1 => q1 σ F1 H1 s1 R1⟩
theorem ss_if {t : Expr} {ft : BB} {as bs : List Stmt} {f g : SS} (ht : PT X t (tB X.K W ft)) (ha : PSs X as (tS X.K W f)) (hb : PSs X bs (tS X.K W g)) : PS X (.If t as bs pos) (tS X.K W (ifS ft f g)) :=
  ps_imp (ps_if ht ha hb) fun E σ H ⟨c, F, sl, ek, R, q⟩ => by
  refine ⟨c, F, sl, ek, R, (OutOk.srp q).imp fun b sl1 q1 F1 H1 s1 R1 => ?_⟩
  cases b with
  | true => exact ⟨c, F1, sl1, ek, R1, SRP.mono s1 q1⟩
  | false => exact ⟨c, F1, sl1, ek, R1, SRP.mono s1 q1⟩
theorem ss_brk : PS X (.Break pos) (tS X.K W brkS) := ps_imp ps_break fun E σ H ⟨c, F, sl, ek, R, q⟩ => q σ F H (Same.refl F) R
theorem ss_cnt : PS X (.Continue pos) (tS X.K W cntS) := ps_imp ps_continue fun E σ H ⟨c, F, sl, ek, R, q⟩ => q σ F H (Same.refl F) R
theorem ss_pass : PS X (.Pass pos) (tS X.K W nxS) := ps_imp ps_pass fun E σ H ⟨c, F, sl, ek, R, q⟩ => q σ F H (Same.refl F) R
/-- code that is never come to -/
theorem ss_stu {st : Stmt} : PS X st (tS X.K W stuS) := ps_imp ps_never fun E σ H ⟨c, F, sl, ek, R, q⟩ => q.elim

/-! ### loops -/
def YOk (K : PySem.W.Frag) (F : Hp) (H : Hp) (x : V) (H' : Hp) (d : D) : Prop := (H' = H ∧ Den K F x d) ∨ ∃ ad xs es, x = .ref ad ∧ H ad = none ∧ H' = upd H ad (.tup xs) ∧ d = .tuple es ∧ DpAll K F xs es
def WalkD (K : PySem.W.Frag) (F : Hp) (J : It) (ds : List D) : Prop := ∃ Y, Walk J ds.length (fun H => Same F H) Y ∧ ∀ i x H H' d, ds[i]? = some d → Same F H → Y i H x H' → YOk K F H x H' d
abbrev IT := Sl → Out (List D)
def tI (K : PySem.W.Frag) (W : WX) (f : IT) : TI := fun σ H R => At K σ H fun c F sl =>
  OutOk (f sl) (fun ds sl' => ∀ J F' H', Same F F' → Rel c F' sl' σ H' → WalkD c.K F' J ds → R J H') (ExcP c W σ)
theorem YOk.rel (R : Rel c F' sl σ H) (s : Same F F') {x : V} {d : D} (y : YOk c.K F H x H' d) : ∃ F2, Same F' F2 ∧ Rel c F2 sl σ H' ∧ Den c.K F2 x d := by
  rcases y with ⟨rfl, h⟩ | ⟨ad, xs, es, rfl, hn, rfl, rfl, h⟩
  · exact ⟨F', Same.refl F', R, h.mono s⟩
  · obtain ⟨f1, f2⟩ := R.newF hn (.tup xs)
    exact ⟨_, f1, f2, R.tmNewT hn (dpAll_mono s _ h)⟩
def forL (tg : TGf) (body : SS) : List D → Sl → SR
  | [], sl => .nx sl
  | d :: ds, sl => match tg d sl with
    | none => .stuck
    | some sl1 => match body sl1 with
      | .nx sl2 => forL tg body ds sl2
      | .ct sl2 => forL tg body ds sl2
      | .bk sl2 => .nx sl2
      | r => r
def forS (it : IT) (tg : TGf) (body : SS) : SS := fun sl => doS (it sl) fun ds sl1 => forL tg body ds sl1
theorem drop_cons {α : Type} {l : List α} {i : Nat} (h : i < l.length) : ∃ d, l[i]? = some d ∧ l.drop i = d :: l.drop (i + 1) := ⟨l[i], by simp [h], by rw [List.drop_eq_getElem_cons h]⟩
theorem ss_for {tg iter : Expr} {bs : List Stmt} {it : IT} {ns : List Nat} {g : TGf} {body : SS} (hp : PassesOwn (model X.prog X.w) X.A X.env X.xe) (hc : X.calm = true) (hi : PI X tg iter (tI X.K W it)) (hg : PG X tg (tG X.K ns g)) (hb : PSs X bs (tS X.K W body)) (hs : ∀ x, foldedSetIterable iter X.env x = pure x := by intro _; rfl) :
    PS X (.For tg iter bs [] pos) (tS X.K W (forS it g body)) := ps_imp (ps_for hp hc hi hg hb (hs := hs)) fun E σ H ⟨c, F, sl, ek, R, q⟩ => by
  refine ⟨c, F, sl, ek, R, (OutOk.srp q).imp fun ds sl1 q1 J F1 H1 s1 R1 ⟨Y, w, y⟩ => ?_⟩
  refine for_it w (fun i σ H => Same F1 H ∧ ∃ F' sl', Same F1 F' ∧ Rel c F' sl' σ H ∧ SRP c W F' E (forL g body (ds.drop i) sl')) ⟨R1.sub, F1, sl1, Same.refl F1, R1, by rw [List.drop_zero]; exact SRP.mono s1 q1⟩ (fun i σ H hi h => h.1) ?_ ?_
  · rintro i x σ H H' hi ⟨sH, F2, sl2, s2, R2, q2⟩ hy
    obtain ⟨d, e1, e2⟩ := drop_cons hi
    rw [e2] at q2
    unfold forL at q2
    obtain ⟨F3, s3, R3, d3⟩ := (y i x H H' d e1 sH hy).rel R2 s2
    cases z : g d sl2 with
    | none => rw [z] at q2; exact q2.elim
    | some sl3 =>
      rw [z] at q2
      dsimp only at q2
      refine ⟨c, F3, sl2, d, ek, R3, d3, sl3, z, fun σ' _ R4 => ⟨c, F3, sl3, ek, R4, ?_⟩⟩
      show SRP c W F3 _ (body sl3)
      have go : ∀ sl4, SRP c W F2 E (forL g body (ds.drop (i + 1)) sl4) → ∀ σ F' H', Same F3 F' → Rel c F' sl4 σ H' → Same F1 H' ∧ ∃ F' sl', Same F1 F' ∧ Rel c F' sl' σ H' ∧ SRP c W F' E (forL g body (ds.drop (i + 1)) sl') := fun sl4 q4 σ F' H' s4 R5 =>
        ⟨Same.trans (Same.trans (Same.trans s2 s3) s4) R5.sub, F', sl4, Same.trans (Same.trans s2 s3) s4, R5, SRP.mono (Same.trans s3 s4) q4⟩
      cases z2 : body sl3 with
      | nx sl4 => rw [z2] at q2; exact go sl4 q2
      | ct sl4 => rw [z2] at q2; exact go sl4 q2
      | bk sl4 => rw [z2] at q2; exact fun σ F' H' s4 R5 => q2 σ F' H' (Same.trans s3 s4) R5
      | rt t sl4 => rw [z2] at q2; exact fun v σ F' H' s4 R5 t5 => q2 v σ F' H' (Same.trans s3 s4) R5 t5
      | exc cn d sl4 => rw [z2] at q2; exact q2
      | stuck => rw [z2] at q2; exact q2
  · rintro σ H ⟨_, F2, sl2, s2, R2, q2⟩
    rw [List.drop_length] at q2
    exact q2 σ F2 H (Same.refl F2) R2
/-! while -/
def wIter (t : BB) (body : SS) : Nat → Sl → Option SR
  | 0, _ => none
  | n + 1, sl => match t sl with
    | .ok true sl1 => (match body sl1 with
      | .nx sl2 => wIter t body n sl2
      | .ct sl2 => wIter t body n sl2
      | .bk sl2 => some (.nx sl2)
      | r => some r)
    | .ok false sl1 => some (.nx sl1)
    | .exc cn d sl1 => some (.exc cn d sl1)
    | .stuck => some .stuck
theorem wIter_mono {t : BB} {body : SS} : ∀ {n : Nat} {sl : Sl} {r : SR}, wIter t body n sl = some r → wIter t body (n + 1) sl = some r
  | 0, _, _, h => by cases h
  | n + 1, sl, r, h => by
    unfold wIter at h ⊢
    split
    · rename_i sl1 e
      rw [e] at h
      dsimp only at h
      split
      · rename_i sl2 e2; rw [e2] at h; exact wIter_mono h
      · rename_i sl2 e2; rw [e2] at h; exact wIter_mono h
      · rename_i sl2 e2; rw [e2] at h; exact h
      · rename_i r' e2 e3 e4
        split at h
        · rename_i sl2 z; exact absurd z (e2 sl2)
        · rename_i sl2 z; exact absurd z (e3 sl2)
        · rename_i sl2 z; exact absurd z (e4 sl2)
        · exact h
    · rename_i sl1 e; rw [e] at h; exact h
    · rename_i e; rw [e] at h; exact h
    · rename_i e; rw [e] at h; exact h
theorem wIter_le {t : BB} {body : SS} {n m : Nat} {sl : Sl} {r : SR} (h : wIter t body n sl = some r) (hm : n ≤ m) : wIter t body m sl = some r := by
  induction hm with
  | refl => exact h
  | step _ ih => exact wIter_mono ih
theorem wIter_one {t : BB} {body : SS} {n m : Nat} {sl : Sl} {r r' : SR} (h : wIter t body n sl = some r) (h' : wIter t body m sl = some r') : r = r' := by
  have h1 := wIter_le h (Nat.le_max_left n m)
  have h2 := wIter_le h' (Nat.le_max_right n m)
  rw [h1] at h2
  exact Option.some.inj h2
open Classical in
noncomputable def whS (t : BB) (body : SS) : SS := fun sl => if h : ∃ r n, wIter t body n sl = some r then Classical.choose h else .stuck
theorem whS_of {t : BB} {body : SS} {n : Nat} {sl : Sl} {r : SR} (h : wIter t body n sl = some r) : whS t body sl = r := by
  have hx : ∃ r n, wIter t body n sl = some r := ⟨r, n, h⟩
  unfold whS
  rw [dif_pos hx]
  obtain ⟨m, hm⟩ := Classical.choose_spec hx
  exact wIter_one hm h
theorem whS_get {t : BB} {body : SS} {sl : Sl} : (∃ n, wIter t body n sl = some (whS t body sl)) ∨ whS t body sl = .stuck := by
  by_cases hx : ∃ r n, wIter t body n sl = some r
  · left
    obtain ⟨r, n, h⟩ := hx
    exact ⟨n, by rw [whS_of h]; exact h⟩
  · right
    unfold whS
    rw [dif_neg hx]
/-- one turn -/
theorem whS_eq {t : BB} {body : SS} {sl : Sl} : whS t body sl = match t sl with
    | .ok true sl1 => (match body sl1 with
      | .nx sl2 => whS t body sl2
      | .ct sl2 => whS t body sl2
      | .bk sl2 => .nx sl2
      | r => r)
    | .ok false sl1 => .nx sl1
    | .exc cn d sl1 => .exc cn d sl1
    | .stuck => .stuck := by
  split
  · rename_i sl1 e
    split
    · rename_i sl2 e2
      rcases whS_get (t := t) (body := body) (sl := sl2) with ⟨n, h⟩ | h
      · refine whS_of (n := n + 1) ?_
        unfold wIter; rw [e]; dsimp only; rw [e2]; exact h
      · rcases whS_get (t := t) (body := body) (sl := sl) with ⟨n, h'⟩ | h'
        · cases n with
          | zero => cases h'
          | succ n =>
            unfold wIter at h'; rw [e] at h'; dsimp only at h'; rw [e2] at h'
            exact (whS_of h').symm
        · rw [h, h']
    · rename_i sl2 e2
      rcases whS_get (t := t) (body := body) (sl := sl2) with ⟨n, h⟩ | h
      · refine whS_of (n := n + 1) ?_
        unfold wIter; rw [e]; dsimp only; rw [e2]; exact h
      · rcases whS_get (t := t) (body := body) (sl := sl) with ⟨n, h'⟩ | h'
        · cases n with
          | zero => cases h'
          | succ n =>
            unfold wIter at h'; rw [e] at h'; dsimp only at h'; rw [e2] at h'
            exact (whS_of h').symm
        · rw [h, h']
    · rename_i sl2 e2
      refine whS_of (n := 1) ?_
      unfold wIter; rw [e]; dsimp only; rw [e2]
    · rename_i r e2 e3 e4
      refine whS_of (n := 1) ?_
      unfold wIter; rw [e]; dsimp only
      split
      · rename_i sl2 z; exact absurd z (e2 sl2)
      · rename_i sl2 z; exact absurd z (e3 sl2)
      · rename_i sl2 z; exact absurd z (e4 sl2)
      · rfl
  · rename_i sl1 e
    refine whS_of (n := 1) ?_
    unfold wIter; rw [e]
  · rename_i cn d sl1 e
    refine whS_of (n := 1) ?_
    unfold wIter; rw [e]
  · rename_i e
    refine whS_of (n := 1) ?_
    unfold wIter; rw [e]
theorem ss_while {t : Expr} {bs : List Stmt} {ft : BB} {body : SS} (hp : PassesOwn (model X.prog X.w) X.A X.env X.xe) (ht : PT X t (tB X.K W ft)) (hb : PSs X bs (tS X.K W body)) : PS X (.While t bs [] pos) (tS X.K W (whS ft body)) :=
  ps_imp (ps_while hp ht hb) fun E σ H ⟨c, F, sl, ek, R, q⟩ => by
  rcases whS_get (t := ft) (body := body) (sl := sl) with ⟨n0, h0⟩ | h0
  · refine ⟨fun m σ H => ∃ F' sl' r, Rel c F' sl' σ H ∧ wIter ft body m sl' = some r ∧ SRP c W F' E r, ⟨n0, F, sl, _, R, h0, q⟩, ?_⟩
    rintro m σ H ⟨F1, sl1, r, R1, h1, q1⟩
    cases m with
    | zero => cases h1
    | succ m =>
      unfold wIter at h1
      refine ⟨c, F1, sl1, ek, R1, ?_⟩
      show OutOk (ft sl1) _ _
      cases z : ft sl1 with
      | ok bb sl2 =>
        rw [z] at h1
        intro F2 H2 s2 R2
        cases bb with
        | true =>
          dsimp only at h1
          refine ⟨fun σ' H' => ∃ m', m' < m + 1 ∧ ∃ F' sl' r, Rel c F' sl' σ' H' ∧ wIter ft body m' sl' = some r ∧ SRP c W F' E r, fun _ _ h => h, c, F2, sl2, ek, R2, ?_⟩
          show SRP c W F2 _ (body sl2)
          cases z2 : body sl2 with
          | nx sl3 => rw [z2] at h1; exact fun σ F3 H3 s3 R3 => ⟨m, Nat.lt_succ_self m, F3, sl3, r, R3, h1, SRP.mono (Same.trans s2 s3) q1⟩
          | ct sl3 => rw [z2] at h1; exact fun σ F3 H3 s3 R3 => ⟨m, Nat.lt_succ_self m, F3, sl3, r, R3, h1, SRP.mono (Same.trans s2 s3) q1⟩
          | bk sl3 => rw [z2] at h1; cases h1; exact fun σ F3 H3 s3 R3 => q1 σ F3 H3 (Same.trans s2 s3) R3
          | rt t sl3 => rw [z2] at h1; cases h1; exact fun v σ F3 H3 s3 R3 t3 => q1 v σ F3 H3 (Same.trans s2 s3) R3 t3
          | exc cn d sl3 => rw [z2] at h1; cases h1; exact q1
          | stuck => rw [z2] at h1; cases h1; exact q1
        | false => cases h1; exact q1 σ F2 H2 s2 R2
      | exc cn d sl2 => rw [z] at h1; cases h1; exact q1 σ
      | stuck => rw [z] at h1; cases h1; exact q1
  · dsimp only at q
    rw [h0] at q
    exact q.elim

/-! ### iterators -/
/-- a list or a tuple -/
def seqI (f : EE) : IT := fun sl => (vl f sl).bind fun d sl1 => match d with
  | .list ds => .ok ds sl1
  | .tuple ds => .ok ds sl1
  | _ => .stuck
/-- a list | a tuple alone -/
def lstI (f : EE) : IT := fun sl => (vl f sl).bind fun d sl1 => match d with
  | .list ds => .ok ds sl1
  | _ => .stuck
def tupI (f : EE) : IT := fun sl => (vl f sl).bind fun d sl1 => match d with
  | .tuple ds => .ok ds sl1
  | _ => .stuck
theorem pi_imp {tg iter : Expr} {t t' : TI} (h : PI X tg iter t) (i : ∀ σ H Q, t' σ H Q → t σ H Q) : PI X tg iter t' := ⟨fun pins s σ H Q I q => h.run pins s σ H Q I (i σ H Q q)⟩
theorem walkL {ad : Addr} {xs : List V} {ds : List D} (hs : SqL K F ad xs) (hd : DpAll K F xs ds) : WalkD K F (Itl K ad) ds := by
  refine ⟨YAt xs, ?_, fun i x H H' d e s y => ?_⟩
  · have w := (walk_list (K := K) (a := ad) (xs := xs)).mono (G' := fun H => Same F H) (Y' := YAt xs) (fun H s => Same.seq s hs) fun _ _ _ _ _ _ y => y
    rw [dpAll_len hd] at w
    exact w
  · obtain ⟨v, e1, e2⟩ := dpAll_get hd e
    obtain ⟨y1, y2⟩ := y
    rw [e1] at y2; cases y2
    exact .inl ⟨y1, e2⟩
theorem walkT {ad : Addr} {xs : List V} {ds : List D} (hs : SqT K F ad xs) (hd : DpAll K F xs ds) : WalkD K F (Itt K ad) ds := by
  refine ⟨YAt xs, ?_, fun i x H H' d e s y => ?_⟩
  · have w := (walk_tup (K := K) (a := ad) (xs := xs)).mono (G' := fun H => Same F H) (Y' := YAt xs) (fun H s => Same.sqT s hs) fun _ _ _ _ _ _ y => y
    rw [dpAll_len hd] at w
    exact w
  · obtain ⟨v, e1, e2⟩ := dpAll_get hd e
    obtain ⟨y1, y2⟩ := y
    rw [e1] at y2; cases y2
    exact .inl ⟨y1, e2⟩
theorem pi_lstI {tg : Expr} (h : PE X e (tE X.K W fa)) : PI X tg e (tI X.K W (lstI fa)) := pi_imp (pi_list (pe_vl h)) fun σ H Q ⟨c, F, sl, ek, R, q⟩ => by
  refine ⟨c, F, sl, ek, R, (OutOk.bind q).imp fun d sl1 q1 v F1 H1 s1 R1 d1 => ?_⟩
  cases d with
  | list ds =>
    obtain ⟨ad, xs, rfl, h1, h2⟩ := Den.lst d1
    exact ⟨ad, rfl, ⟨xs, by rw [← ek]; exact Same.seq R1.sub h1⟩, q1 _ F1 H1 s1 R1 (by rw [← ek]; exact walkL h1 h2)⟩
  | _ => exact q1.elim
theorem pi_tupI {tg : Expr} (h : PE X e (tE X.K W fa)) : PI X tg e (tI X.K W (tupI fa)) := pi_imp (pi_tup (pe_vl h)) fun σ H Q ⟨c, F, sl, ek, R, q⟩ => by
  refine ⟨c, F, sl, ek, R, (OutOk.bind q).imp fun d sl1 q1 v F1 H1 s1 R1 d1 => ?_⟩
  cases d with
  | tuple ds =>
    obtain ⟨ad, xs, rfl, h1, h2⟩ := Den.tup d1
    exact ⟨ad, rfl, ⟨xs, by rw [← ek]; exact Same.sqT R1.sub h1⟩, q1 _ F1 H1 s1 R1 (by rw [← ek]; exact walkT h1 h2)⟩
  | _ => exact q1.elim
/-- range -/
def BIG : Int := 4611686018427387904
def rng (lo : Int) (n : Nat) : List D := (List.range n).map fun i => .int (lo + (i : Nat))
def rngI1 (f : EE) : IT := fun sl => (vl f sl).bind fun d sl1 => match d with
  | .int j => if -4611686018427387904 ≤ j ∧ j < 4611686018427387904 then .ok (rng 0 j.toNat) sl1 else .stuck
  | _ => .stuck
def rngI2 (f g : EE) : IT := fun sl => (vl f sl).bind fun d sl1 => (vl g sl1).bind fun d2 sl2 => match d, d2 with
  | .int i, .int j => if -4611686018427387904 ≤ i ∧ i < 4611686018427387904 ∧ -4611686018427387904 ≤ j ∧ j < 4611686018427387904 then .ok (rng i (j - i).toNat) sl2 else .stuck
  | _, _ => .stuck
theorem rng_len (lo : Int) (n : Nat) : (rng lo n).length = n := by unfold rng; simp
theorem walkR {lo : Int} {n : Nat} : WalkD K F (Itr lo n) (rng lo n) := by
  refine ⟨YFn fun i => .int (lo + (i : Nat)), ?_, fun i x H H' d e s y => ?_⟩
  · rw [rng_len]
    exact (walk_range (lo := lo) (n := n)).mono (fun _ _ => trivial) fun _ _ _ _ _ _ y => y
  · obtain ⟨y1, y2⟩ := y
    unfold rng at e
    rw [List.getElem?_map] at e
    cases z : (List.range n)[i]? with
    | none => rw [z] at e; cases e
    | some k =>
      rw [z] at e
      have hk : k = i := by
        have := List.getElem?_eq_some_iff.mp z
        obtain ⟨h1, h2⟩ := this
        simpa using h2.symm
      subst hk
      cases e
      exact .inl ⟨y1, by rw [y2]; exact den_int _⟩
theorem big_eq : (2 : Int) ^ 62 = 4611686018427387904 := by decide
theorem pi_rng1 {tg : Expr} (hg : Gl X "range") (hm : X.mg "range" = none) (h : PE X a (tE X.K W fa)) (hs : starEach [a] X.env = [(false, eval a X.env)] := by rfl) : PI X tg (.Call (.Name "range" p) [a] [] pos) (tI X.K W (rngI1 fa)) :=
  pi_imp (pi_range1 hg hm (pa_cons (pe_vl h) pa_nil hs) hs) fun σ H Q ⟨c, F, sl, ek, R, q⟩ => by
  refine ⟨c, F, sl, ek, R, (OutOk.bind q).imp fun d sl1 q1 v F1 H1 s1 R1 d1 => ?_⟩
  cases d with
  | int j =>
    dsimp only at q1
    split at q1
    · rename_i hj
      exact ⟨j, by rw [Den.int d1], by rw [big_eq]; exact hj.1, by rw [big_eq]; exact hj.2, q1 _ F1 H1 s1 R1 walkR⟩
    · exact q1.elim
  | _ => exact q1.elim
theorem pi_rng2 {tg : Expr} (hg : Gl X "range") (hm : X.mg "range" = none) (h : PE X a (tE X.K W fa)) (h' : PE X b (tE X.K W fb)) (hs : starEach [a, b] X.env = [(false, eval a X.env), (false, eval b X.env)] := by rfl) (hs2 : starEach [b] X.env = [(false, eval b X.env)] := by rfl) :
    PI X tg (.Call (.Name "range" p) [a, b] [] pos) (tI X.K W (rngI2 fa fb)) :=
  pi_imp (pi_range2 hg hm (pa_cons (pe_vl h) (pa_cons (pe_vl h') pa_nil hs2) (by rw [hs, hs2])) hs hs2) fun σ H Q ⟨c, F, sl, ek, R, q⟩ => by
  refine ⟨c, F, sl, ek, R, (OutOk.bind q).imp fun d sl1 q1 v F1 H1 s1 R1 d1 => ⟨c, F1, sl1, ek, R1, (OutOk.bind q1).imp fun d2 sl2 q2 u F2 H2 s2 R2 d2' => ?_⟩⟩
  cases d with
  | int i =>
    cases d2 with
    | int j =>
      dsimp only at q2
      split at q2
      · rename_i hj
        exact ⟨i, j, by rw [Den.int d1, Den.int d2'], by rw [big_eq]; exact hj, q2 _ F2 H2 (Same.trans s1 s2) R2 walkR⟩
      · exact q2.elim
    | _ => exact q2.elim
  | _ => exact q2.elim
end
end Eng
set_option Elab.async false
set_option linter.all false
set_option maxRecDepth 100000
set_option maxHeartbeats 2000000
/-! THE ENGINE, 9: comprehensions. -/
namespace Eng
open PySem L2 PyProof.Rows
abbrev WF : WX := fun _ _ _ _ => False
def wipeS (sl : Sl) : List Nat → Sl
  | [] => sl
  | v :: vs => (wipeS sl vs).set v .no
def restS (sl0 sl : Sl) : List Nat → Sl
  | [] => sl
  | v :: vs => (restS sl0 sl vs).set v (sl0.getD v .no)
def plainC : Option Cell → Bool
  | some (.own _) => false
  | some (.io _) => false
  | _ => true
def okW (sl : Sl) (vs : List Nat) : Bool := vs.all fun v => plainC sl[v]?
def lcL (tg : TGf) (cond : BB) (elt : EE) (vs : List Nat) : List D → List D → Sl → Out (List D)
  | [], acc, sl => .ok acc sl
  | d :: ds, acc, sl => match tg d sl with
    | none => .stuck
    | some sl1 => match cond sl1 with
      | .ok true sl2 => (match vl elt sl2 with
        | .ok y sl3 => if okW sl3 vs = true ∧ acc.length < LINE then lcL tg cond elt vs ds (acc ++ [y]) (wipeS sl3 vs) else .stuck
        | _ => .stuck)
      | .ok false sl2 => if okW sl2 vs = true then lcL tg cond elt vs ds acc (wipeS sl2 vs) else .stuck
      | _ => .stuck
def lcE (it : IT) (vs : List Nat) (tg : TGf) (cond : BB) (elt : EE) : EE := fun sl => (it sl).bind fun ds sl1 => if okW sl1 vs = true then (match lcL tg cond elt vs ds [] (wipeS sl1 vs) with
  | .ok acc sl2 => .ok (.own (.list acc)) (restS sl1 sl2 vs)
  | _ => .stuck) else .stuck
def yesB : BB := fun sl => .ok true sl
section
variable {X : Cx} {W : WX} {e : Expr} {c : Ctx} {F F' H H' : Hp} {σ : L2.St} {sl sl0 : Sl} {K : PySem.W.Frag} {a b : Expr} {fa fb : EE} {pos p : Pos} {vs : List Nat}
theorem wipeS_len : ∀ vs : List Nat, (wipeS sl vs).length = sl.length
  | [] => rfl
  | v :: vs => by unfold wipeS; rw [List.length_set]; exact wipeS_len vs
theorem restS_len : ∀ vs : List Nat, (restS sl0 sl vs).length = sl.length
  | [] => rfl
  | v :: vs => by unfold restS; rw [List.length_set]; exact restS_len vs
theorem wipeS_get {j : Nat} : ∀ {vs : List Nat}, (wipeS sl vs)[j]? = if j ∈ vs ∧ j < sl.length then some .no else sl[j]?
  | [] => by simp [wipeS]
  | v :: vs => by
    unfold wipeS
    rw [List.getElem?_set, wipeS_len, wipeS_get]
    by_cases z : v = j
    · subst z
      by_cases hl : v < sl.length
      · simp [hl]
      · simp [hl]
    · rw [if_neg z]
      by_cases hm : j ∈ vs
      · simp [hm]
      · have : ¬ j = v := fun e => z e.symm
        simp [hm, this]
theorem wipe_get {j : Nat} : ∀ {vs : List Nat}, (wipe σ vs)[j]? = if j ∈ vs ∧ j < σ.length then some none else σ[j]?
  | [] => by simp [wipe]
  | v :: vs => by
    unfold wipe
    rw [List.getElem?_set, wipe_length, wipe_get]
    by_cases z : v = j
    · subst z
      by_cases hl : v < σ.length
      · simp [hl]
      · simp [hl]
    · rw [if_neg z]
      by_cases hm : j ∈ vs
      · simp [hm]
      · have : ¬ j = v := fun e => z e.symm
        simp [hm, this]
theorem restS_get {j : Nat} (hl : sl0.length = sl.length) : ∀ {vs : List Nat}, (restS sl0 sl vs)[j]? = if j ∈ vs then sl0[j]? else sl[j]?
  | [] => by simp [restS]
  | v :: vs => by
    unfold restS
    rw [List.getElem?_set, restS_len, restS_get hl]
    by_cases z : v = j
    · subst z
      by_cases hv : v < sl.length
      · have hv' : v < sl0.length := by rw [hl]; exact hv
        simp [hv, List.getD, hv']
      · have hv' : ¬ v < sl0.length := by rw [hl]; exact hv
        simp [hv, List.getElem?_eq_none_iff.mpr (Nat.le_of_not_lt hv')]
    · rw [if_neg z]
      have : ¬ j = v := fun e => z e.symm
      simp [this]
theorem wipe_agree {ns : List Nat} {σ2 : L2.St} (h : Agree ns σ σ2) (hs : ∀ n ∈ ns, n ∈ vs) : wipe σ2 vs = wipe σ vs := by
  refine List.ext_getElem? fun j => ?_
  rw [wipe_get, wipe_get, h.1]
  by_cases z : j ∈ vs ∧ j < σ.length
  · rw [if_pos z, if_pos z]
  · rw [if_neg z, if_neg z]
    by_cases hv : j ∈ vs
    · have hl : ¬ j < σ.length := fun q => z ⟨hv, q⟩
      rw [List.getElem?_eq_none_iff.mpr (Nat.le_of_not_lt hl), List.getElem?_eq_none_iff.mpr (by rw [h.1]; exact Nat.le_of_not_lt hl)]
    · exact h.2 j fun q => hv (hs j q)
theorem wipe_wipe : wipe (wipe σ vs) vs = wipe σ vs := by
  refine List.ext_getElem? fun j => ?_
  rw [wipe_get, wipe_length, wipe_get]
  by_cases z : j ∈ vs ∧ j < σ.length
  · simp [z]
  · simp [z]
theorem okW_get (h : okW sl vs = true) {j : Nat} (hj : j ∈ vs) : plainC sl[j]? = true := List.all_eq_true.mp h j hj
theorem Rel.wipe (R : Rel c F sl σ H) (h : okW sl vs = true) : Rel c F (wipeS sl vs) (L2.wipe σ vs) H := by
  have own : ∀ j ad, OwnA (L2.wipe σ vs) (wipeS sl vs) j ad → OwnA σ sl j ad := fun j ad ⟨h1, h2⟩ => by
    rw [wipe_get] at h2
    rw [wipeS_get] at h1
    split at h2
    · cases h2
    · rename_i z
      split at h1
      · cases h1
      · exact ⟨h1, h2⟩
  refine ⟨by rw [wipeS_len, wipe_length]; exact R.len, R.sub, R.f0, R.kp, fun j cl e => ?_, fun i j ad h1 h2 => R.sep i j ad (own i ad h1) (own j ad h2), fun i ad hi => ?_⟩
  · rw [wipeS_get] at e
    rw [wipe_get, ← R.len]
    split at e
    · cases e; trivial
    · rename_i z
      rw [if_neg z]
      exact R.cell j cl e
  · obtain ⟨q1, d, q2⟩ := R.io i ad hi
    have hv : i ∉ vs := fun hv => by
      have := okW_get h hv
      rw [q2] at this
      cases this
    rw [wipe_get, wipeS_get]
    simp [hv]
    exact ⟨q1, d, q2⟩
theorem Rel.rest {F2 H2 : Hp} {sl2 : Sl} (R0 : Rel c F sl σ H) (h : okW sl vs = true) (s : Same F F2) (R : Rel c F2 sl2 (L2.wipe σ vs) H2) : Rel c F2 (restS sl sl2 vs) σ H2 := by
  have hl : sl.length = sl2.length := by rw [R.len, wipe_length, R0.len]
  have own : ∀ j ad, OwnA σ (restS sl sl2 vs) j ad → OwnA (L2.wipe σ vs) sl2 j ad := fun j ad ⟨h1, h2⟩ => by
    rw [restS_get hl] at h1
    by_cases hv : j ∈ vs
    · rw [if_pos hv] at h1
      have := okW_get h hv
      cases z : sl[j]? with
      | none => rw [z] at h1; cases h1
      | some cl =>
        rw [z] at h1 this
        cases cl with
        | no => cases h1
        | val _ => cases h1
        | own _ => cases this
        | io _ => cases this
    · rw [if_neg hv] at h1
      refine ⟨h1, ?_⟩
      rw [wipe_get]
      simp [hv, h2]
  refine ⟨by rw [restS_len, ← hl]; exact R0.len, R.sub, R.f0, R.kp, fun j cl e => ?_, fun i j ad h1 h2 => R.sep i j ad (own i ad h1) (own j ad h2), fun i ad hi => ?_⟩
  · rw [restS_get hl] at e
    by_cases hv : j ∈ vs
    · rw [if_pos hv] at e
      have hc := R0.cell j cl e
      have hp := okW_get h hv
      rw [e] at hp
      cases cl with
      | no => trivial
      | val d => obtain ⟨v, q1, q2⟩ := hc; exact ⟨v, q1, q2.mono s⟩
      | own d => cases hp
      | io d => cases hp
    · rw [if_neg hv] at e
      have hc := R.cell j cl e
      rw [wipe_get] at hc
      simp [hv] at hc
      exact hc
  · obtain ⟨q1, d, q2⟩ := R.io i ad hi
    obtain ⟨q3, d3, q4⟩ := R0.io i ad hi
    have hv : i ∉ vs := fun hv => by
      have := okW_get h hv
      rw [q4] at this
      cases this
    refine ⟨q3, d, ?_⟩
    rw [restS_get hl, if_neg hv]
    exact q2
/-- an object that is none of ours changes -/
theorem Rel.other (R : Rel c F sl σ H) {ad : Addr} {o : HO} (h0 : c.H0 ad = none) (hF : F ad = none) (hn : ∀ i, ¬ OwnA σ sl i ad) : Rel c F sl σ (upd H ad o) := by
  have ne : ∀ b, c.H0 b ≠ none → b ≠ ad := fun b hb z => hb (z ▸ h0)
  refine ⟨R.len, fun b u e => ?_, R.f0, fun b u e n => ?_, fun i cl e => ?_, R.sep, R.io⟩
  · rw [upd_ne (ne_of_none e hF)]; exact R.sub b u e
  · rw [upd_ne (ne b (by rw [e]; intro z; cases z))]; exact R.kp b u e n
  · have hc := R.cell i cl e
    cases cl with
    | no => trivial
    | val d => exact hc
    | own d =>
      obtain ⟨b, q1, q2, q3, q4⟩ := hc
      have nb : b ≠ ad := fun z => hn i ⟨by rw [e]; rfl, z ▸ q1⟩
      exact ⟨b, q1, q2, q3, q4.mono (Same.refl F) (upd_ne nb)⟩
    | io d =>
      obtain ⟨b, q1, q2, q3, q4⟩ := hc
      have nb : b ≠ ad := fun z => hn i ⟨by rw [e]; rfl, z ▸ q1⟩
      exact ⟨b, q1, q2, q3, q4.mono (Same.refl F) (upd_ne nb)⟩
theorem pts_imp {ifs : List Expr} {t t' : TT} (h : PTs X ifs t) (i : ∀ σ H Q, t' σ H Q → t σ H Q) : PTs X ifs t' := ⟨fun pins s σ H Q I q => h.run pins s σ H Q I (i σ H Q q)⟩
theorem pts_yes : PTs X [] (tB X.K W yesB) := pts_imp pts_nil fun σ H Q ⟨c, F, sl, ek, R, q⟩ => q F H (Same.refl F) R
theorem Ctx.pin_io (c : Ctx) (p : Addr) (o : HO) : (c.pin p o).ios = c.ios := rfl
theorem dpAll_snoc {xs : List V} {ds : List D} {v : V} {d : D} (h : DpAll K F xs ds) (h1 : Dp K F v d) : DpAll K F (xs ++ [v]) (ds ++ [d]) := dpAll_append (.cons h1 .nil) h
/-- the reading of a comprehension -/
theorem lc_of {it : IT} {ns : List Nat} {g : TGf} {cond : BB} {elt : EE} (hns : ∀ n ∈ ns, n ∈ vs) (σ : L2.St) (H : Hp) (Q : VK) (h : tE X.K W (lcE it vs g cond elt) σ H Q) :
    tLc (tI X.K W it) (tG X.K ns g) (tB X.K WF cond) (tV X.K WF (vl elt)) vs σ H Q := by
  obtain ⟨c, F, sl, ek, R, q⟩ := h
  refine ⟨c, F, sl, ek, R, (OutOk.bind q).imp fun ds sl1 q1 J F1 H1 s1 R1 ⟨Y, w, y⟩ L hL => ?_⟩
  have hW : okW sl1 vs = true := by
    by_cases z : okW sl1 vs = true
    · exact z
    · rw [if_neg z] at q1; exact q1.elim
  rw [if_pos hW] at q1
  have hF1 : F1 L = none := Same.free R1.sub hL
  have h0 : c.H0 L = none := R1.notH0 hL
  have hn0 : ∀ i, ¬ OwnA σ sl1 i L := R1.notOwn hL
  have hio : ∀ i, (i, L) ∉ c.ios := fun i hi => by
    obtain ⟨z1, d, z2⟩ := R1.io i L hi
    exact hn0 i ⟨by rw [z2]; rfl, z1⟩
  refine lc_it w (fun i H => Same F1 H ∧ ∃ F' sl' xs acc, Same F1 F' ∧ Rel (c.pin L (.lst xs)) F' sl' (L2.wipe σ vs) H ∧ DpAll c.K F' xs acc ∧
    ∃ out sl2, lcL g cond elt vs (ds.drop i) acc sl' = .ok out sl2 ∧ ∀ v F' H', Same F F' → Rel c F' (restS sl1 sl2 vs) σ H' → TmOk c F' H' σ (restS sl1 sl2 vs) v (.own (.list out)) → Q v H') ?_ (fun i H hi h => h.1) ?_ ?_
  · have R2 := (R1.newO hL (.lst [])).wipe hW
    have hn1 : ∀ i, ¬ OwnA (L2.wipe σ vs) (wipeS sl1 vs) i L := fun i hi => by
      have := (R2.owned hi).2.2
      rcases this with z | z
      · obtain ⟨z1, z2⟩ := hi
        rw [wipe_get] at z2
        rw [wipeS_get] at z1
        split at z2
        · cases z2
        · split at z1
          · cases z1
          · exact hn0 i ⟨z1, z2⟩
      · exact hio i z
    refine ⟨(R1.newO hL (.lst [])).sub, F1, wipeS sl1 vs, [], [], Same.refl F1, R2.pin upd_same hF1 h0 hn1, .nil, ?_⟩
    rw [List.drop_zero]
    cases z : lcL g cond elt vs ds [] (wipeS sl1 vs) with
    | ok out sl2 => rw [z] at q1; exact ⟨out, sl2, rfl, q1⟩
    | exc cn d sl2 => rw [z] at q1; exact q1.elim
    | stuck => rw [z] at q1; exact q1.elim
  · rintro i x H2 H3 hi ⟨sH, F2, sl2, xs, acc, s2, R2, dA, out, slo, eq, fin⟩ hy
    obtain ⟨d, e1, e2⟩ := drop_cons hi
    rw [e2] at eq
    unfold lcL at eq
    obtain ⟨F3, s3, R3, d3⟩ := YOk.rel (c := c.pin L (.lst xs)) R2 s2 (y i x H2 H3 d e1 sH hy)
    cases z : g d sl2 with
    | none => rw [z] at eq; cases eq
    | some sl3 =>
      rw [z] at eq
      dsimp only at eq
      refine ⟨c.pin L (.lst xs), F3, sl2, d, ek, R3, d3, sl3, z, fun σ2 ag R4 => ⟨?_, ?_⟩⟩
      · rw [wipe_agree ag hns, wipe_wipe]
      · have hw2 : L2.wipe σ2 vs = L2.wipe σ vs := by rw [wipe_agree ag hns, wipe_wipe]
        refine ⟨c.pin L (.lst xs), F3, sl3, ek, R4, ?_⟩
        show OutOk (cond sl3) _ _
        cases z2 : cond sl3 with
        | ok bb sl4 =>
          rw [z2] at eq
          intro F4 H4 s4 R5
          cases bb with
          | true =>
            dsimp only at eq
            rw [if_pos rfl]
            refine ⟨c.pin L (.lst xs), F4, sl4, ek, R5, ?_⟩
            show OutOk (vl elt sl4) _ _
            cases z3 : vl elt sl4 with
            | ok yv sl5 =>
              rw [z3] at eq
              dsimp only at eq
              split at eq
              · rename_i hok
                intro v F5 H5 s5 R6 d5
                obtain ⟨R7, hL7, hF7, hn7⟩ := R6.unpin h0 hio
                refine ⟨xs, hL7, by rw [dpAll_len dA, ← line_eq]; exact hok.2, ?_⟩
                have s25 : Same F2 F5 := Same.trans (Same.trans s3 s4) s5
                have R8 := (R7.other (o := .lst (xs ++ [v])) h0 hF7 hn7).wipe hok.1
                rw [hw2] at R8
                have hn8 : ∀ i, ¬ OwnA (L2.wipe σ vs) (wipeS sl5 vs) i L := fun i hi => by
                  obtain ⟨z1, z2⟩ := hi
                  rw [← hw2, wipe_get] at z2
                  rw [wipeS_get] at z1
                  split at z2
                  · cases z2
                  · split at z1
                    · cases z1
                    · exact hn7 i ⟨z1, z2⟩
                exact ⟨Same.trans (Same.trans s2 s25) R8.sub, F5, wipeS sl5 vs, xs ++ [v], acc ++ [yv], Same.trans s2 s25, R8.pin upd_same hF7 h0 hn8, dpAll_snoc (dpAll_mono s25 _ dA) d5, out, slo, eq, fin⟩
              · cases eq
            | exc cn d sl5 => rw [z3] at eq; cases eq
            | stuck => rw [z3] at eq; cases eq
          | false =>
            dsimp only at eq
            split at eq
            · rename_i hok
              have s24 : Same F2 F4 := Same.trans s3 s4
              have R8 := R5.wipe hok
              rw [hw2] at R8
              rw [if_neg (by simp)]
              exact ⟨Same.trans (Same.trans s2 s24) R8.sub, F4, wipeS sl4 vs, xs, acc, Same.trans s2 s24, R8, dpAll_mono s24 _ dA, out, slo, eq, fin⟩
            · cases eq
        | exc cn d sl4 => rw [z2] at eq; cases eq
        | stuck => rw [z2] at eq; cases eq
  · rintro H2 ⟨sH, F2, sl2, xs, acc, s2, R2, dA, out, slo, eq, fin⟩
    rw [List.drop_length] at eq
    unfold lcL at eq
    cases eq
    obtain ⟨R3, hL3, hF3, hn3⟩ := R2.unpin h0 hio
    have R4 := Rel.rest R1 hW s2 R3
    refine fin (.ref L) F2 H2 (Same.trans s1 s2) R4 ⟨L, rfl, h0, hF3, ⟨xs, hL3, dA⟩, fun i hi => ?_⟩
    obtain ⟨z1, z2⟩ := hi
    have hl : sl1.length = sl2.length := by rw [R3.len, wipe_length, R1.len]
    rw [restS_get hl] at z1
    by_cases hv : i ∈ vs
    · rw [if_pos hv] at z1
      exact hn0 i ⟨z1, z2⟩
    · rw [if_neg hv] at z1
      refine hn3 i ⟨z1, ?_⟩
      rw [wipe_get]
      simp [hv, z2]
theorem pe_lcE {elt tg iter : Expr} {ifs : List Expr} {scope : Scope} {own : List (Str × Nat)} {it : IT} {ns : List Nat} {g : TGf} {cond : BB} {fe : EE} (hc : X.calm = true) (hN : X.N.Nodup) (hi : PI X tg iter (tI X.K W it)) (ok : BlkOk X.N X.env.scope scope own)
    (hg : ∀ (s : Shared) (H : Hp) (C : Addr) (cl : List (Str × Addr)) (fp : List Addr), PG (X.blk s H scope (compEnvC scope cl C X.env) fp) tg (tG X.K ns g)) (ht : ∀ (s : Shared) (H : Hp) (C : Addr) (cl : List (Str × Addr)) (fp : List Addr), PTs (X.blk s H scope (compEnvC scope cl C X.env) fp) ifs (tB X.K WF cond))
    (he : ∀ (s : Shared) (H : Hp) (C : Addr) (cl : List (Str × Addr)) (fp : List Addr), PE (X.blk s H scope (compEnvC scope cl C X.env) fp) elt (tE X.K WF fe)) (hns : ∀ n ∈ ns, n ∈ own.map (·.2)) (hs : ∀ x, foldedSetIterable iter X.env x = pure x := by intro _; rfl) :
    PE X (.ListComp elt [⟨tg, iter, ifs, 0⟩] scope pos) (tE X.K W (lcE it (own.map (·.2)) g cond fe)) :=
  pe_imp (pe_lc hc hN hi ok hg ht (fun s H C cl fp => pe_vl (X := X.blk s H scope (compEnvC scope cl C X.env) fp) (he s H C cl fp)) hs) fun σ H Q h => lc_of hns σ H Q h
/-- name = [..] -/
theorem ss_setLc {i : Nat} {y : Str} {py : Pos} {elt tg iter : Expr} {ifs : List Expr} {scope : Scope} {own : List (Str × Nat)} {spos : Pos} {it : IT} {ns : List Nat} {g : TGf} {cond : BB} {fe : EE} (hc : X.calm = true) (hN : X.N.Nodup) (hy : X.N[i]? = some y) (hyl : X.env.scope.names.lookup y = some .local)
    (hsw : swapsWith (.ListComp elt [⟨tg, iter, ifs, 0⟩] scope pos) (some (.Name y py)) spos.line X.env = pure true) (hi : PI X tg iter (tI X.K W it)) (ok : BlkOk X.N X.env.scope scope own)
    (hg : ∀ (s : Shared) (H : Hp) (C : Addr) (cl : List (Str × Addr)) (fp : List Addr), PG (X.blk s H scope (compEnvC scope cl C X.env) fp) tg (tG X.K ns g)) (ht : ∀ (s : Shared) (H : Hp) (C : Addr) (cl : List (Str × Addr)) (fp : List Addr), PTs (X.blk s H scope (compEnvC scope cl C X.env) fp) ifs (tB X.K WF cond))
    (he : ∀ (s : Shared) (H : Hp) (C : Addr) (cl : List (Str × Addr)) (fp : List Addr), PE (X.blk s H scope (compEnvC scope cl C X.env) fp) elt (tE X.K WF fe)) (hns : ∀ n ∈ ns, n ∈ own.map (·.2)) (hs : ∀ x, foldedSetIterable iter X.env x = pure x := by intro _; rfl) :
    PS X (.Assign [.Name y py] (.ListComp elt [⟨tg, iter, ifs, 0⟩] scope pos) spos) (tS X.K W (asgS i (lcE it (own.map (·.2)) g cond fe))) :=
  ps_imp (ps_setLc hc hN hy hyl hsw hi ok hg ht (fun s H C cl fp => pe_vl (X := X.blk s H scope (compEnvC scope cl C X.env) fp) (he s H C cl fp)) hs) fun E σ H h => lc_of hns σ H _ (tAsg_of E σ H h)
end
end Eng
set_option Elab.async false
set_option linter.all false
set_option maxRecDepth 100000
set_option maxHeartbeats 2000000
/-! THE ENGINE, 10: methods of lists, dicts, name op= e. -/
namespace Eng
open PySem L2 PyProof.Rows
def objAt (sl : Sl) (i : Nat) : Option D := match sl[i]? with
  | some (.own d) => some d
  | some (.io d) => some d
  | _ => none
def ofBor (t : Tm) (sl : Sl) : Option (Nat × D) := match t with
  | .bor i => (objAt sl i).map fun d => (i, d)
  | _ => none
def ofBorL (t : Tm) (sl : Sl) : Option (Nat × List D) := match ofBor t sl with
  | some (i, .list ds) => some (i, ds)
  | _ => none
def ofBorD (t : Tm) (sl : Sl) : Option (Nat × List (D × D)) := match ofBor t sl with
  | some (i, .dict ds) => some (i, ds)
  | _ => none
/-! x.append(e) -/
def appE (fa fb : EE) : EE := fun sl => (fa sl).bind fun t sl1 => match ofBorL t sl1 with
  | none => .stuck
  | some _ => (vl fb sl1).bind fun d sl2 => match ofBorL t sl2 with
    | some (i, ds) => if ds.length < LINE then .ok (.val .none) (putSl sl2 i (.list (ds ++ [d]))) else .stuck
    | none => .stuck
def popE (fa : EE) : EE := fun sl => (fa sl).bind fun t sl1 => match ofBorL t sl1 with
  | some (i, ds) => match ds[ds.length - 1]? with
    | some d => .ok (.val d) (putSl sl1 i (.list ds.dropLast))
    | none => .stuck
  | none => .stuck
def extE (fa fb : EE) : EE := fun sl => (fa sl).bind fun t sl1 => match ofBorL t sl1 with
  | none => .stuck
  | some _ => (fb sl1).bind fun t2 sl2 => match ofBorL t sl2, t2 with
    | some (i, ds), .own (.list es) => if ds.length + es.length ≤ LINE then .ok (.val .none) (putSl sl2 i (.list (ds ++ es))) else .stuck
    | _, _ => .stuck
section
variable {X : Cx} {W : WX} {e : Expr} {c : Ctx} {F F' H H' : Hp} {σ : L2.St} {sl : Sl} {K : PySem.W.Frag} {a b : Expr} {fa fb fc : EE} {pos p : Pos}
theorem objAt_ok (R : Rel c F sl σ H) {i : Nat} {d : D} {v : V} (h : objAt sl i = some d) (hv : σ[i]? = some (some v)) : ∃ ad, v = .ref ad ∧ OwnA σ sl i ad ∧ F ad = none ∧ ObjR c.K F H ad d := by
  unfold objAt at h
  cases z : sl[i]? with
  | none => rw [z] at h; cases h
  | some cl =>
    rw [z] at h
    have hc := R.cell i cl z
    cases cl with
    | no => cases h
    | val _ => cases h
    | own d' =>
      cases h
      obtain ⟨ad, e1, e2, e3, e4⟩ := hc
      rw [hv] at e1; cases e1
      exact ⟨ad, rfl, ⟨by rw [z]; rfl, hv⟩, e3, e4⟩
    | io d' =>
      cases h
      obtain ⟨ad, e1, e2, e3, e4⟩ := hc
      rw [hv] at e1; cases e1
      exact ⟨ad, rfl, ⟨by rw [z]; rfl, hv⟩, e3, e4⟩
theorem ofBorL_ok {t : Tm} {v : V} {i : Nat} {ds : List D} (R : Rel c F sl σ H) (h : ofBorL t sl = some (i, ds)) (ht : ArgOk c.K F σ v t) : t = .bor i ∧ ∃ ad xs, v = .ref ad ∧ OwnA σ sl i ad ∧ H ad = some (.lst xs) ∧ DpAll c.K F xs ds := by
  unfold ofBorL at h
  cases t with
  | bor j =>
    unfold ofBor at h
    dsimp only at h
    cases z : objAt sl j with
    | none => rw [z] at h; cases h
    | some d =>
      rw [z] at h
      cases d with
      | list es =>
        cases h
        obtain ⟨ad, e1, e2, e3, xs, e4, e5⟩ := objAt_ok R z ht
        exact ⟨rfl, ad, xs, e1, e2, e4, e5⟩
      | _ => cases h
  | val _ => cases h
  | own _ => cases h
theorem ofBorD_ok {t : Tm} {v : V} {i : Nat} {ds : List (D × D)} (R : Rel c F sl σ H) (h : ofBorD t sl = some (i, ds)) (ht : ArgOk c.K F σ v t) : t = .bor i ∧ ∃ ad xs, v = .ref ad ∧ OwnA σ sl i ad ∧ H ad = some (.dK xs) ∧ KvR c.K F xs ds := by
  unfold ofBorD at h
  cases t with
  | bor j =>
    unfold ofBor at h
    dsimp only at h
    cases z : objAt sl j with
    | none => rw [z] at h; cases h
    | some d =>
      rw [z] at h
      cases d with
      | dict es =>
        cases h
        obtain ⟨ad, e1, e2, e3, xs, e4, e5⟩ := objAt_ok R z ht
        exact ⟨rfl, ad, xs, e1, e2, e4, e5⟩
      | _ => cases h
  | val _ => cases h
  | own _ => cases h
theorem argOk_of {t : Tm} {v : V} {i : Nat} (h : TmOk c F H σ sl v t) (e : t = .bor i) : ArgOk c.K F σ v t := by
  subst e; exact h.1
theorem tm_arg {t : Tm} {v : V} (h : TmOk c F H σ sl v t) (hb : ∀ d, t ≠ .own d) : ArgOk c.K F σ v t := by
  cases t with
  | val d => exact h
  | own d => exact (hb d rfl).elim
  | bor i => exact h.1
theorem ofBorL_bor {t : Tm} {r : Nat × List D} (h : ofBorL t sl = some r) : ∀ d, t ≠ .own d := fun d z => by subst z; cases h
theorem ofBorD_bor {t : Tm} {r : Nat × List (D × D)} (h : ofBorD t sl = some r) : ∀ d, t ≠ .own d := fun d z => by subst z; cases h
theorem mtr_of {id : String} {r : V → List V → Hp → VK → Prop} (h : MtM X id r) : MtR X id r := h
theorem pe_app {name : Str} {apos cpos : Pos} (hname : name = "append") (ha : PE X a (tE X.K W fa)) (hb : PE X b (tE X.K W fb))
    (hbase : attributeBase a "append" X.env (eval a X.env) = eval a X.env := by rfl)
    (hfew : ((backTo cpos (starEach [b] X.env)).all (fun x => !x.1) && (backToKw cpos (keywordEach [] X.env)).all (fun x => x.1.isSome)
      && decide (([b] : List Expr).length + ([] : List Keyword).length + (if ([] : List Keyword).isEmpty then 0 else 1) < 30)) = true := by rfl)
    (hline : (apos.endLine == cpos.line) = true := by rfl) (hs : starEach [b] X.env = (false, eval b X.env) :: starEach [] X.env := by rfl) :
    PE X (.Call (.Attribute a name apos) [b] [] cpos) (tE X.K W (appE fa fb)) := by
  subst hname
  refine pe_imp (pe_bm F.plainAttrs_list F.slot_list_append PySem.F.type_list_append (mt_append (X := X)) ha (pa_cons (pe_vl hb) pa_nil hs) hbase hfew hline hs rfl) fun σ H Q ⟨c, F, sl, ek, R, q⟩ => ?_
  refine ⟨c, F, sl, ek, R, (OutOk.bind q).imp fun t sl1 q1 v F1 H1 s1 R1 t1 => ?_⟩
  cases z : ofBorL t sl1 with
  | none => rw [z] at q1; exact q1.elim
  | some r =>
    rw [z] at q1
    obtain ⟨i, ds⟩ := r
    obtain ⟨rfl, ad, xs, rfl, o1, h1, d1⟩ := ofBorL_ok R1 z (tm_arg t1 (ofBorL_bor z))
    refine ⟨.inl ⟨rfl, xs, SqL.of h1⟩, c, F1, sl1, ek, R1, (OutOk.bind q1).imp fun d sl2 q2 u F2 H2 s2 R2 d2 => ?_⟩
    cases z2 : ofBorL (.bor i) sl2 with
    | none => rw [z2] at q2; exact q2.elim
    | some r =>
      rw [z2] at q2
      obtain ⟨j, es⟩ := r
      obtain ⟨e3, ad', ys, e4, o2, h2, dd2⟩ := ofBorL_ok R2 z2 (show ArgOk c.K F2 σ (.ref ad) (.bor i) from o1.2)
      cases e3; cases e4
      dsimp only at q2
      split at q2
      · rename_i hl
        refine ⟨ad, ys, u, rfl, rfl, h2, by rw [dpAll_len dd2, ← line_eq]; exact hl, ?_⟩
        exact q2 .non F2 _ (Same.trans s1 s2) (R2.change o2 ⟨_, upd_same, dpAll_snoc dd2 d2⟩) den_non
      · exact q2.elim
theorem dpAll_dropLast : ∀ {xs : List V} {ds : List D}, DpAll K F xs ds → DpAll K F xs.dropLast ds.dropLast
  | _, _, .nil => .nil
  | _, _, .cons r .nil => .nil
  | _, _, .cons r (.cons r2 t) => .cons r (dpAll_dropLast (.cons r2 t))
theorem pe_popE {name : Str} {apos cpos : Pos} (hname : name = "pop") (ha : PE X a (tE X.K W fa))
    (hbase : attributeBase a "pop" X.env (eval a X.env) = eval a X.env := by rfl) (hline : (apos.endLine == cpos.line) = true := by rfl) :
    PE X (.Call (.Attribute a name apos) [] [] cpos) (tE X.K W (popE fa)) := by
  subst hname
  refine pe_imp (pe_bm0 F.plainAttrs_list F.slot_list_pop PySem.F.type_list_pop (mt_pop (X := X)) ha hbase hline) fun σ H Q ⟨c, F, sl, ek, R, q⟩ => ?_
  refine ⟨c, F, sl, ek, R, (OutOk.bind q).imp fun t sl1 q1 v F1 H1 s1 R1 t1 => ?_⟩
  cases z : ofBorL t sl1 with
  | none => rw [z] at q1; exact q1.elim
  | some r =>
    rw [z] at q1
    obtain ⟨i, ds⟩ := r
    obtain ⟨rfl, ad, xs, rfl, o1, h1, d1⟩ := ofBorL_ok R1 z (tm_arg t1 (ofBorL_bor z))
    dsimp only at q1
    cases z2 : ds[ds.length - 1]? with
    | none => rw [z2] at q1; exact q1.elim
    | some d =>
      rw [z2] at q1
      obtain ⟨y, e1, e2⟩ := dpAll_get d1 z2
      refine ⟨.inl ⟨rfl, xs, SqL.of h1⟩, ad, xs, y, rfl, rfl, h1, by rw [dpAll_len d1]; exact e1, ?_⟩
      exact q1 y F1 _ s1 (R1.change o1 ⟨_, upd_same, dpAll_dropLast d1⟩) e2
theorem pe_extE {name : Str} {apos cpos : Pos} (hname : name = "extend") (ha : PE X a (tE X.K W fa)) (hb : PE X b (tE X.K W fb))
    (hbase : attributeBase a "extend" X.env (eval a X.env) = eval a X.env := by rfl)
    (hfew : ((backTo cpos (starEach [b] X.env)).all (fun x => !x.1) && (backToKw cpos (keywordEach [] X.env)).all (fun x => x.1.isSome)
      && decide (([b] : List Expr).length + ([] : List Keyword).length + (if ([] : List Keyword).isEmpty then 0 else 1) < 30)) = true := by rfl)
    (hline : (apos.endLine == cpos.line) = true := by rfl) (hs : starEach [b] X.env = (false, eval b X.env) :: starEach [] X.env := by rfl) :
    PE X (.Call (.Attribute a name apos) [b] [] cpos) (tE X.K W (extE fa fb)) := by
  subst hname
  refine pe_imp (pe_bm F.plainAttrs_list F.slot_list_extend PySem.F.type_list_extend (mt_extend (X := X)) ha (pa_cons hb pa_nil hs) hbase hfew hline hs rfl) fun σ H Q ⟨c, F, sl, ek, R, q⟩ => ?_
  refine ⟨c, F, sl, ek, R, (OutOk.bind q).imp fun t sl1 q1 v F1 H1 s1 R1 t1 => ?_⟩
  cases z : ofBorL t sl1 with
  | none => rw [z] at q1; exact q1.elim
  | some r =>
    rw [z] at q1
    obtain ⟨i, ds⟩ := r
    obtain ⟨rfl, ad, xs, rfl, o1, h1, d1⟩ := ofBorL_ok R1 z (tm_arg t1 (ofBorL_bor z))
    refine ⟨.inl ⟨rfl, xs, SqL.of h1⟩, c, F1, sl1, ek, R1, (OutOk.bind q1).imp fun t2 sl2 q2 u F2 H2 s2 R2 t2k => ?_⟩
    cases z2 : ofBorL (.bor i) sl2 with
    | none => rw [z2] at q2; exact q2.elim
    | some r =>
      rw [z2] at q2
      obtain ⟨j, es⟩ := r
      obtain ⟨e3, ad', ys, e4, o2, h2, dd2⟩ := ofBorL_ok R2 z2 (show ArgOk c.K F2 σ (.ref ad) (.bor i) from o1.2)
      cases e3; cases e4
      cases t2 with
      | own d =>
        cases d with
        | list fs =>
          dsimp only at q2
          split at q2
          · rename_i hl
            obtain ⟨ad2, rfl, n1, n2, ⟨zs, h3, d3⟩, n4⟩ := t2k
            refine ⟨ad, ad2, ys, zs, rfl, rfl, h2, h3, by rw [dpAll_len dd2, dpAll_len d3, ← line_eq]; exact hl, ?_⟩
            exact q2 .non F2 _ (Same.trans s1 s2) (R2.change o2 ⟨_, upd_same, dpAll_append d3 dd2⟩) den_non
          · exact q2.elim
        | _ => exact q2.elim
      | _ => exact q2.elim

/-! ### dicts: keys ints or texts -/
def keyOf : D → Option Key
  | .int i => some (.inl i)
  | .str x => some (.inr x)
  | _ => none
theorem keyOf_D {d : D} {k : Key} (h : keyOf d = some k) : d = keyD k := by
  cases d <;> cases h <;> rfl
theorem keyOf_keyD (k : Key) : keyOf (keyD k) = some k := by cases k <;> rfl
theorem keyD_inj {k l : Key} (h : keyD k = keyD l) : k = l := by
  have := congrArg keyOf h
  rw [keyOf_keyD, keyOf_keyD] at this
  exact Option.some.inj this
theorem den_kV {k : Key} {v : V} (h : Den K F v (keyD k)) : v = kV k := by
  cases k with
  | inl i => exact Den.int h
  | inr x => exact Den.str h
def dlook : List (D × D) → Key → Option D
  | [], _ => none
  | (x, v) :: r, k => if keyOf x = some k then some v else dlook r k
def dput (ds : List (D × D)) (k : Key) (v : D) : List (D × D) :=
  if (ds.any fun p => decide (keyOf p.1 = some k)) = true then ds.map (fun p => if keyOf p.1 = some k then (p.1, v) else p) else ds ++ [(keyD k, v)]
theorem kv_look : ∀ {xs : List (Key × V)} {ds : List (D × D)} (h : KvR K F xs ds) (k : Key), (∀ d, dlook ds k = some d → ∃ v, valV xs k = some v ∧ Dp K F v d) ∧ (dlook ds k = none → valV xs k = none)
  | _, _, .nil, k => ⟨(fun d h => by cases h), fun _ => rfl⟩
  | _, _, @Paired.cons _ _ _ p q ps qs hp t, k => by
    have ih := kv_look t k
    obtain ⟨x, u⟩ := q
    obtain ⟨e1, e2⟩ := hp
    dsimp only at e1 e2
    unfold dlook
    subst e1
    rw [keyOf_keyD]
    by_cases z : p.1 = k
    · rw [if_pos (by rw [z]), valV_pos z]
      exact ⟨(fun d h => by cases h; exact ⟨_, rfl, e2⟩), fun h => by cases h⟩
    · rw [if_neg (fun y => z (Option.some.inj y)), valV_neg z]
      exact ih
theorem kv_any : ∀ {xs : List (Key × V)} {ds : List (D × D)} (h : KvR K F xs ds) (k : Key), (ds.any fun p => decide (keyOf p.1 = some k)) = (xs.any fun kv => decide (kv.1 = k))
  | _, _, .nil, k => rfl
  | _, _, @Paired.cons _ _ _ p q ps qs hp t, k => by
    rw [List.any_cons, List.any_cons, kv_any t k, ← hp.1, keyOf_keyD]
    congr 1
    exact decide_eq_decide.mpr ⟨Option.some.inj, congrArg some⟩
theorem kv_map : ∀ {xs : List (Key × V)} {ds : List (D × D)} (h : KvR K F xs ds) (k : Key) {v : V} {d : D}, Dp K F v d → KvR K F (xs.map fun kv => if kv.1 = k then (kv.1, v) else kv) (ds.map fun p => if keyOf p.1 = some k then (p.1, d) else p)
  | _, _, .nil, k, _, _, _ => .nil
  | _, _, @Paired.cons _ _ _ p q ps qs hp t, k, v, d, hv => by
    rw [List.map_cons, List.map_cons]
    refine .cons ?_ (kv_map t k hv)
    rw [← hp.1, keyOf_keyD]
    by_cases z : p.1 = k
    · rw [if_pos z, if_pos (by rw [z])]; exact ⟨rfl, hv⟩
    · rw [if_neg z, if_neg (fun y => z (Option.some.inj y))]; exact ⟨hp.1, hp.2⟩
theorem kv_snoc : ∀ {xs : List (Key × V)} {ds : List (D × D)} (h : KvR K F xs ds) (k : Key) {v : V} {d : D}, Dp K F v d → KvR K F (xs ++ [(k, v)]) (ds ++ [(keyD k, d)])
  | _, _, .nil, k, _, _, hv => .cons ⟨rfl, hv⟩ .nil
  | _, _, .cons hp t, k, _, _, hv => .cons hp (kv_snoc t k hv)
theorem kv_put {xs : List (Key × V)} {ds : List (D × D)} (h : KvR K F xs ds) (k : Key) {v : V} {d : D} (hv : Dp K F v d) : KvR K F (putK xs k v) (dput ds k d) := by
  unfold putK dput
  rw [kv_any h k]
  split
  · exact kv_map h k hv
  · exact kv_snoc h k hv
end
end Eng
set_option Elab.async false
set_option linter.all false
set_option maxRecDepth 100000
set_option maxHeartbeats 2000000
/-! THE ENGINE, 11: dicts in expressions, name op= e, enumerate, zip. -/
namespace Eng
open PySem L2 PyProof.Rows
/-! d[k], k in d, d.get(k), d.get(k, x), d[k] = v, {..} -/
def dgE (fa fb : EE) : EE := fun sl => (fa sl).bind fun t sl1 => (vl fb sl1).bind fun y sl2 => match ofBorD t sl2, keyOf y with
  | some (_, kvs), some k => ofO ((dlook kvs k).map .val) sl2
  | _, _ => .stuck
def inE (fb fa : EE) : EE := fun sl => (vl fb sl).bind fun y sl1 => (fa sl1).bind fun t sl2 => match ofBorD t sl2, keyOf y with
  | some (_, kvs), some k => .ok (.val (.bool (dlook kvs k).isSome)) sl2
  | _, _ => .stuck
def ninE (fb fa : EE) : EE := fun sl => (vl fb sl).bind fun y sl1 => (fa sl1).bind fun t sl2 => match ofBorD t sl2, keyOf y with
  | some (_, kvs), some k => .ok (.val (.bool (!(dlook kvs k).isSome))) sl2
  | _, _ => .stuck
def get1E (fa fb : EE) : EE := fun sl => (fa sl).bind fun t sl1 => match ofBorD t sl1 with
  | none => .stuck
  | some _ => (vl fb sl1).bind fun y sl2 => match ofBorD t sl2, keyOf y with
    | some (_, kvs), some k => .ok (.val ((dlook kvs k).getD .none)) sl2
    | _, _ => .stuck
def get2E (fa fb fc : EE) : EE := fun sl => (fa sl).bind fun t sl1 => match ofBorD t sl1 with
  | none => .stuck
  | some _ => (vl fb sl1).bind fun y sl2 => (vl fc sl2).bind fun z sl3 => match ofBorD t sl3, keyOf y with
    | some (_, kvs), some k => .ok (.val ((dlook kvs k).getD z)) sl3
    | _, _ => .stuck
def putS (fa fb fv : EE) : SS := fun sl => doS (vl fv sl) fun d sl1 => doS (fa sl1) fun t sl2 => doS (vl fb sl2) fun y sl3 => match ofBorD t sl3, keyOf y with
  | some (i, kvs), some k => if kvs.length < LINE then .nx (putSl sl3 i (.dict (dput kvs k d))) else .stuck
  | _, _ => .stuck
def newDE : EE := fun sl => .ok (.own (.dict [])) sl
/-- {k: v, ..}: the keys constant -/
def dispL : List (Key × EE) → Sl → Out (List (Key × D))
  | [], sl => .ok [] sl
  | (k, f) :: r, sl => (vl f sl).bind fun d sl1 => (dispL r sl1).bind fun ds sl2 => .ok ((k, d) :: ds) sl2
def mergeD (ds : List (D × D)) (more : List (Key × D)) : List (D × D) := more.foldl (fun acc p => dput acc p.1 p.2) ds
def dispE (r : List (Key × EE)) : EE := fun sl => (dispL r sl).bind fun ds sl1 => .ok (.own (.dict (mergeD [] ds))) sl1
section
variable {X : Cx} {W : WX} {e : Expr} {c : Ctx} {F F' H H' : Hp} {σ : L2.St} {sl : Sl} {K : PySem.W.Frag} {a b : Expr} {fa fb fc fv : EE} {pos p : Pos}
theorem kv_res {xs : List (Key × V)} {ds : List (D × D)} (h : KvR K F xs ds) (k : Key) : (dlook ds k).isSome = (valV xs k).isSome := by
  obtain ⟨h1, h2⟩ := kv_look h k
  cases z : dlook ds k with
  | none => rw [h2 z]; rfl
  | some d => obtain ⟨v, e1, _⟩ := h1 d z; rw [e1]; rfl
theorem kv_getD {xs : List (Key × V)} {ds : List (D × D)} (h : KvR K F xs ds) (k : Key) {v : V} {d : D} (hv : Dp K F v d) : Dp K F ((valV xs k).getD v) ((dlook ds k).getD d) := by
  obtain ⟨h1, h2⟩ := kv_look h k
  cases z : dlook ds k with
  | none => rw [h2 z]; exact hv
  | some d => obtain ⟨v, e1, e2⟩ := h1 d z; rw [e1]; exact e2
theorem bor_mono {t : Tm} {v : V} (h : TmOk c F H σ sl v t) (hb : ∀ d, t ≠ .own d) (s : Same F F') : ArgOk c.K F' σ v t := (tm_arg h hb).mono s
theorem pe_dg (hu : X.A.units + 1 < cLine) (ha : PE X a (tE X.K W fa)) (hb : PE X b (tE X.K W fb)) (hs : NoSl b) : PE X (.Subscript a b pos) (tE X.K W (dgE fa fb)) :=
  pe_imp (pe_dget hu ha (pe_vl hb) hs) fun σ H Q ⟨c, F, sl, ek, R, q⟩ => by
  refine ⟨c, F, sl, ek, R, (OutOk.bind q).imp fun t sl1 q1 v F1 H1 s1 R1 t1 => ⟨c, F1, sl1, ek, R1, (OutOk.bind q1).imp fun y sl2 q2 u F2 H2 s2 R2 d2 => ?_⟩⟩
  cases z : ofBorD t sl2 with
  | none => rw [z] at q2; exact q2.elim
  | some r =>
    obtain ⟨i, kvs⟩ := r
    rw [z] at q2
    cases z2 : keyOf y with
    | none => rw [z2] at q2; exact q2.elim
    | some k =>
      rw [z2] at q2
      obtain ⟨t3, et, q3⟩ := ofO_ok q2
      obtain ⟨rfl, ad, xs, rfl, o1, h1, d1⟩ := ofBorD_ok R2 z (bor_mono t1 (ofBorD_bor z) s2)
      have hy := keyOf_D z2
      subst hy
      cases z3 : dlook kvs k with
      | none => rw [z3] at et; cases et
      | some d =>
        rw [z3] at et
        cases et
        obtain ⟨w', e1, e2⟩ := (kv_look d1 k).1 d z3
        rw [den_kV d2]
        exact ⟨ad, w', rfl, by rw [← e1]; exact DGet.k h1, q3 w' F2 H2 (Same.trans s1 s2) R2 e2⟩
theorem tIn_of (σ : L2.St) (H : Hp) (Q : VK) (h : tE X.K W (inE fb fa) σ H Q) : tDIn (tV X.K W (vl fb)) (tE X.K W fa) σ H Q := by
  obtain ⟨c, F, sl, ek, R, q⟩ := h
  refine ⟨c, F, sl, ek, R, (OutOk.bind q).imp fun y sl1 q1 u F1 H1 s1 R1 d1 => ⟨c, F1, sl1, ek, R1, (OutOk.bind q1).imp fun t sl2 q2 v F2 H2 s2 R2 t2 => ?_⟩⟩
  cases z : ofBorD t sl2 with
  | none => rw [z] at q2; exact q2.elim
  | some r =>
    obtain ⟨i, kvs⟩ := r
    rw [z] at q2
    cases z2 : keyOf y with
    | none => rw [z2] at q2; exact q2.elim
    | some k =>
      rw [z2] at q2
      obtain ⟨rfl, ad, xs, rfl, o1, h1, d1'⟩ := ofBorD_ok R2 z (tm_arg t2 (ofBorD_bor z))
      have hy := keyOf_D z2
      subst hy
      rw [den_kV d1]
      exact ⟨ad, _, rfl, DGet.k h1, by rw [← kv_res d1' k]; exact q2 _ F2 H2 (Same.trans s1 s2) R2 (den_bl _)⟩
theorem tNotIn_of (σ : L2.St) (H : Hp) (Q : VK) (h : tE X.K W (ninE fb fa) σ H Q) : tDNotIn (tV X.K W (vl fb)) (tE X.K W fa) σ H Q := by
  obtain ⟨c, F, sl, ek, R, q⟩ := h
  refine ⟨c, F, sl, ek, R, (OutOk.bind q).imp fun y sl1 q1 u F1 H1 s1 R1 d1 => ⟨c, F1, sl1, ek, R1, (OutOk.bind q1).imp fun t sl2 q2 v F2 H2 s2 R2 t2 => ?_⟩⟩
  cases z : ofBorD t sl2 with
  | none => rw [z] at q2; exact q2.elim
  | some r =>
    obtain ⟨i, kvs⟩ := r
    rw [z] at q2
    cases z2 : keyOf y with
    | none => rw [z2] at q2; exact q2.elim
    | some k =>
      rw [z2] at q2
      obtain ⟨rfl, ad, xs, rfl, o1, h1, d1'⟩ := ofBorD_ok R2 z (tm_arg t2 (ofBorD_bor z))
      have hy := keyOf_D z2
      subst hy
      rw [den_kV d1]
      exact ⟨ad, _, rfl, DGet.k h1, by rw [← kv_res d1' k]; exact q2 _ F2 H2 (Same.trans s1 s2) R2 (den_bl _)⟩
theorem pt_inE (hu : X.A.units + 1 < cLine) (hb : PE X b (tE X.K W fb)) (ha : PE X a (tE X.K W fa)) (hm : behindInMarks .In a = false := by rfl) : PT X (.Compare b [.In] [a] pos) (tB X.K W (asB (inE fb fa))) :=
  pt_imp (pt_cmp (pc_din hu (pe_vl hb) ha) hm) fun σ H Q h => tIn_of σ H _ (tTest_of σ H Q h)
theorem pt_ninE (hu : X.A.units + 1 < cLine) (hb : PE X b (tE X.K W fb)) (ha : PE X a (tE X.K W fa)) (hm : behindInMarks .NotIn a = false := by rfl) : PT X (.Compare b [.NotIn] [a] pos) (tB X.K W (asB (ninE fb fa))) :=
  pt_imp (pt_cmp (pc_dnotin hu (pe_vl hb) ha) hm) fun σ H Q h => tNotIn_of σ H _ (tTest_of σ H Q h)
theorem pe_inE (hu : X.A.units + 1 < cLine) (hb : PE X b (tE X.K W fb)) (ha : PE X a (tE X.K W fa)) (hm : behindInMarks .In a = false := by rfl) : PE X (.Compare b [.In] [a] pos) (tE X.K W (inE fb fa)) :=
  pe_imp (pe_cmp (pc_din hu (pe_vl hb) ha) hm) fun σ H Q h => tIn_of σ H _ h
theorem pe_ninE (hu : X.A.units + 1 < cLine) (hb : PE X b (tE X.K W fb)) (ha : PE X a (tE X.K W fa)) (hm : behindInMarks .NotIn a = false := by rfl) : PE X (.Compare b [.NotIn] [a] pos) (tE X.K W (ninE fb fa)) :=
  pe_imp (pe_cmp (pc_dnotin hu (pe_vl hb) ha) hm) fun σ H Q h => tNotIn_of σ H _ h
theorem pe_get1E {name : Str} {apos cpos : Pos} (hname : name = "get") (hu : X.A.units + 1 < cLine) (ha : PE X a (tE X.K W fa)) (hb : PE X b (tE X.K W fb)) (m : M1 X a "get" apos b cpos) : PE X (.Call (.Attribute a name apos) [b] [] cpos) (tE X.K W (get1E fa fb)) := by
  subst hname
  refine pe_imp (pe_dget1 hu ha (pe_vl hb) m) fun σ H Q ⟨c, F, sl, ek, R, q⟩ => ?_
  refine ⟨c, F, sl, ek, R, (OutOk.bind q).imp fun t sl1 q1 v F1 H1 s1 R1 t1 => ?_⟩
  cases z : ofBorD t sl1 with
  | none => rw [z] at q1; exact q1.elim
  | some r =>
    rw [z] at q1
    obtain ⟨i, ds⟩ := r
    obtain ⟨rfl, ad, xs, rfl, o1, h1, d1⟩ := ofBorD_ok R1 z (tm_arg t1 (ofBorD_bor z))
    refine ⟨ad, rfl, .inl ⟨xs, .inl h1⟩, c, F1, sl1, ek, R1, (OutOk.bind q1).imp fun y sl2 q2 u F2 H2 s2 R2 d2 => ?_⟩
    cases z2 : ofBorD (.bor i) sl2 with
    | none => rw [z2] at q2; exact q2.elim
    | some r =>
      obtain ⟨j, es⟩ := r
      rw [z2] at q2
      cases z3 : keyOf y with
      | none => rw [z3] at q2; exact q2.elim
      | some k =>
        rw [z3] at q2
        obtain ⟨e3, ad', ys, e4, o2, h2, dd2⟩ := ofBorD_ok R2 z2 (show ArgOk c.K F2 σ (.ref ad) (.bor i) from o1.2)
        cases e3; cases e4
        have hy := keyOf_D z3
        subst hy
        rw [den_kV d2]
        exact ⟨_, DGet.k h2, q2 _ F2 H2 (Same.trans s1 s2) R2 (kv_getD dd2 k .non)⟩
theorem pe_get2E {e3 : Expr} {name : Str} {apos cpos : Pos} (hname : name = "get") (hu : X.A.units + 1 < cLine) (ha : PE X a (tE X.K W fa)) (hb : PE X b (tE X.K W fb)) (hc : PE X e3 (tE X.K W fc)) (m : M2 X a "get" apos b e3 cpos) : PE X (.Call (.Attribute a name apos) [b, e3] [] cpos) (tE X.K W (get2E fa fb fc)) := by
  subst hname
  refine pe_imp (pe_dget2 hu ha (pe_vl hb) (pe_vl hc) m) fun σ H Q ⟨c, F, sl, ek, R, q⟩ => ?_
  refine ⟨c, F, sl, ek, R, (OutOk.bind q).imp fun t sl1 q1 v F1 H1 s1 R1 t1 => ?_⟩
  cases z : ofBorD t sl1 with
  | none => rw [z] at q1; exact q1.elim
  | some r =>
    rw [z] at q1
    obtain ⟨i, ds⟩ := r
    obtain ⟨rfl, ad, xs, rfl, o1, h1, d1⟩ := ofBorD_ok R1 z (tm_arg t1 (ofBorD_bor z))
    refine ⟨ad, rfl, .inl ⟨xs, .inl h1⟩, c, F1, sl1, ek, R1, (OutOk.bind q1).imp fun y sl2 q2 u F2 H2 s2 R2 d2 => ⟨c, F2, sl2, ek, R2, (OutOk.bind q2).imp fun x sl3 q3 u3 F3 H3 s3 R3 d3 => ?_⟩⟩
    cases z2 : ofBorD (.bor i) sl3 with
    | none => rw [z2] at q3; exact q3.elim
    | some r =>
      obtain ⟨j, es⟩ := r
      rw [z2] at q3
      cases z3 : keyOf y with
      | none => rw [z3] at q3; exact q3.elim
      | some k =>
        rw [z3] at q3
        obtain ⟨e3, ad', ys, e4, o2, h2, dd2⟩ := ofBorD_ok R3 z2 (show ArgOk c.K F3 σ (.ref ad) (.bor i) from o1.2)
        cases e3; cases e4
        have hy := keyOf_D z3
        subst hy
        rw [den_kV d2]
        exact ⟨_, DGet.k h2, q3 _ F3 H3 (Same.trans (Same.trans s1 s2) s3) R3 (kv_getD dd2 k d3)⟩
theorem kv_len {xs : List (Key × V)} {ds : List (D × D)} (h : KvR K F xs ds) : xs.length = ds.length := Paired.length h
theorem ss_put {pos' : Pos} (hu : X.A.units + 1 < cLine) (ha : PE X a (tE X.K W fa)) (hb : PE X b (tE X.K W fb)) (hv : PE X e (tE X.K W fv)) (hs : swapsWith e (some (.Subscript a b pos')) pos.line X.env = pure false := by rfl) :
    PS X (.Assign [.Subscript a b pos'] e pos) (tS X.K W (putS fa fb fv)) := ps_imp (ps_dput hu ha (pe_vl hb) (pe_vl hv) hs) fun E σ H ⟨c, F, sl, ek, R, q⟩ => by
  refine ⟨c, F, sl, ek, R, (OutOk.srp q).imp fun d sl1 q1 v F1 H1 s1 R1 d1 => ⟨c, F1, sl1, ek, R1, (OutOk.srp q1).imp fun t sl2 q2 x F2 H2 s2 R2 t2 => ⟨c, F2, sl2, ek, R2, (OutOk.srp q2).imp fun y sl3 q3 u F3 H3 s3 R3 d3 => ?_⟩⟩⟩
  cases z : ofBorD t sl3 with
  | none => rw [z] at q3; exact q3.elim
  | some r =>
    obtain ⟨i, kvs⟩ := r
    rw [z] at q3
    cases z2 : keyOf y with
    | none => rw [z2] at q3; exact q3.elim
    | some k =>
      rw [z2] at q3
      dsimp only at q3
      split at q3
      · rename_i hl
        obtain ⟨rfl, ad, xs, rfl, o1, h1, dd⟩ := ofBorD_ok R3 z (bor_mono t2 (ofBorD_bor z) s3)
        have hy := keyOf_D z2
        subst hy
        rw [den_kV d3]
        refine ⟨ad, _, rfl, DPut.k h1 (by rw [kv_len dd, ← line_eq]; exact hl), ?_⟩
        exact q3 σ F3 _ (Same.trans (Same.trans s1 s2) s3) (R3.change o1 ⟨_, upd_same, kv_put dd k (d1.mono (Same.trans s2 s3))⟩)
      · exact q3.elim
theorem pe_newD : PE X (.Dict [] [] pos) (tE X.K W newDE) := pe_imp pe_dnewK fun σ H Q ⟨c, F, sl, ek, R, q⟩ p hp =>
  q (.ref p) F _ (Same.refl F) (R.newO hp _) ⟨p, rfl, R.notH0 hp, Same.free R.sub hp, ⟨[], upd_same, .nil⟩, R.notOwn hp⟩
/-! displays -/
abbrev trD (K : PySem.W.Frag) (W : WX) (r : Key × EE) : TE × TE := (tC (kV r.1), tV K W (vl r.2))
def KvP (K : PySem.W.Frag) (F : Hp) : List (Key × V) → List (Key × D) → Prop := Paired fun p q => p.1 = q.1 ∧ Dp K F p.2 q.2
theorem pairs_of : ∀ (rs : List (Key × EE)) {c : Ctx} {F : Hp} {sl : Sl} {σ : L2.St} {H : Hp} {Q : List (V × V) → Hp → Prop}, c.K = K → Rel c F sl σ H →
    OutOk (dispL rs sl) (fun ds sl' => ∀ kvs F' H', Same F F' → Rel c F' sl' σ H' → KvP c.K F' kvs ds → Q (kvs.map fun kv => (kV kv.1, kv.2)) H') (ExcP c W σ) → tPairs (rs.map (trD K W)) σ H Q
  | [], c, F, sl, σ, H, Q, ek, R, q => q [] F H (Same.refl F) R .nil
  | (k, f) :: rs, c, F, sl, σ, H, Q, ek, R, q => by
    refine ⟨c, F, sl, ek, R, (OutOk.bind q).imp fun d sl1 q1 v F1 H1 s1 R1 d1 => ?_⟩
    refine pairs_of rs ek R1 ((OutOk.bind q1).imp fun ds sl2 q2 kvs F2 H2 s2 R2 p2 => ?_)
    exact q2 ((k, v) :: kvs) F2 H2 (Same.trans s1 s2) R2 (.cons ⟨rfl, Den.mono s2 d1⟩ p2)
theorem pps_c {k v : Expr} {ks : List (Option Expr)} {vs : List Expr} {ky : Key} {f : EE} {rs : List (Key × EE)} (hk : PE X k (tC (kV ky))) (hv : PE X v (tE X.K W f)) (hr : PPs X pos ks vs (rs.map (trD X.K W))) :
    PPs X pos (some k :: ks) (v :: vs) (((ky, f) :: rs).map (trD X.K W)) := pps_cons hk (pe_vl hv) hr
theorem pps_n : PPs X pos [] [] (([] : List (Key × EE)).map (trD X.K W)) := pps_nil
theorem kv_merge : ∀ {kvs : List (Key × V)} {ds : List (Key × D)} {xs : List (Key × V)} {es : List (D × D)}, KvP K F kvs ds → KvR K F xs es → KvR K F (mergeK xs kvs) (mergeD es ds)
  | _, _, _, _, .nil, h => h
  | (k, v) :: kvs, (k', d) :: ds, xs, es, .cons hp t, h => by
    obtain ⟨e1, e2⟩ := hp
    dsimp only at e1 e2
    subst e1
    exact kv_merge (xs := putK xs k v) (es := dput es k d) t (kv_put h k e2)
theorem OutOk.lenD {rs : List (Key × EE)} {sl : Sl} {P : List (Key × D) → Sl → Prop} {Y : Str → D → Sl → Prop} : OutOk (dispL rs sl) P Y → OutOk (dispL rs sl) (fun ds sl' => ds.length = rs.length ∧ P ds sl') Y := by
  induction rs generalizing sl P with
  | nil => exact fun h => ⟨rfl, h⟩
  | cons r rs ih =>
    obtain ⟨k, f⟩ := r
    intro h
    have h1 := OutOk.bind (k := fun d sl1 => (dispL rs sl1).bind fun ds sl2 => .ok ((k, d) :: ds) sl2) h
    unfold dispL
    cases z : vl f sl with
    | ok d sl1 =>
      rw [z] at h1
      have h2 := ih (OutOk.bind h1)
      show OutOk ((dispL rs sl1).bind fun ds sl2 => Out.ok ((k, d) :: ds) sl2) _ _
      cases z2 : dispL rs sl1 with
      | ok ds sl2 =>
        rw [z2] at h2
        exact ⟨congrArg (· + 1) h2.1, h2.2⟩
      | exc cn d2 sl2 => rw [z2] at h2; exact h2
      | stuck => rw [z2] at h2; exact h2
    | exc cn d2 sl2 => rw [z] at h1; exact h1
    | stuck => rw [z] at h1; exact h1
theorem Rel.pinN (R : Rel c F sl σ H) {p : Addr} (hp : H p = none) (o : HO) : Rel (c.pin p o) F sl σ (upd H p o) :=
  (R.newO hp o).pin upd_same (Same.free R.sub hp) (R.notH0 hp) (R.notOwn hp)
theorem pe_dispE {keys : List (Option Expr)} {values : List Expr} {rs : List (Key × EE)} (h : PPs X pos keys values (rs.map (trD X.K W))) (hall : keys.all (·.isSome) = true := by rfl) (hl : keys.length = values.length := by rfl) (h0 : keys ≠ [] := by intro z; cases z)
    (h15 : keys.length ≤ 15 := by decide) (hr : rs.length ≤ 15 := by decide) : PE X (.Dict keys values pos) (tE X.K W (dispE rs)) := pe_imp (pe_disp h hall hl h0 h15) fun σ H Q ⟨c, F, sl, ek, R, q⟩ p hp => by
  have hio : ∀ i, (i, p) ∉ c.ios := fun i hi => by
    obtain ⟨z1, d, z2⟩ := R.io i p hi
    exact R.notOwn hp i ⟨by rw [z2]; rfl, z1⟩
  have q1 := OutOk.lenD (OutOk.bind q)
  refine pairs_of rs (c := c.pin p (.dK [])) ek (R.pinN hp _) ?_
  cases z : dispL rs sl with
  | ok ds sl1 =>
    rw [z] at q1
    obtain ⟨hn, q1⟩ := q1
    intro kvs F' H' s' R' p'
    obtain ⟨R2, hL, hF, hn2⟩ := R'.unpin (R.notH0 hp) hio
    refine ⟨hL, kvs, rfl, by rw [Paired.length p', hn]; exact hr, ?_⟩
    exact q1 (.ref p) F' _ s' (R2.other (R.notH0 hp) hF hn2) ⟨p, rfl, R.notH0 hp, hF, ⟨_, upd_same, kv_merge p' .nil⟩, hn2⟩
  | exc cn d sl1 =>
    rw [z] at q1
    intro dd v F' H' R' hd hv
    exact q1 dd v F' H' (R'.unpin (R.notH0 hp) hio).1 hd hv
  | stuck => rw [z] at q1; exact q1.elim

/-! ### name op= e: ints -/
def augS (i : Nat) (g : Int → Int → Int) (fv : EE) : SS := fun sl => match sl[i]? with
  | some (.val (.int x)) => doS (vl fv sl) fun d sl1 => match d with
    | .int y => toNx (setT i (.val (.int (g x y))) sl1)
    | _ => .stuck
  | _ => .stuck
theorem ss_aug {i : Nat} {x : Str} {op : Operator} {g : Int → Int → Int} {pos' : Pos} (ho : PIp X op (ipI g)) (hN : X.N.Nodup) (hi : X.N[i]? = some x) (hx : Loc X.env.scope x) (he : PE X e (tE X.K W fv)) (hf : X.fn x = true ∨ X.env.scope.names.lookup x = some .local := by first | exact .inl rfl | exact .inr rfl | assumption) :
    PS X (.AugAssign (.Name x pos') op e pos) (tS X.K W (augS i g fv)) := ps_imp (ps_aug hN hi hx (pe_vl he) ho hf) fun E σ H ⟨c, F, sl, ek, R, q⟩ => by
  unfold augS at q
  dsimp only at q
  cases z : sl[i]? with
  | none => rw [z] at q; exact q.elim
  | some cl =>
    rw [z] at q
    have hc := R.cell i cl z
    cases cl with
    | val d0 =>
      cases d0 with
      | int n =>
        obtain ⟨v, e1, e2⟩ := hc
        have ev := Den.int e2
        subst ev
        refine ⟨.int n, e1, c, F, sl, ek, R, (OutOk.srp q).imp fun d sl1 q1 u F1 H1 s1 R1 d1 => ?_⟩
        cases d with
        | int m =>
          obtain ⟨sl3, e3, q3⟩ := toNx_ok q1
          exact ⟨n, m, rfl, Den.int d1, q3 _ F1 H1 s1 (Rel.setTm (t := .val (.int (g n m))) R1 (den_int (g n m)) (fun k z => by cases z) e3)⟩
        | _ => exact q1.elim
      | _ => exact q.elim
    | _ => exact q.elim
end
end Eng
set_option Elab.async false
set_option linter.all false
set_option maxRecDepth 100000
set_option maxHeartbeats 2000000
/-! THE ENGINE, 12: enumerate, zip. -/
namespace PySem
open Sem (wp)
namespace EngB
theorem meets_enumerate_newT (l : Addr) (items : Array Value) :
    Meets (Builtin.«enumerate.__new__» ⟨[.type "enumerate", .ref l], []⟩) (fun _ R s => s.heap.IsTuple l items ∧
      R (.ok (.ret (.ref (s.heap.push { cls := .type "tuple_iterator", data := .fields #[.ref l, .int 0 0] }).objs.size)))
        { s with heap := (s.heap.push { cls := .type "tuple_iterator", data := .fields #[.ref l, .int 0 0] }).push { cls := .type "enumerate", data := .fields #[.none, .bool false, .ref s.heap.objs.size, rawInt 0, .none, .none] } }) :=
  .of_wp fun prog w A R s h => by
    obtain ⟨hp, g, d, tk, os⟩ := s; obtain ⟨hl, h⟩ := h
    have hsub := sub_enumerate
    have q1 : ∀ {A' : Around} {E : Value → Shared → Prop} {Q : Value → Shared → Prop}, Q (.ref hp.objs.size) ⟨hp.push { cls := .type "tuple_iterator", data := .fields #[.ref l, .int 0 0] }, g, d, tk, os⟩ → wpAny (model prog w) A' (pyIter (.ref l)) Q E ⟨hp, g, d, tk, os⟩ :=
      fun q => (begins_tuple l items).iter prog w _ _ ⟨hp, g, d, tk, os⟩ _ hl q
    wp_walk using q1
    refine wpAny_stack_any fun st => wpAny_pure ?_
    split
    · rename_i c _ _ _ _ _
      cases (c == Value.type "enumerate")
      · wp_walk using q1
        exact ⟨_, rfl, h⟩
      · wp_walk using q1
        exact ⟨_, rfl, h⟩
    · wp_walk using q1
      exact ⟨_, rfl, h⟩
section
variable {prog : Program} {w : World} {A : Around} {E : Value → Shared → Prop} {s : Shared}
theorem call_enumerate_tuple {l : Addr} {items : Array Value} {Q : Value → Shared → Prop} (hL : s.heap.IsTuple l items)
    (h : ∀ h', IsEnum h' (s.heap.objs.size + 1) s.heap.objs.size 0 .none → h'.IsTupleIter s.heap.objs.size l 0 → h'.objs.size = s.heap.objs.size + 2 →
      (∀ b o, s.heap.get? b = some o → h'.get? b = some o) → Q (.ref (s.heap.objs.size + 1)) { s with heap := h' }) :
    wpAny (model prog w) A (call (.type "enumerate") [.ref l]) Q E s := by
  refine callType_new F.called_enumerate (by decide) (F.typeCall_enumerate_1 _) (F.newCall_enumerate_1 _) (fun obj => F.args_object_init_2 obj _) F.entry_enumerate_new
    (meets_enumerate_newT l items) ⟨hL, ?_⟩
  have hz : (s.heap.push { cls := .type "tuple_iterator", data := .fields #[.ref l, .int 0 0] }).objs.size = s.heap.objs.size + 1 := Heap.size_push ..
  show _ ∧ _
  rw [hz]
  have he : IsEnum ((s.heap.push { cls := .type "tuple_iterator", data := .fields #[.ref l, .int 0 0] }).push
      { cls := .type "enumerate", data := .fields #[.none, .bool false, .ref s.heap.objs.size, rawInt 0, .none, .none] }) (s.heap.objs.size + 1) s.heap.objs.size 0 .none := by
    have := Heap.get?_push_size (s.heap.push { cls := .type "tuple_iterator", data := .fields #[.ref l, .int 0 0] })
      (o := { cls := .type "enumerate", data := .fields #[.none, .bool false, .ref s.heap.objs.size, rawInt 0, .none, .none] }) rfl
    rw [hz] at this; exact this
  refine ⟨⟨_, he, rfl⟩, h _ he ⟨_, Heap.get?_push_of_some _ (Heap.get?_push_size _ rfl), rfl, rfl⟩ (by rw [Heap.size_push, hz]) fun b o x => Heap.get?_push_of_some _ (Heap.get?_push_of_some _ x)⟩
end
end EngB
end PySem
namespace Eng
open PySem L2 PyProof.Rows
theorem wpAny_pyNext_enumT_end {prog : Program} {w : World} {A : Around} {E : Value → Shared → Prop} {s : Shared} {e it l : Addr} {i : Nat} {c : Int} {items : Array Value} {old : Value} {Q : Option Value → Shared → Prop} (hh : A.handled = none)
    (he : IsEnum s.heap e it c old) (hit : s.heap.IsTupleIter it l i) (hl : s.heap.IsTuple l items) (hx : items[i]? = none)
    (hQ : ∀ h', Heap.ExtBut it s.heap h' → Q none { s with heap := h' }) : wpAny (model prog w) A (pyNext (.ref e)) Q E s := by
  have hT : s.TypeIs (.ref e) "enumerate" := ⟨_, he, rfl⟩
  unfold pyNext
  refine wpAny_bind (wpAny_attempt (wpAny_callSpecial?_slot (name := Str.ofString "__next__") hT F.slot_enumerate_next
    (wpAny_call_entry F.slot_enumerate_next hT F.entry_enumerate_next ?_ (F.args_enumerate_next_1 _))))
  show wpAny _ _ (field (.ref e) 2 >>= _) _ _ _
  refine wpAny_bind (wpAny_field he rfl (x := .ref it) rfl ?_)
  refine wpAny_bind (wpAny_nextOf_tuple_end hh hit hl hx fun h' x he' hx' => ?_)
  obtain ⟨o, ho, hc⟩ := hx'
  refine wpAny_bind (wpAny_isInstance (T := "StopIteration") (b := true) ⟨o, ho, hc⟩ isSubtype_stop ?_)
  exact wpAny_pure (hQ _ he')
/-- the tuple at a, each item in a new pair -/
def IteT (K : PySem.W.Frag) (a : Addr) : It :=
  ⟨fun i H => ∃ (xs : List V) (x : V), SqT K H a xs ∧ xs[i]? = some x, fun i H v H' => ∃ T x, v = .ref T ∧ H T = none ∧ H' = upd H T (.tup [.int (i : Nat), x]) ∧ ∀ xs, SqT K H a xs → xs[i]? = some x, fun i H => ∃ xs : List V, SqT K H a xs ∧ xs.length ≤ i⟩
theorem turn_enumT {P : Program} {w : World} {K : PySem.W.Frag} {elts : List Expr} {kk : Nat} {tpos : Pos} (a e it : Addr) :
    Turn P w K (.Tuple elts kk tpos) (IteT K a) [e, it] e (fun i h => (∃ old, IsEnum h e it ((i : Nat) : Int) old) ∧ h.IsTupleIter it a i ∧ e ≠ it ∧ e ≠ a ∧ a ≠ it) where
  mem := by simp
  obj := fun i h st b hb => by
    obtain ⟨⟨old, he⟩, ⟨o, ho, hc, hd⟩, _⟩ := st
    have e' : b = e ∨ b = it := by simpa using hb
    rcases e' with z | z
    · rw [z]; exact ⟨_, he, fun v q => nomatch q⟩
    · rw [z]; exact ⟨o, ho, fun v q => by rw [hd] at q; cases q⟩
  keep := fun i h h' st k => let ⟨⟨old, he⟩, hi, hne⟩ := st; ⟨⟨old, k e (by simp) _ he⟩, hi.at fun o q => k it (by simp) o q, hne⟩
  item := by
    intro X hP hw hK hc i pins s σ H E I hf st hg
    subst hP hw hK
    obtain ⟨⟨old, he⟩, hit, hne, hea, hai⟩ := st
    obtain ⟨xs, x, hq, hx⟩ := hg
    obtain ⟨its, rv, p, hz⟩ := I.tuple hq
    obtain ⟨u, hu, ru⟩ := rv.get hx
    have hel : e < s.heap.objs.size := Heap.lt_size he
    have hil : it < s.heap.objs.size := by obtain ⟨_, q, _⟩ := hit; exact Heap.lt_size q
    have hlt : i < its.toArray.size := by
      rw [List.size_toArray, ← rv.length]
      exact (List.getElem?_eq_some_iff.mp hx).1
    refine wpAny_pyNext_enum_itemD (Draws.tuple (A := X.A.in1) (I.ok.hd hc) it a hai its.toArray) he ⟨hit, p⟩ hlt hne (by
      intro z
      rcases List.mem_cons.mp z with z | z
      · exact hne z
      · rcases List.mem_cons.mp z with z | z
        · exact hea z
        · cases z) fun x' h' tk hP' ho hst' hT hsz hk => ?_
    have hxu : x' = u := by
      have z : its.toArray[i]? = some u := by simpa using hu
      rw [z] at hP'
      exact (Option.some.inj hP').symm
    subst hxu
    refine ⟨_, rfl, wpAny_letOwnedTupleGo_enum (s := { s with heap := h', toks := tk + 1 }) ho fun h'' he' sb => ?_⟩
    have hT2 : h''.get? s.heap.objs.size = some { cls := .type "tuple", data := .seq #[.int i tk, x'] } := (sb.2 _ (Nat.ne_of_gt hel)).trans hT
    have new : ObjOk X.prog X.w (upd H s.heap.objs.size (.tup [.int (i : Nat), x])) h'' s.heap.objs.size (.tup [.int (i : Nat), x]) :=
      ⟨by show 2 ≤ sizeLine; decide, [.int i tk, x'], .cons ⟨_, rfl⟩ (.cons ru .nil), ⟨_, hT2, rfl, _, rfl⟩⟩
    have I1 : Inv X pins σ (upd H s.heap.objs.size (.tup [.int (i : Nat), x])) { s with heap := h'', toks := tk + 1 } :=
      I.turnedNew (ch := [e, it]) (fun b ob hb q => (sb.2 b (fun z => hb (by simp [z]))).trans (hk b ob (fun z => hb (by simp [z])) (fun z => hb (by simp [z])) q)) hf (Nat.le_refl _) new
    refine ⟨.ref s.heap.objs.size, _, I1, rfl, ⟨_, x, rfl, I.hok.fresh (Nat.le_refl _), rfl, fun ys hy => by rw [I.tuple_inj hy hq]; exact hx⟩, ⟨⟨x', ?_⟩, hst'.1.at fun o q => (sb.2 it (Ne.symm hne)).trans q, hne, hea, hai⟩, fun b hb => ?_⟩
    · have e1 : ((i + 1 : Nat) : Int) = (i : Int) + 1 := by omega
      rw [e1]; exact he'
    · have hb' : b < s.heap.objs.size := by
        have e' : b = e ∨ b = it := by simpa using hb
        rcases e' with z | z
        · rw [z]; exact hel
        · rw [z]; exact hil
      rw [upd_ne (Nat.ne_of_lt hb')]
      exact (hf b hb).1
  done := by
    intro X hP hw hK hc i pins s σ H E I hf st hg
    subst hP hw hK
    obtain ⟨⟨old, he⟩, hit, hne, hea, hai⟩ := st
    obtain ⟨xs, hq, hx⟩ := hg
    obtain ⟨its, rv, p, hz⟩ := I.tuple hq
    obtain ⟨f0, f1, f2, f3, f4, f5⟩ := hf it (by simp)
    have hl := rv.length
    exact wpAny_pyNext_enumT_end (I.ok.hd hc) he hit p (by simp; omega) fun h' eb => ⟨rfl, I.turned (t' := s.toks) (fun b o hb q => eb b o hb q) f0 f1 f3 f4 f5⟩
  self := fun A i s Q E st h => let ⟨⟨_, he⟩, _⟩ := st; wpAny_pyIter_enum he h
theorem walk_enumT {K : PySem.W.Frag} {a : Addr} {xs : List V} : Walk (IteT K a) xs.length (fun H => SqT K H a xs) (YPair (fun i => some (.int (i : Nat))) (fun i => xs[i]?)) := by
  refine ⟨fun i _ hi q => ⟨xs, xs[i], q, by simp [hi]⟩, fun _ q => ⟨xs, q, Nat.le_refl _⟩, fun i H v H' _ q y => ?_⟩
  obtain ⟨T, x, h1, h2, h3, h4⟩ := y
  exact ⟨T, .int (i : Nat), x, h1, h2, h3, rfl, h4 xs q⟩
theorem walk_zipT {K : PySem.W.Frag} {a b : Addr} {xs ys : List V} {n : Nat} (hn : n = min xs.length ys.length) : Walk (RZ.ItzT K a b) n (fun H => SqT K H a xs ∧ SqT K H b ys) (YPair (fun i => xs[i]?) (fun i => ys[i]?)) := by
  subst hn
  refine ⟨fun i _ hi q => ?_, fun _ q => ⟨xs, ys, q.1, q.2, by omega⟩, fun i H v H' _ q y => ?_⟩
  · have h1 : i < xs.length := by omega
    have h2 : i < ys.length := by omega
    exact ⟨xs, ys, xs[i], ys[i], q.1, q.2, by simp [h1], by simp [h2]⟩
  · obtain ⟨T, x, z, h1, h2, h3, h4, h5⟩ := y
    exact ⟨T, x, z, h1, h2, h3, h4 xs q.1, h5 ys q.2⟩
theorem pi_enumT {X : Cx} {e : Expr} {ta : TA} {p pos tpos : Pos} {elts : List Expr} {kk : Nat} (hg : Gl X "enumerate") (hm : X.mg "enumerate" = none) (ha : PA X [e] ta) (hs : starEach [e] X.env = [(false, eval e X.env)] := by rfl) :
    PI X (.Tuple elts kk tpos) (.Call (.Name "enumerate" p) [e] [] pos) (fun σ H R => ta σ H fun vs H1 => ∃ a xs, vs = [.ref a] ∧ ((SqL X.K H1 a xs ∧ R (Ite X.K a) H1) ∨ (SqT X.K H1 a xs ∧ R (IteT X.K a) H1))) := by
  refine ⟨fun pins s σ H R I h => ?_⟩
  refine Call_ (ld_blt I hg hm boot_enumerate (PyProof.Rows.callWith_type1 (thn (ha.run pos pins s σ H _ I h) fun us s1 ⟨vs, H1, I1, r1, q1⟩ => ?_) hs rfl))
  obtain ⟨a, xs, ex, q⟩ := q1
  subst ex
  cases r1 with
  | cons r rr =>
    cases rr
    cases r
    have fr : ∀ b, b ∈ [s1.heap.objs.size + 1, s1.heap.objs.size] → FpOk X pins H1 b := fun b hb => by
      have e' : b = s1.heap.objs.size + 1 ∨ b = s1.heap.objs.size := by simpa using hb
      have hle : s1.heap.objs.size ≤ b := by
        rcases e' with z | z
        · rw [z]; exact Nat.le_add_right _ _
        · rw [z]; exact Nat.le_refl _
      exact I1.fpOk hle (I1.hok.fresh hle)
    rcases q with ⟨hq, q⟩ | ⟨hq, q⟩
    · obtain ⟨its, rv, p', hz⟩ := I1.list hq
      refine call_enumerate_list p'.isList fun h' he hit hsz hk => wpAny_pyIter_enum he ?_
      have I2 : Inv X pins σ H1 { s1 with heap := h' } := I1.kept (t' := s1.toks) hk
      exact ⟨s1.heap.objs.size + 1, [s1.heap.objs.size + 1, s1.heap.objs.size], _, _, H1, rfl, I2, turn_enum a (s1.heap.objs.size + 1) s1.heap.objs.size, ⟨⟨.none, he⟩, hit, Nat.succ_ne_self _⟩, fr, q⟩
    · obtain ⟨its, rv, p', hz⟩ := I1.tuple hq
      have hlt : a < s1.heap.objs.size := by obtain ⟨o, ho, _⟩ := id p'; exact Heap.lt_size ho
      refine EngB.call_enumerate_tuple (show s1.heap.IsTuple a its.toArray from p') fun h' he hit hsz hk => wpAny_pyIter_enum he ?_
      have I2 : Inv X pins σ H1 { s1 with heap := h' } := I1.kept (t' := s1.toks) hk
      exact ⟨s1.heap.objs.size + 1, [s1.heap.objs.size + 1, s1.heap.objs.size], _, _, H1, rfl, I2, turn_enumT a (s1.heap.objs.size + 1) s1.heap.objs.size, ⟨⟨.none, he⟩, hit, Nat.succ_ne_self _, (fun z => by have hlt' := hlt; rw [← z] at hlt'; exact Nat.not_succ_le_self _ (Nat.le_of_lt hlt')), Nat.ne_of_lt hlt⟩, fr, q⟩
/-! in the engine -/
def enumD : Nat → List D → List D
  | _, [] => []
  | n, d :: ds => .tuple [.int (n : Nat), d] :: enumD (n + 1) ds
def zipD : List D → List D → List D
  | d :: ds, e :: es => .tuple [d, e] :: zipD ds es
  | _, _ => []
def enumI (f : EE) : IT := fun sl => (vl f sl).bind fun d sl1 => match d with
  | .list ds => .ok (enumD 0 ds) sl1
  | .tuple ds => .ok (enumD 0 ds) sl1
  | _ => .stuck
def zipI (f g : EE) : IT := fun sl => (vl f sl).bind fun d sl1 => (vl g sl1).bind fun e sl2 => match d, e with
  | .list ds, .list es => .ok (zipD ds es) sl2
  | .tuple ds, .tuple es => .ok (zipD ds es) sl2
  | _, _ => .stuck
theorem enumD_len : ∀ (n : Nat) (ds : List D), (enumD n ds).length = ds.length
  | _, [] => rfl
  | n, d :: ds => congrArg (· + 1) (enumD_len (n + 1) ds)
theorem enumD_get : ∀ (n : Nat) (ds : List D) (i : Nat) (d : D), (enumD n ds)[i]? = some d → ∃ x, ds[i]? = some x ∧ d = .tuple [.int ((n + i : Nat) : Int), x]
  | _, [], _, _, h => by cases h
  | n, x :: ds, 0, d, h => ⟨x, rfl, (Option.some.inj h).symm⟩
  | n, x :: ds, i + 1, d, h => by
    obtain ⟨y, h1, h2⟩ := enumD_get (n + 1) ds i d h
    refine ⟨y, h1, ?_⟩
    rw [h2]
    have e : n + 1 + i = n + (i + 1) := by omega
    rw [e]
theorem zipD_len : ∀ (ds es : List D), (zipD ds es).length = min ds.length es.length
  | [], _ => by simp [zipD]
  | _ :: _, [] => by simp [zipD]
  | d :: ds, e :: es => by
    show (zipD ds es).length + 1 = min (ds.length + 1) (es.length + 1)
    rw [zipD_len ds es]; omega
theorem zipD_get : ∀ (ds es : List D) (i : Nat) (d : D), (zipD ds es)[i]? = some d → ∃ x y, ds[i]? = some x ∧ es[i]? = some y ∧ d = .tuple [x, y]
  | [], _, _, _, h => by cases h
  | _ :: _, [], _, _, h => by cases h
  | x :: ds, y :: es, 0, d, h => ⟨x, y, rfl, rfl, (Option.some.inj h).symm⟩
  | x :: ds, y :: es, i + 1, d, h => zipD_get ds es i d h
section
variable {X : Cx} {W : WX} {e : Expr} {c : Ctx} {F F' H H' : Hp} {σ : L2.St} {sl : Sl} {K : PySem.W.Frag} {a b : Expr} {fa fb fc fv : EE} {pos p : Pos}
theorem walkEn {J : It} {G : Hp → Prop} {xs : List V} {ds : List D} (w : Walk J xs.length G (YPair (fun i => some (.int (i : Nat))) (fun i => xs[i]?))) (hG : ∀ H, Same F H → G H) (hd : DpAll K F xs ds) : WalkD K F J (enumD 0 ds) := by
  refine ⟨YPair (fun i => some (.int (i : Nat))) (fun i => xs[i]?), ?_, fun i x H H' d e s y => ?_⟩
  · rw [enumD_len, ← dpAll_len hd]
    exact w.mono hG fun _ _ _ _ _ _ y => y
  · obtain ⟨T, v1, v2, rfl, h2, rfl, h4, h5⟩ := y
    obtain ⟨z, e1, rfl⟩ := enumD_get 0 ds i d e
    obtain ⟨v, e2, e3⟩ := dpAll_get hd e1
    have h5' : xs[i]? = some v2 := h5
    rw [e2] at h5'; cases h5'
    cases h4
    rw [Nat.zero_add]
    exact .inr ⟨T, _, _, rfl, h2, rfl, rfl, .cons (.int _) (.cons e3 .nil)⟩
theorem walkZi {J : It} {G : Hp → Prop} {xs ys : List V} {ds es : List D} (w : ∀ n, n = min xs.length ys.length → Walk J n G (YPair (fun i => xs[i]?) (fun i => ys[i]?))) (hG : ∀ H, Same F H → G H) (hd : DpAll K F xs ds) (he : DpAll K F ys es) : WalkD K F J (zipD ds es) := by
  refine ⟨YPair (fun i => xs[i]?) (fun i => ys[i]?), ?_, fun i x H H' d e s y => ?_⟩
  · exact (w _ (by rw [zipD_len, ← dpAll_len hd, ← dpAll_len he])).mono hG fun _ _ _ _ _ _ y => y
  · obtain ⟨T, v1, v2, rfl, h2, rfl, h4, h5⟩ := y
    obtain ⟨z1, z2, e1, e2, rfl⟩ := zipD_get ds es i d e
    obtain ⟨w1, e3, e4⟩ := dpAll_get hd e1
    obtain ⟨w2, e5, e6⟩ := dpAll_get he e2
    have h4' : xs[i]? = some v1 := h4
    have h5' : ys[i]? = some v2 := h5
    rw [e3] at h4'; cases h4'
    rw [e5] at h5'; cases h5'
    exact .inr ⟨T, _, _, rfl, h2, rfl, rfl, .cons e4 (.cons e6 .nil)⟩
theorem pi_enumE {tpos : Pos} {elts : List Expr} {kk : Nat} (hg : Gl X "enumerate") (hm : X.mg "enumerate" = none) (h : PE X a (tE X.K W fa)) (hs : starEach [a] X.env = [(false, eval a X.env)] := by rfl) :
    PI X (.Tuple elts kk tpos) (.Call (.Name "enumerate" p) [a] [] pos) (tI X.K W (enumI fa)) := pi_imp (pi_enumT hg hm (pa_cons (pe_vl h) pa_nil hs) hs) fun σ H Q ⟨c, F, sl, ek, R, q⟩ => by
  refine ⟨c, F, sl, ek, R, (OutOk.bind q).imp fun d sl1 q1 v F1 H1 s1 R1 d1 => ?_⟩
  cases d with
  | list ds =>
    obtain ⟨ad, xs, rfl, h1, h2⟩ := Den.lst d1
    exact ⟨ad, xs, rfl, .inl ⟨by rw [← ek]; exact Same.seq R1.sub h1, q1 _ F1 H1 s1 R1 (by rw [← ek]; exact walkEn walk_enum (fun H s => Same.seq s h1) h2)⟩⟩
  | tuple ds =>
    obtain ⟨ad, xs, rfl, h1, h2⟩ := Den.tup d1
    exact ⟨ad, xs, rfl, .inr ⟨by rw [← ek]; exact Same.sqT R1.sub h1, q1 _ F1 H1 s1 R1 (by rw [← ek]; exact walkEn walk_enumT (fun H s => Same.sqT s h1) h2)⟩⟩
  | _ => exact q1.elim
theorem pi_zipE {tpos : Pos} {elts : List Expr} {kk : Nat} (hg : Gl X "zip") (hm : X.mg "zip" = none) (h : PE X a (tE X.K W fa)) (h' : PE X b (tE X.K W fb)) (hs : starEach [a, b] X.env = (false, eval a X.env) :: starEach [b] X.env := by rfl) (hs2 : starEach [b] X.env = (false, eval b X.env) :: starEach [] X.env := by rfl) :
    PI X (.Tuple elts kk tpos) (.Call (.Name "zip" p) [a, b] [] pos) (tI X.K W (zipI fa fb)) := pi_imp (RZ.pi_zipA hg hm (pa_cons (pe_vl h) (pa_cons (pe_vl h') pa_nil hs2) hs) hs (by rw [hs2]; rfl)) fun σ H Q ⟨c, F, sl, ek, R, q⟩ => by
  refine ⟨c, F, sl, ek, R, (OutOk.bind q).imp fun d sl1 q1 v F1 H1 s1 R1 d1 => ⟨c, F1, sl1, ek, R1, (OutOk.bind q1).imp fun d' sl2 q2 v' F2 H2 s2 R2 d2 => ?_⟩⟩
  have d1' := Den.mono s2 d1
  cases d with
  | list ds =>
    cases d' with
    | list es =>
      obtain ⟨ad, xs, rfl, h1, h2⟩ := Den.lst d1'
      obtain ⟨ad', ys, rfl, h3, h4⟩ := Den.lst d2
      exact ⟨ad, ad', xs, ys, rfl, .inl ⟨by rw [← ek]; exact Same.seq R2.sub h1, by rw [← ek]; exact Same.seq R2.sub h3, q2 _ F2 H2 (Same.trans s1 s2) R2 (by rw [← ek]; exact walkZi (fun n hn => walk_zip hn) (fun H s => ⟨Same.seq s h1, Same.seq s h3⟩) h2 h4)⟩⟩
    | _ => exact q2.elim
  | tuple ds =>
    cases d' with
    | tuple es =>
      obtain ⟨ad, xs, rfl, h1, h2⟩ := Den.tup d1'
      obtain ⟨ad', ys, rfl, h3, h4⟩ := Den.tup d2
      exact ⟨ad, ad', xs, ys, rfl, .inr ⟨by rw [← ek]; exact Same.sqT R2.sub h1, by rw [← ek]; exact Same.sqT R2.sub h3, q2 _ F2 H2 (Same.trans s1 s2) R2 (by rw [← ek]; exact walkZi (fun n hn => walk_zipT hn) (fun H s => ⟨Same.sqT s h1, Same.sqT s h3⟩) h2 h4)⟩⟩
    | _ => exact q2.elim
  | _ => exact q2.elim
end
end Eng
set_option Elab.async false
set_option linter.all false
set_option maxRecDepth 100000
set_option maxHeartbeats 2000000
/-! THE ENGINE, 13: a list or a tuple as iterable; a def told by name; constants of the module. -/
namespace Eng
open PySem L2 PyProof.Rows
section
variable {X : Cx} {W : WX} {e : Expr} {c : Ctx} {F F' H H' : Hp} {σ : L2.St} {sl : Sl} {K : PySem.W.Frag} {a b : Expr} {fa fb fc fv : EE} {pos p : Pos}
theorem pi_any {tg l : Expr} {tl : TE} (hl : PE X l tl) : PI X tg l (fun σ H R => tl σ H fun x H1 => ∃ a, x = .ref a ∧ (((∃ xs, SqL X.K H1 a xs) ∧ R (Itl X.K a) H1) ∨ ((∃ xs, SqT X.K H1 a xs) ∧ R (Itt X.K a) H1))) := by
  refine ⟨fun pins s σ H R I h => ?_⟩
  refine thn (hl.run pins s σ H _ I h) fun v s1 ⟨x, H1, I1, r1, q1⟩ => ?_
  obtain ⟨a, e, q1⟩ := q1
  subst e
  cases r1
  have fr : ∀ b, b ∈ [s1.heap.objs.size] → FpOk X pins H1 b := fun b hb => by
    have e : b = s1.heap.objs.size := by simpa using hb
    subst e
    exact I1.fpOk (Nat.le_refl _) (I1.hok.fresh (Nat.le_refl _))
  rcases q1 with ⟨⟨xs, hq⟩, q⟩ | ⟨⟨xs, hq⟩, q⟩
  · obtain ⟨its, rv, p, hz⟩ := I1.list hq
    refine wpAny_pyIter_list p.isList ?_
    exact ⟨s1.heap.objs.size, [s1.heap.objs.size], _, _, H1, rfl, I1.kept (t' := s1.toks) fun b o e => Heap.get?_push_of_some _ e, turn_list a _, ⟨_, Heap.get?_push_size _ rfl, rfl, rfl⟩, fr, q⟩
  · obtain ⟨its, rv, p, hz⟩ := I1.tuple hq
    refine wpAny_pyIter_tuple (show s1.heap.IsTuple a its.toArray from p) ?_
    exact ⟨s1.heap.objs.size, [s1.heap.objs.size], _, _, H1, rfl, I1.kept (t' := s1.toks) fun b o e => Heap.get?_push_of_some _ e, turn_tuple a _, ⟨_, Heap.get?_push_size _ rfl, rfl, rfl⟩, fr, q⟩
theorem pi_seqI {tg : Expr} (h : PE X e (tE X.K W fa)) : PI X tg e (tI X.K W (seqI fa)) := pi_imp (pi_any (pe_vl h)) fun σ H Q ⟨c, F, sl, ek, R, q⟩ => by
  refine ⟨c, F, sl, ek, R, (OutOk.bind q).imp fun d sl1 q1 v F1 H1 s1 R1 d1 => ?_⟩
  cases d with
  | tuple ds =>
    obtain ⟨ad, xs, rfl, h1, h2⟩ := Den.tup d1
    exact ⟨ad, rfl, .inr ⟨⟨xs, by rw [← ek]; exact Same.sqT R1.sub h1⟩, q1 _ F1 H1 s1 R1 (by rw [← ek]; exact walkT h1 h2)⟩⟩
  | list ds =>
    obtain ⟨ad, xs, rfl, h1, h2⟩ := Den.lst d1
    exact ⟨ad, rfl, .inl ⟨⟨xs, by rw [← ek]; exact Same.seq R1.sub h1⟩, q1 _ F1 H1 s1 R1 (by rw [← ek]; exact walkL h1 h2)⟩⟩
  | _ => exact q1.elim
end

/-! ### a def told by name -/
def OkF (P : Program) (w : World) (K : PySem.W.Frag) (mg : Str → Option Value) (base : Heap) (x : Str) (k : Nat) (ps : List Str) (dds : List D) (g : FF) : Prop :=
  ∃ fd dvs ds, FnOk P w K mg base (L2.CX P w) k (He.ga K x) fd ps (spF K ps.length g) ∧ mg x = some (.ref (He.ga K x)) ∧ PySem.W.keepIn K (.ref (He.ga K x)) = true ∧ Binds K fd ps ds ∧ Vals dvs ds ∧ (∀ F, DenAll K F dvs dds) ∧ ∃ oc od osl, K.lookup (He.ga K x) = some ⟨oc, od, .func fd, osl⟩
section
variable {P : Program} {w : World} {K : PySem.W.Frag} {mg : Str → Option Value} {base : Heap} {x : Str} {k : Nat} {ps : List Str} {dds : List D} {g : FF}
theorem OkF.mono {j : Nat} (h : OkF P w K mg base x j ps dds g) (hj : j ≤ k) : OkF P w K mg base x k ps dds g := by
  obtain ⟨fd, dvs, ds, h1, h2⟩ := h
  exact ⟨fd, dvs, ds, h1.mono hj, h2⟩
/-- the text of a def -/
structure DefT (K : PySem.W.Frag) (mg : Str → Option Value) (x : Str) (ps : List Str) (params : Arguments) (body : List Stmt) (scope : Scope) (dvs0 : List V) (dds : List D) : Prop where
  ex : ∃ fd dvs ds, FunD K x x params body scope dvs0 [] (He.ga K x) fd ∧ mg x = some (.ref (He.ga K x)) ∧ Binds K fd ps ds ∧ Vals dvs ds ∧ ∀ F, DenAll K F dvs dds
theorem _root_.L2.FunD.look {qual : Str} {params : Arguments} {body : List Stmt} {scope : Scope} {dvs : List V} {kws : List (Str × V)} {f : Addr} {fd : FuncData} (F : FunD K x qual params body scope dvs kws f fd) : ∃ oc od osl, K.lookup f = some ⟨oc, od, .func fd, osl⟩ := by
  obtain ⟨oc, od, dV, kV, doc, pm, an, cdv, ct, osl, e, lk, _⟩ := F.ex
  exact ⟨oc, od, osl, lk⟩
theorem OkF.one {fd fd' : FuncData} {oc oc' : Value} {od od' : Option Addr} {osl osl' : Array (Option Value)} {f : Addr} (h : K.lookup f = some ⟨oc, od, .func fd, osl⟩) (h' : K.lookup f = some ⟨oc', od', .func fd', osl'⟩) : fd = fd' := by
  rw [h] at h'
  cases h'
  rfl
theorem DefT.ok {params : Arguments} {body : List Stmt} {scope : Scope} {dvs0 : List V} (D : DefT K mg x ps params body scope dvs0 dds) {Nm : List Str} {N : Nat} {sem : SS} (S : FnScope Nm ps scope) (hN : Nm.length = N) (hle : ps.length ≤ N)
    (hb : ∀ (f : Addr) (cdv : Value) (A : Around) (outer : List Env) (s : Shared) (H : Hp) (E : XK), Room k (A.deeper (envOfC x scope s.heap.objs.size f cdv)) →
      PSs (cxOf (L2.CX P w) P w K mg base Nm x scope f cdv A outer s H E) body (tS K (fun cls d _ H => E cls d H) sem)) : OkF P w K mg base x (k + 1) ps dds (fnOf ps.length N sem) := by
  obtain ⟨fd, dvs, ds, F, hm, hb1, hv, hd⟩ := D.ex
  exact ⟨fd, dvs, ds, def_ok F S rfl hN hle (fun cdv A outer s H E hr => hb _ cdv A outer s H E hr), hm, F.kp, hb1, hv, hd, F.look⟩
/-- a promise of nothing -/
theorem DefT.stuck {params : Arguments} {body : List Stmt} {scope : Scope} {dvs0 : List V} (D : DefT K mg x ps params body scope dvs0 dds) : OkF P w K mg base x k ps dds (fun _ => .stuck) := by
  obtain ⟨fd, dvs, ds, F, hm, hb1, hv, hd⟩ := D.ex
  refine ⟨fd, dvs, ds, ⟨fun vs H Q E h => ?_, fun A outer s H args us vs Q E _ _ _ _ h => ?_⟩, hm, F.kp, hb1, hv, hd, F.look⟩
  · obtain ⟨_, _, _, _, _, _, z⟩ := h
    exact z.elim
  · obtain ⟨_, _, _, _, _, _, z⟩ := h
    exact z.elim
end
section
variable {X : Cx} {W : WX} {e : Expr} {c : Ctx} {F F' H H' : Hp} {σ : L2.St} {sl : Sl} {K : PySem.W.Frag} {a b : Expr} {fa fb fc fv : EE} {pos p : Pos}
theorem pe_cf {x : Str} {k : Nat} {ps : List Str} {dds : List D} {g : FF} {es : List Expr} {as : List AM} (h : OkF X.prog X.w X.K X.mg X.base x k ps dds g) (hr : Room k X.A) (hg : Gl X x) (tk : Takes X W) (ha : PA X (e :: es) (tAs X.K W (asL as))) (hn : as.length + dds.length = ps.length := by rfl) (hdb : (x == ("__debug__" : Str)) = false := by decide)
    (he : starEach (e :: es) X.env = (false, eval e X.env) :: starEach es X.env := by rfl) (hpl : (backTo pos (starEach es X.env)).any (·.1) = false := by rfl) : PE X (.Call (.Name x p) (e :: es) [] pos) (tE X.K W (callE g dds as)) := by
  obtain ⟨fd, dvs, ds, h1, h2, h3, h4, h5, h6, _⟩ := h
  exact pe_fn h1 hr hg h2 h3 h4 h5 h6 tk ha (by rw [← hn]; exact congrArg (as.length + ·) (Paired.length (h6 (fun _ => none)))) hdb he hpl
end

/-! ### constants of the module -/
mutual
def chk (K : PySem.W.Frag) : Value → D → Bool
  | v, .none => decide (v = .none)
  | v, .bool b => decide (v = .bool b)
  | .int j _, .int i => decide (j = i)
  | .str y _, .str x => decide (y = x)
  | .ref a, .tuple ds => (match K.lookup a with
    | some ⟨.type t, _, .seq its _, _⟩ => decide (t = "tuple") && (decide (its.size ≤ sizeLine) && chkL K its.toList ds)
    | _ => false)
  | _, _ => false
def chkL (K : PySem.W.Frag) : List Value → List D → Bool
  | [], [] => true
  | v :: vs, d :: ds => chk K v d && chkL K vs ds
  | _, _ => false
end
mutual
theorem chk_ok {K : PySem.W.Frag} : ∀ (d : D) (v : Value), chk K v d = true → ∃ x, RelV x v ∧ ∀ F, Dp K F x d
  | .none, v, h => by
    cases v <;> simp [chk] at h
    exact ⟨.non, rfl, fun _ => .non⟩
  | .bool b, v, h => by
    cases v <;> simp [chk] at h
    subst h
    exact ⟨.bl _, rfl, fun _ => .bl _⟩
  | .int i, v, h => by
    cases v <;> simp [chk] at h
    subst h
    exact ⟨.int _, ⟨_, rfl⟩, fun _ => .int _⟩
  | .str x, v, h => by
    cases v <;> simp [chk] at h
    subst h
    exact ⟨.str _, ⟨_, rfl⟩, fun _ => .str _⟩
  | .list ds, v, h => by cases v <;> simp [chk] at h
  | .dict ds, v, h => by cases v <;> simp [chk] at h
  | .tuple ds, v, h => by
    cases v with
    | ref a =>
      unfold chk at h
      cases z : K.lookup a with
      | none => rw [z] at h; cases h
      | some o =>
        obtain ⟨oc, od, dt, os⟩ := o
        rw [z] at h
        cases oc with
        | type t =>
          cases dt with
          | seq its n =>
            dsimp only at h
            rw [Bool.and_eq_true, Bool.and_eq_true] at h
            obtain ⟨h1, h2, h3⟩ := h
            have h1' := of_decide_eq_true h1
            subst h1'
            obtain ⟨xs, r, d⟩ := chkL_ok ds its.toList h3
            exact ⟨.ref a, rfl, fun F => .tup (.inr ⟨_, its, n, z, rfl, rfl, of_decide_eq_true h2, r⟩) (d F)⟩
          | _ => cases h
        | _ => cases dt <;> cases h
    | _ => simp [chk] at h
theorem chkL_ok {K : PySem.W.Frag} : ∀ (ds : List D) (vs : List Value), chkL K vs ds = true → ∃ xs, Vals xs vs ∧ ∀ F, DpAll K F xs ds
  | [], vs, h => by
    cases vs with
    | nil => exact ⟨[], .nil, fun _ => .nil⟩
    | cons _ _ => simp [chkL] at h
  | d :: ds, vs, h => by
    cases vs with
    | nil => simp [chkL] at h
    | cons v vs =>
      unfold chkL at h
      rw [Bool.and_eq_true] at h
      obtain ⟨x, r, hd⟩ := chk_ok d v h.1
      obtain ⟨xs, rs, hds⟩ := chkL_ok ds vs h.2
      exact ⟨x :: xs, .cons r rs, fun F => .cons (hd F) (hds F)⟩
end
def CstG (K : PySem.W.Frag) (mg : Str → Option Value) (x : Str) (d : D) : Prop := ∃ u v, mg x = some u ∧ RelV v u ∧ ∀ F, Dp K F v d
theorem cstG_of {K : PySem.W.Frag} {mg : Str → Option Value} {x : Str} {d : D} (hm : mg x = some (.ref (He.ga K x))) (h : chk K (.ref (He.ga K x)) d = true) : CstG K mg x d := by
  obtain ⟨v, h1, h2⟩ := chk_ok d _ h
  exact ⟨_, v, hm, h1, h2⟩
theorem pe_cg {X : Cx} {W : WX} {p : Pos} {x : Str} {d : D} (h : CstG X.K X.mg x d) (hg : Gl X x) (hd : (x == ("__debug__" : Str)) = false := by decide) : PE X (.Name x p) (tE X.K W (cst d)) := by
  obtain ⟨u, v, h1, h2, h3⟩ := h
  exact pe_cst (pe_glob hg h1 h2 hd) h3
end Eng
set_option Elab.async false
set_option linter.all false
set_option maxRecDepth 100000
set_option maxHeartbeats 2000000
/-! THE ENGINE, 14: max, min of a list of ints. -/
namespace Eng
open PySem L2 PyProof.Rows
section
variable {X : Cx} {K : PySem.W.Frag}
def gMaxL : D → Option Tm := fun d => match (match d with | .list ds => intsOf ds | .tuple ds => intsOf ds | _ => none) with
  | some (n :: ns) => some (.val (.int (ns.foldl max n)))
  | _ => none
def gMinL : D → Option Tm := fun d => match (match d with | .list ds => intsOf ds | .tuple ds => intsOf ds | _ => none) with
  | some (n :: ns) => some (.val (.int (ns.foldl min n)))
  | _ => none
def rMaxL (K : PySem.W.Frag) (f : Int → List Int → Int) : List V → Hp → VK → Prop := fun vs H Q => ∃ a xs n ns, vs = [.ref a] ∧ (SqL K H a xs ∨ SqT K H a xs) ∧ xs = (n :: ns).map V.int ∧ Q (.int (f n ns)) H
theorem dp_ints {H : Hp} : ∀ ns : List Int, DpAll K H (ns.map V.int) (ns.map PyData.int)
  | [] => .nil
  | n :: ns => .cons (.int n) (dp_ints ns)
theorem alike_int1 (x y : Int) : PySem.W.alike (.int x) (.int y) = true := rfl
theorem alikeAll_ints (ns : List Int) : PySem.W.AlikeAll (ns.map PyData.int) := by
  refine ⟨fun x hx y hy => ?_, fun x hx => ?_⟩
  · obtain ⟨i, _, rfl⟩ := List.mem_map.mp hx
    obtain ⟨j, _, rfl⟩ := List.mem_map.mp hy
    rfl
  · obtain ⟨i, _, rfl⟩ := List.mem_map.mp hx
    intro z; cases z
theorem reads_int {h : Heap} {v : Value} {i : Int} {bs : List Addr} (r : Reads h v (.int i) bs) : RelV (.int i) v := by
  cases r
  exact ⟨_, rfl⟩
theorem call_maxI (hc : X.calm = true) (hu : X.A.units + 64 < cLine) : CallR X (.builtin "max") (rMaxL X.K fun n ns => ns.foldl max n) := by
  intro pins s σ H vs us Q I r h
  obtain ⟨a, xs, n, ns, rfl, hs, rfl, q⟩ := h
  obtain ⟨u, rfl, ru⟩ := vals1 r
  cases ru
  have hd : PyData.depthAll ((n :: ns).map PyData.int) = 0 := PySem.W.depth_ints _
  rcases hs with hs | hs
  · obtain ⟨its, rv, p, hz⟩ := I.list hs
    obtain ⟨as, ra⟩ := Dp.readsAll I _ _ its (dp_ints (n :: ns)) rv
    refine PySem.W.max_list_data (I.ok.hd hc) p.isList (vs := its.toArray) ra (alikeAll_ints (n :: ns)) (by
      have hd' : PyData.depthAll (PyData.int n :: ns.map PyData.int) = 0 := hd
      rw [hd']; omega) fun i v h' tk bs hi hr hk => ?_
    refine ⟨.int (ns.foldl max n), H, I.kept hk, ?_, q⟩
    rw [PySem.W.maxD_ints] at hr
    exact reads_int hr
  · obtain ⟨its, rv, p, hz⟩ := I.tuple hs
    obtain ⟨as, ra⟩ := Dp.readsAll I _ _ its (dp_ints (n :: ns)) rv
    refine PySem.W.max_tuple_data (I.ok.hd hc) (show s.heap.IsTuple a its.toArray from p) (vs := its.toArray) ra (alikeAll_ints (n :: ns)) (by
      have hd' : PyData.depthAll (PyData.int n :: ns.map PyData.int) = 0 := hd
      rw [hd']; omega) fun i v h' tk bs hi hr hk => ?_
    refine ⟨.int (ns.foldl max n), H, I.kept hk, ?_, q⟩
    rw [PySem.W.maxD_ints] at hr
    exact reads_int hr
theorem call_minI (hc : X.calm = true) (hu : X.A.units + 64 < cLine) : CallR X (.builtin "min") (rMaxL X.K fun n ns => ns.foldl min n) := by
  intro pins s σ H vs us Q I r h
  obtain ⟨a, xs, n, ns, rfl, hs, rfl, q⟩ := h
  obtain ⟨u, rfl, ru⟩ := vals1 r
  cases ru
  have hd : PyData.depthAll ((n :: ns).map PyData.int) = 0 := PySem.W.depth_ints _
  rcases hs with hs | hs
  · obtain ⟨its, rv, p, hz⟩ := I.list hs
    obtain ⟨as, ra⟩ := Dp.readsAll I _ _ its (dp_ints (n :: ns)) rv
    refine PySem.W.min_list_data (I.ok.hd hc) p.isList (vs := its.toArray) ra (alikeAll_ints (n :: ns)) (by
      have hd' : PyData.depthAll (PyData.int n :: ns.map PyData.int) = 0 := hd
      rw [hd']; omega) fun i v h' tk bs hi hr hk => ?_
    refine ⟨.int (ns.foldl min n), H, I.kept hk, ?_, q⟩
    rw [PySem.W.minD_ints] at hr
    exact reads_int hr
  · obtain ⟨its, rv, p, hz⟩ := I.tuple hs
    obtain ⟨as, ra⟩ := Dp.readsAll I _ _ its (dp_ints (n :: ns)) rv
    refine PySem.W.min_tuple_data (I.ok.hd hc) (show s.heap.IsTuple a its.toArray from p) (vs := its.toArray) ra (alikeAll_ints (n :: ns)) (by
      have hd' : PyData.depthAll (PyData.int n :: ns.map PyData.int) = 0 := hd
      rw [hd']; omega) fun i v h' tk bs hi hr hk => ?_
    refine ⟨.int (ns.foldl min n), H, I.kept hk, ?_, q⟩
    rw [PySem.W.minD_ints] at hr
    exact reads_int hr
theorem rc_ints {f : Int → List Int → Int} : RC1 K (rMaxL K f) (fun d => match (match d with | .list ds => intsOf ds | .tuple ds => intsOf ds | _ => none) with
  | some (n :: ns) => some (.val (.int (f n ns)))
  | _ => none) := by
  intro c F sl σ H v d t Q ek R hv et q
  subst ek
  cases d with
  | list ds =>
    dsimp only at et
    cases z : intsOf ds with
    | none => rw [z] at et; cases et
    | some ms =>
      rw [z] at et
      cases ms with
      | nil => cases et
      | cons n ns =>
        cases et
        obtain ⟨a, xs, rfl, h1, h2⟩ := hv.list R.sub
        exact ⟨a, xs, n, ns, rfl, .inl h1, ints_v h2 z, q _ F H (Same.refl F) R (den_int _)⟩
  | tuple ds =>
    dsimp only at et
    cases z : intsOf ds with
    | none => rw [z] at et; cases et
    | some ms =>
      rw [z] at et
      cases ms with
      | nil => cases et
      | cons n ns =>
        cases et
        obtain ⟨a, xs, rfl, h0, h1, h2⟩ := hv.tuple R.sub
        exact ⟨a, xs, n, ns, rfl, .inr h1, ints_v h2 z, q _ F H (Same.refl F) R (den_int _)⟩
  | _ => cases et
theorem rc_maxL : RC1 K (rMaxL K fun n ns => ns.foldl max n) gMaxL := rc_ints
theorem rc_minL : RC1 K (rMaxL K fun n ns => ns.foldl min n) gMinL := rc_ints
end
end Eng
namespace Eng
open PySem L2 PyProof.Rows
section
variable {X : Cx} {W : WX} {a b : Expr} {fa fb : EE} {pos p : Pos}
/-- a built-in by an imported name -/
theorem pe_cg2 {x : Str} {id : String} {r : List V → Hp → VK → Prop} {g : D → D → Option Tm} (hc : CallR X (.builtin id) r) (rs : RC2 X.K r g) (hg : Gl X x) (hm : X.mg x = some (.builtin id)) (ha : PE X a (tE X.K W fa)) (hb : PE X b (tE X.K W fb))
    (hs : starEach [a, b] X.env = (false, eval a X.env) :: starEach [b] X.env := by rfl) (hs2 : starEach [b] X.env = (false, eval b X.env) :: starEach [] X.env := by rfl) (hdb : (x == ("__debug__" : Str)) = false := by decide) :
    PE X (.Call (.Name x p) [a, b] [] pos) (tE X.K W (op2 g fa fb)) := by
  have h : PE X (.Call (.Name x p) [a, b] [] pos) (tCB r (tCons (tV X.K W (vl fa)) (tCons (tV X.K W (vl fb)) tNil))) := by
    refine ⟨fun pins s σ H Q I h => ?_⟩
    refine wpAny_Call_Name_kw (ld_glob I hg hm ?_ hdb)
    exact PyProof.Rows.callWith_builtin1 (thn ((pa_cons (pe_vl ha) (pa_cons (pe_vl hb) pa_nil hs2) hs).run pos pins s σ H _ I h) fun us s1 ⟨vs, H1, I1, r1, q1⟩ => hc pins s1 σ H1 vs us Q I1 r1 q1) hs (by rw [hs2]; rfl)
  exact pe_imp h fun σ H Q h => cb2_of rs σ H Q h
end
end Eng
namespace Eng
open PySem L2 PyProof.Rows
theorem hu1 {k : Nat} {A : Around} (r : Room k A) : A.units + 1 < cLine := by have := r.units; omega
section
variable {X : Cx} {W : WX} {pos p : Pos}
theorem pe_lcV {elt tg iter : Expr} {ifs : List Expr} {scope : Scope} {own : List (Str × Nat)} {vs : List Nat} {it : IT} {ns : List Nat} {g : TGf} {cond : BB} {fe : EE} (hc : X.calm = true) (hN : X.N.Nodup) (hi : PI X tg iter (tI X.K W it)) (ok : BlkOk X.N X.env.scope scope own)
    (hg : ∀ (s : Shared) (H : Hp) (C : Addr) (cl : List (Str × Addr)) (fp : List Addr), PG (X.blk s H scope (compEnvC scope cl C X.env) fp) tg (tG X.K ns g)) (ht : ∀ (s : Shared) (H : Hp) (C : Addr) (cl : List (Str × Addr)) (fp : List Addr), PTs (X.blk s H scope (compEnvC scope cl C X.env) fp) ifs (tB X.K WF cond))
    (he : ∀ (s : Shared) (H : Hp) (C : Addr) (cl : List (Str × Addr)) (fp : List Addr), PE (X.blk s H scope (compEnvC scope cl C X.env) fp) elt (tE X.K WF fe)) (hns : ∀ n ∈ ns, n ∈ vs) (hv : own.map (·.2) = vs := by rfl) (hs : ∀ x, foldedSetIterable iter X.env x = pure x := by intro _; rfl) :
    PE X (.ListComp elt [⟨tg, iter, ifs, 0⟩] scope pos) (tE X.K W (lcE it vs g cond fe)) := by
  subst hv
  exact pe_lcE hc hN hi ok hg ht he hns hs
theorem ss_setLcV {i : Nat} {y : Str} {py : Pos} {elt tg iter : Expr} {ifs : List Expr} {scope : Scope} {own : List (Str × Nat)} {vs : List Nat} {spos : Pos} {it : IT} {ns : List Nat} {g : TGf} {cond : BB} {fe : EE} (hc : X.calm = true) (hN : X.N.Nodup) (hy : X.N[i]? = some y) (hyl : X.env.scope.names.lookup y = some .local)
    (hsw : swapsWith (.ListComp elt [⟨tg, iter, ifs, 0⟩] scope pos) (some (.Name y py)) spos.line X.env = pure true) (hi : PI X tg iter (tI X.K W it)) (ok : BlkOk X.N X.env.scope scope own)
    (hg : ∀ (s : Shared) (H : Hp) (C : Addr) (cl : List (Str × Addr)) (fp : List Addr), PG (X.blk s H scope (compEnvC scope cl C X.env) fp) tg (tG X.K ns g)) (ht : ∀ (s : Shared) (H : Hp) (C : Addr) (cl : List (Str × Addr)) (fp : List Addr), PTs (X.blk s H scope (compEnvC scope cl C X.env) fp) ifs (tB X.K WF cond))
    (he : ∀ (s : Shared) (H : Hp) (C : Addr) (cl : List (Str × Addr)) (fp : List Addr), PE (X.blk s H scope (compEnvC scope cl C X.env) fp) elt (tE X.K WF fe)) (hns : ∀ n ∈ ns, n ∈ vs) (hv : own.map (·.2) = vs := by rfl) (hs : ∀ x, foldedSetIterable iter X.env x = pure x := by intro _; rfl) :
    PS X (.Assign [.Name y py] (.ListComp elt [⟨tg, iter, ifs, 0⟩] scope pos) spos) (tS X.K W (asgS i (lcE it vs g cond fe))) := by
  subst hv
  exact ss_setLc hc hN hy hyl hsw hi ok hg ht he hns hs
end
end Eng
set_option Elab.async false
set_option linter.all false
set_option maxRecDepth 100000
set_option maxHeartbeats 2000000
/-! THE ENGINE, 15: the end of a law, the callee's exceptions by the World. -/
namespace Eng
open PySem L2 PyProof.Rows
theorem walk_ofW {l : PySem.W.OpenLaw} {n k : Nat} {q : Program} {loose : List Str} {XP : (Str → Option Value) → Heap → Prop} {YP : World → Heap → Prop} {d : DefRec} {CX : World → CXT} {x : Str}
    (hn : l.most = some n) (hn2 : n ≤ sizeLine) (hdf : d.params.defaults = []) (hr : Room k callerA)
    (F : ∀ (w : World) (mg : Str → Option Value) (fa : Addr) (h : Heap), YP w h → h.Ns mainGlobals mg → mg d.name = some (.ref fa) →
      ∃ (K : PySem.W.Frag) (fd : FuncData) (sp : Sp), K.In h ∧ (∀ (s : Shared) (u : Value), BindsTo s fd ⟨[u], []⟩ [(x, u)]) ∧
        (∀ (H : Hp) (a : Addr) (ns : List Int), ns.length ≤ n → Only H → SqL K H a (ns.map V.int) → sp [.ref a] H (fun v _ => v = .bl true) fun _ _ _ => False) ∧
        ∀ base : Heap, K.In base → base.Ns mainGlobals mg → FnOk l.prog w K mg base (CX w) k fa fd [x] sp)
    (hCX : ∀ (w : World) (H : Hp) (s : Shared) (e : Value) (s' : Shared), CX w [] H s (fun _ _ _ => False) e s' → False) :
    PySem.W.WalkO q loose XP YP l.row.toRowW d [] (fun f vs => PySem.call f vs) := by
  refine Att.attach_call hn hdf fun w s₀ s₁ mg mb fa o pm cd doc a vs ns G Y ho hd hcd hmg hobj hints hlen hg => ?_
  obtain ⟨K, fd, sp, KX, hb, hsp, hF⟩ := F w mg fa _ Y G.T.g hmg
  exact law_call KX G.T.g G.T.b G.T.builtins G.T.nolimit hg hobj hints (Nat.le_trans hlen hn2) hr hF hb (fun H hO hS => hsp H a ns hlen hO hS) fun H e s' => hCX w H s₁ e s'
end Eng
set_option Elab.async false
set_option linter.all false
set_option maxRecDepth 100000
set_option maxHeartbeats 4000000
/-! THE PLAIN LAW, 0: how readings are evaluated (rules for simp). -/
namespace Eng
open PySem
section
variable {α β : Type} {sl : Sl} {a b : EE} {ba bb : BB} {i j : Nat} {d e : D} {f g : SS}
@[simp] theorem e_bind (x : α) (k : α → Sl → Out β) : Out.bind (.ok x sl) k = k x sl := Eq.trans rfl rfl
@[simp] theorem e_doS (x : α) (k : α → Sl → SR) : doS (.ok x sl) k = k x sl := Eq.trans rfl rfl
@[simp] theorem e_var : var i sl = match sl[i]? with
  | some (.val d) => .ok (.val d) sl
  | some (.own _) => .ok (.bor i) sl
  | some (.io _) => .ok (.bor i) sl
  | _ => .stuck := Eq.trans rfl rfl
@[simp] theorem e_cst : cst d sl = .ok (.val d) sl := Eq.trans rfl rfl
@[simp] theorem e_vl : vl a sl = (a sl).bind frzT := Eq.trans rfl rfl
@[simp] theorem e_frzV : frzT (.val d) sl = .ok d sl := Eq.trans rfl rfl
@[simp] theorem e_frzO (ds : List D) : frzT (.own (.list ds)) sl = .ok (.list ds) sl := Eq.trans rfl rfl
@[simp] theorem e_frzI : frzT (.bor i) sl = match sl[i]? with
  | some (.own (.list ds)) => .ok (.list ds) (sl.set i (.val (.list ds)))
  | _ => .stuck := Eq.trans rfl rfl
@[simp] theorem e_pk : pk a sl = (a sl).bind peekT := Eq.trans rfl rfl
@[simp] theorem e_peekV : peekT (.val d) sl = .ok (.val d) sl := Eq.trans rfl rfl
@[simp] theorem e_peekO (ds : List D) : peekT (.own (.list ds)) sl = .ok (.val (.list ds)) sl := Eq.trans rfl rfl
@[simp] theorem e_peekI : peekT (.bor i) sl = .ok (.bor i) sl := Eq.trans rfl rfl
@[simp] theorem e_rsvV : rsv (.val d) sl = some d := Eq.trans rfl rfl
@[simp] theorem e_rsvI : rsv (.bor i) sl = match sl[i]? with
  | some (.own d) => some d
  | some (.io d) => some d
  | _ => none := Eq.trans rfl rfl
@[simp] theorem e_ofO (x : α) : ofO (some x) sl = .ok x sl := Eq.trans rfl rfl
@[simp] theorem e_op2 (h : D → D → Option Tm) : op2 h a b sl = (vl a sl).bind fun x sl1 => (vl b sl1).bind fun y sl2 => ofO (h x y) sl2 := Eq.trans rfl rfl
@[simp] theorem e_op1 (h : D → Option Tm) : op1 h a sl = (vl a sl).bind fun x sl1 => ofO (h x) sl1 := Eq.trans rfl rfl
@[simp] theorem e_sub (x y : Int) : gSub (.int x) (.int y) = some (.val (.int (x - y))) := Eq.trans rfl rfl
@[simp] theorem e_neg (x : Int) : gNeg (.int x) = some (.val (.int (-x))) := Eq.trans rfl rfl
@[simp] theorem e_addI (x y : Int) : gAddA (.int x) (.int y) = some (.val (.int (x + y))) := Eq.trans rfl rfl
@[simp] theorem e_addT (xs ys : List D) : gAddA (.tuple xs) (.tuple ys) = if xs.length + ys.length ≤ LINE then some (.val (.tuple (xs ++ ys))) else none := Eq.trans rfl rfl
@[simp] theorem e_addL (xs ys : List D) : gAddA (.list xs) (.list ys) = if xs.length + ys.length ≤ LINE then some (.own (.list (xs ++ ys))) else none := Eq.trans rfl rfl
@[simp] theorem e_mul (x y : Int) : gMul (.int x) (.int y) = if mulOk x y = true then some (.val (.int (x * y))) else none := Eq.trans rfl rfl
@[simp] theorem e_mulT (xs : List D) (k : Int) : gMul (.tuple xs) (.int k) = if xs.length ≤ 1000 ∧ k ≤ 1000 ∧ 1 ≤ k ∧ xs ≠ [] then some (.val (.tuple (List.replicate k.toNat xs).flatten)) else none := Eq.trans rfl rfl
@[simp] theorem e_fdiv (x y : Int) : gFdiv (.int x) (.int y) = if 0 < y ∧ y < 1073741824 then some (.val (.int (x / y))) else none := by
  show Option.map Tm.val (if 0 < y ∧ y < 1073741824 then some (PyData.int (x / y)) else none) = _
  split <;> rfl
@[simp] theorem e_mod (x y : Int) : gMod (.int x) (.int y) = if 0 < y then some (.val (.int (x % y))) else none := by
  show Option.map Tm.val (if 0 < y then some (PyData.int (x % y)) else none) = _
  split <;> rfl
/-- ints compared -/
theorem lt_int (x y : Int) : PySem.W.dataLt (.int x) (.int y) = decide (x < y) := by
  have h := congrFun (congrFun (PySem.W.dataLe_int (β := Int) (fun b => b)) y) x
  have h2 : (!PySem.W.dataLt (.int x) (.int y)) = decide (y ≤ x) := h
  have h3 : PySem.W.dataLt (.int x) (.int y) = !decide (y ≤ x) := by rw [← h2, Bool.not_not]
  rw [h3]
  by_cases z : x < y
  · have : ¬ y ≤ x := by omega
    simp [z, this]
  · have : y ≤ x := by omega
    simp [z, this]
@[simp] theorem cmpOk_int (x y : Int) : cmpOk (.int x) (.int y) = true := Eq.trans rfl rfl
@[simp] theorem e_lt (x y : Int) : gLt (.int x) (.int y) = some (.val (.bool (decide (x < y)))) := by
  show (if cmpOk _ _ = true then _ else _) = _
  rw [cmpOk_int, if_pos rfl, lt_int]
@[simp] theorem e_gt (x y : Int) : gGt (.int x) (.int y) = some (.val (.bool (decide (y < x)))) := by
  show (if cmpOk _ _ = true then some (Tm.val (.bool (PySem.W.dataLt (.int y) (.int x)))) else _) = _
  rw [cmpOk_int, if_pos rfl, lt_int]
@[simp] theorem e_le (x y : Int) : gLe (.int x) (.int y) = some (.val (.bool (decide (x ≤ y)))) := by
  show (if cmpOk _ _ = true then some (Tm.val (.bool (!PySem.W.dataLt (.int y) (.int x)))) else _) = _
  rw [cmpOk_int, if_pos rfl, lt_int]
  by_cases z : y < x
  · have : ¬ x ≤ y := by omega
    simp [z, this]
  · have : x ≤ y := by omega
    simp [z, this]
@[simp] theorem e_ge (x y : Int) : gGe (.int x) (.int y) = some (.val (.bool (decide (y ≤ x)))) := by
  show (if cmpOk _ _ = true then some (Tm.val (.bool (!PySem.W.dataLt (.int x) (.int y)))) else _) = _
  rw [cmpOk_int, if_pos rfl, lt_int]
  by_cases z : x < y
  · have : ¬ y ≤ x := by omega
    simp [z, this]
  · have : y ≤ x := by omega
    simp [z, this]
@[simp] theorem e_eqI (x y : Int) : gEq (.int x) (.int y) = some (.val (.bool (decide (x = y)))) := Eq.trans rfl rfl
@[simp] theorem e_neI (x y : Int) : gNe (.int x) (.int y) = some (.val (.bool (!decide (x = y)))) := Eq.trans rfl rfl
@[simp] theorem e_isN : gIsN d .none = some (.val (.bool (isNone d))) := Eq.trans rfl rfl
@[simp] theorem e_notN : gNotN d .none = some (.val (.bool (!isNone d))) := Eq.trans rfl rfl
@[simp] theorem e_noneN : isNone .none = true := Eq.trans rfl rfl
@[simp] theorem e_noneI (x : Int) : isNone (.int x) = false := Eq.trans rfl rfl
@[simp] theorem e_noneT (x : List D) : isNone (.tuple x) = false := Eq.trans rfl rfl
@[simp] theorem e_bE : bE ba sl = (ba sl).bind fun b sl1 => .ok (.val (.bool b)) sl1 := Eq.trans rfl rfl
@[simp] theorem e_vB : vB a sl = asB a sl := Eq.trans rfl rfl
@[simp] theorem e_asB : asB a sl = (a sl).bind fun t sl1 => match t with
  | .val (.bool b) => .ok b sl1
  | _ => .stuck := Eq.trans rfl rfl
@[simp] theorem e_andB : andB ba bb sl = (ba sl).bind fun b sl1 => if b = true then bb sl1 else .ok false sl1 := Eq.trans rfl rfl
@[simp] theorem e_orB : orB ba bb sl = (ba sl).bind fun b sl1 => if b = true then .ok true sl1 else bb sl1 := Eq.trans rfl rfl
@[simp] theorem e_notB : notB ba sl = (ba sl).bind fun b sl1 => .ok (!b) sl1 := Eq.trans rfl rfl
@[simp] theorem e_truB : truB a sl = (pk a sl).bind fun t sl1 => ofO ((rsv t sl1).bind truD) sl1 := Eq.trans rfl rfl
@[simp] theorem e_truN : truD .none = some false := Eq.trans rfl rfl
@[simp] theorem e_truBl (b : Bool) : truD (.bool b) = some b := Eq.trans rfl rfl
@[simp] theorem e_truI (x : Int) : truD (.int x) = some (x != 0) := Eq.trans rfl rfl
@[simp] theorem e_truL (x : List D) : truD (.list x) = some (!x.isEmpty) := Eq.trans rfl rfl
@[simp] theorem e_truT (x : List D) : truD (.tuple x) = some (!x.isEmpty) := Eq.trans rfl rfl
@[simp] theorem e_ifE : ifE ba a b sl = (ba sl).bind fun c sl1 => if c = true then a sl1 else b sl1 := Eq.trans rfl rfl
@[simp] theorem e_vsN : vsL [] sl = .ok [] sl := Eq.trans rfl rfl
@[simp] theorem e_vsC (fs : List EE) : vsL (a :: fs) sl = (vl a sl).bind fun d sl1 => (vsL fs sl1).bind fun ds sl2 => .ok (d :: ds) sl2 := Eq.trans rfl rfl
@[simp] theorem e_tupE (fs : List EE) : tupE fs sl = (vsL fs sl).bind fun ds sl1 => .ok (.val (.tuple ds)) sl1 := Eq.trans rfl rfl
@[simp] theorem e_lstE (fs : List EE) : lstE fs sl = (vsL fs sl).bind fun ds sl1 => .ok (.own (.list ds)) sl1 := Eq.trans rfl rfl
@[simp] theorem e_ixE : ixE a b sl = (pk a sl).bind fun t sl1 => (vl b sl1).bind fun i sl2 => ofO (((rsv t sl2).bind fun d => getD d i).map .val) sl2 := Eq.trans rfl rfl
@[simp] theorem e_getL (ds : List D) (x : Int) : getD (.list ds) (.int x) = L2.atI ds x := Eq.trans rfl rfl
@[simp] theorem e_getT (ds : List D) (x : Int) : getD (.tuple ds) (.int x) = L2.atI ds x := Eq.trans rfl rfl
@[simp] theorem e_slE (lo hi : Option EE) : slE a lo hi sl = (pk a sl).bind fun t sl1 => (optV lo sl1).bind fun l sl2 => (optV hi sl2).bind fun h sl3 => ofO ((rsv t sl3).bind fun d => slcD d l h) sl3 := Eq.trans rfl rfl
@[simp] theorem e_optN : optV none sl = .ok none sl := Eq.trans rfl rfl
@[simp] theorem e_optS : optV (some a) sl = (vl a sl).bind fun d sl1 => match d with
    | .int i => .ok (some i) sl1
    | _ => .stuck := Eq.trans rfl rfl
@[simp] theorem e_slcL (ds : List D) (lo hi : Option Int) : slcD (.list ds) lo hi = some (.own (.list (cutD ds lo hi))) := Eq.trans rfl rfl
@[simp] theorem e_slcT (ds : List D) (lo hi : Option Int) : slcD (.tuple ds) lo hi = some (.val (.tuple (cutD ds lo hi))) := Eq.trans rfl rfl
@[simp] theorem e_callE (h : FF) (dds : List D) (as : List AM) : callE h dds as sl = (asL as sl).bind fun ts sl1 => callR h dds ts sl1 := Eq.trans rfl rfl
@[simp] theorem e_asN : asL [] sl = .ok [] sl := Eq.trans rfl rfl
@[simp] theorem e_asV (fs : List AM) : asL (.v a :: fs) sl = (vl a sl).bind fun d sl1 => (asL fs sl1).bind fun ts sl2 => .ok (.val d :: ts) sl2 := Eq.trans rfl rfl
@[simp] theorem e_asB' (fs : List AM) : asL (.b a :: fs) sl = (a sl).bind fun t sl1 => match t with
    | .bor i => (asL fs sl1).bind fun ts sl2 => .ok (.bor i :: ts) sl2
    | _ => .stuck := Eq.trans rfl rfl
theorem e_callR (h : FF) (dds : List D) (ts : List Tm) : callR h dds ts sl = match cellsOf sl ts with
  | none => .stuck
  | some cs => if (bors ts).Nodup then match h (cs ++ dds.map .val) with
    | .ok (.bor _) _ => .stuck
    | .ok t cs' => .ok t (putAll sl ts cs')
    | .exc cn d cs' => .exc cn d (putAll sl ts cs')
    | .stuck => .stuck
    else .stuck := rfl
@[simp] theorem e_ceN : cellsOf sl [] = some [] := Eq.trans rfl rfl
@[simp] theorem e_ceV (ts : List Tm) : cellsOf sl (.val d :: ts) = (cellsOf sl ts).map (.val d :: ·) := Eq.trans rfl rfl
@[simp] theorem e_ceB (ts : List Tm) : cellsOf sl (.bor i :: ts) = match sl[i]? with
    | some (.own d) => (cellsOf sl ts).map (.io d :: ·)
    | some (.io d) => (cellsOf sl ts).map (.io d :: ·)
    | _ => none := Eq.trans rfl rfl
@[simp] theorem e_boN : bors [] = [] := Eq.trans rfl rfl
@[simp] theorem e_boV (ts : List Tm) : bors (.val d :: ts) = bors ts := Eq.trans rfl rfl
@[simp] theorem e_boB (ts : List Tm) : bors (.bor i :: ts) = i :: bors ts := Eq.trans rfl rfl
@[simp] theorem e_paN (cs : List Cell) : putAll sl [] cs = sl := by cases cs <;> rfl
@[simp] theorem e_paV (ts : List Tm) (c : Cell) (cs : List Cell) : putAll sl (.val d :: ts) (c :: cs) = putAll sl ts cs := Eq.trans rfl rfl
@[simp] theorem e_paB (ts : List Tm) (cs : List Cell) : putAll sl (.bor i :: ts) (.io d :: cs) = putAll (putSl sl i d) ts cs := Eq.trans rfl rfl
@[simp] theorem e_put : putSl sl i d = match sl[i]? with
  | some cl => sl.set i (cl.put d)
  | none => sl := Eq.trans rfl rfl
@[simp] theorem e_putO : Cell.put (.own e) d = .own d := Eq.trans rfl rfl
@[simp] theorem e_putI : Cell.put (.io e) d = .io d := Eq.trans rfl rfl
@[simp] theorem e_cb1 (h : D → Option Tm) : cb1 h a sl = (pk a sl).bind fun t sl1 => ofO ((rsv t sl1).bind h) sl1 := Eq.trans rfl rfl
@[simp] theorem e_lenL (ds : List D) : gLen (.list ds) = some (.val (.int ds.length)) := Eq.trans rfl rfl
@[simp] theorem e_lenT (ds : List D) : gLen (.tuple ds) = some (.val (.int ds.length)) := Eq.trans rfl rfl
@[simp] theorem e_tuL (ds : List D) : gTuple (.list ds) = some (.val (.tuple ds)) := Eq.trans rfl rfl
@[simp] theorem e_tuT (ds : List D) : gTuple (.tuple ds) = some (.val (.tuple ds)) := Eq.trans rfl rfl
@[simp] theorem e_intI (x : Int) : gInt (.int x) = some (.val (.int x)) := Eq.trans rfl rfl
@[simp] theorem e_isi (T : String) : isiE T a sl = (pk a sl).bind fun t sl1 => ofO (((rsv t sl1).bind (isiD T)).map fun b => .val (.bool b)) sl1 := Eq.trans rfl rfl
@[simp] theorem e_app : appE a b sl = (a sl).bind fun t sl1 => match ofBorL t sl1 with
  | none => .stuck
  | some _ => (vl b sl1).bind fun d sl2 => match ofBorL t sl2 with
    | some (i, ds) => if ds.length < LINE then .ok (.val .none) (putSl sl2 i (.list (ds ++ [d]))) else .stuck
    | none => .stuck := Eq.trans rfl rfl
@[simp] theorem e_pop : popE a sl = (a sl).bind fun t sl1 => match ofBorL t sl1 with
  | some (i, ds) => match ds[ds.length - 1]? with
    | some d => .ok (.val d) (putSl sl1 i (.list ds.dropLast))
    | none => .stuck
  | none => .stuck := Eq.trans rfl rfl
@[simp] theorem e_ext : extE a b sl = (a sl).bind fun t sl1 => match ofBorL t sl1 with
  | none => .stuck
  | some _ => (b sl1).bind fun t2 sl2 => match ofBorL t sl2, t2 with
    | some (i, ds), .own (.list es) => if ds.length + es.length ≤ LINE then .ok (.val .none) (putSl sl2 i (.list (ds ++ es))) else .stuck
    | _, _ => .stuck := Eq.trans rfl rfl
@[simp] theorem e_obL (t : Tm) : ofBorL t sl = match ofBor t sl with
  | some (i, .list ds) => some (i, ds)
  | _ => none := Eq.trans rfl rfl
@[simp] theorem e_obD (t : Tm) : ofBorD t sl = match ofBor t sl with
  | some (i, .dict ds) => some (i, ds)
  | _ => none := Eq.trans rfl rfl
@[simp] theorem e_ob : ofBor (.bor i) sl = (objAt sl i).map fun d => (i, d) := Eq.trans rfl rfl
@[simp] theorem e_obj : objAt sl i = match sl[i]? with
  | some (.own d) => some d
  | some (.io d) => some d
  | _ => none := Eq.trans rfl rfl
@[simp] theorem e_dg : dgE a b sl = (a sl).bind fun t sl1 => (vl b sl1).bind fun y sl2 => match ofBorD t sl2, keyOf y with
  | some (_, kvs), some k => ofO ((dlook kvs k).map .val) sl2
  | _, _ => .stuck := Eq.trans rfl rfl
@[simp] theorem e_keyI (x : Int) : keyOf (.int x) = some (.inl x) := Eq.trans rfl rfl
@[simp] theorem e_keyS (x : Str) : keyOf (.str x) = some (.inr x) := Eq.trans rfl rfl
@[simp] theorem e_putS (c : EE) : putS a b c sl = doS (vl c sl) fun d sl1 => doS (a sl1) fun t sl2 => doS (vl b sl2) fun y sl3 => match ofBorD t sl3, keyOf y with
  | some (i, kvs), some k => if kvs.length < LINE then .nx (putSl sl3 i (.dict (dput kvs k d))) else .stuck
  | _, _ => .stuck := Eq.trans rfl rfl
@[simp] theorem e_disp (r : List (L2.Key × EE)) : dispE r sl = (dispL r sl).bind fun ds sl1 => .ok (.own (.dict (mergeD [] ds))) sl1 := Eq.trans rfl rfl
@[simp] theorem e_diN : dispL [] sl = .ok [] sl := Eq.trans rfl rfl
@[simp] theorem e_diC (k : L2.Key) (r : List (L2.Key × EE)) : dispL ((k, a) :: r) sl = (vl a sl).bind fun d sl1 => (dispL r sl1).bind fun ds sl2 => .ok ((k, d) :: ds) sl2 := Eq.trans rfl rfl
/-! statements -/
@[simp] theorem e_seqS : seqS f g sl = match f sl with
  | .nx sl1 => g sl1
  | r => r := Eq.trans rfl rfl
@[simp] theorem e_nxS : nxS sl = .nx sl := Eq.trans rfl rfl
@[simp] theorem e_asgS : asgS i a sl = doS ((a sl).bind frzB) fun t sl1 => toNx (setT i t sl1) := Eq.trans rfl rfl
@[simp] theorem e_frzBV : frzB (.val d) sl = .ok (.val d) sl := Eq.trans rfl rfl
@[simp] theorem e_frzBO : frzB (.own d) sl = .ok (.own d) sl := Eq.trans rfl rfl
@[simp] theorem e_frzBB : frzB (.bor i) sl = (frzT (.bor i) sl).bind fun d sl1 => .ok (.val d) sl1 := Eq.trans rfl rfl
@[simp] theorem e_toNx : toNx (some sl) = .nx sl := Eq.trans rfl rfl
@[simp] theorem e_setT (t : Tm) : setT i t sl = if isIo sl[i]? = true then none else some (sl.set i (cellT t)) := Eq.trans rfl rfl
@[simp] theorem e_ioN : isIo none = false := Eq.trans rfl rfl
@[simp] theorem e_ioO : isIo (some (.own d)) = false := Eq.trans rfl rfl
@[simp] theorem e_ioV : isIo (some (.val d)) = false := Eq.trans rfl rfl
@[simp] theorem e_ioNo : isIo (some .no) = false := Eq.trans rfl rfl
@[simp] theorem e_ceT : cellT (.val d) = .val d := Eq.trans rfl rfl
@[simp] theorem e_ceO : cellT (.own d) = .own d := Eq.trans rfl rfl
@[simp] theorem e_asgT (h : TGf) : asgT h a sl = doS (vl a sl) fun d sl1 => toNx (h d sl1) := Eq.trans rfl rfl
@[simp] theorem e_tgN : tgN i d sl = setT i (.val d) sl := Eq.trans rfl rfl
@[simp] theorem e_tgT (gs : List TGf) (ds : List D) : tgT gs (.tuple ds) sl = tgL gs ds sl := Eq.trans rfl rfl
@[simp] theorem e_tgLN : tgL [] [] sl = some sl := Eq.trans rfl rfl
@[simp] theorem e_tgLC (h : TGf) (gs : List TGf) (ds : List D) : tgL (h :: gs) (d :: ds) sl = (h d sl).bind fun sl1 => tgL gs ds sl1 := Eq.trans rfl rfl
@[simp] theorem e_parV (is : List Nat) (fs : List EE) : parV is fs sl = doS (vsL fs sl) fun ds sl1 => toNx (tgL (is.map tgN) ds sl1) := Eq.trans rfl rfl
@[simp] theorem e_parS : parS i j a b sl = doS (a sl) fun t1 sl1 => doS (b sl1) fun t2 sl2 => if (noBor t1 && noBor t2) = true then (match setT i t1 sl2 with
  | some sl3 => toNx (setT j t2 sl3)
  | none => .stuck) else .stuck := Eq.trans rfl rfl
@[simp] theorem e_nbV : noBor (.val d) = true := Eq.trans rfl rfl
@[simp] theorem e_nbO : noBor (.own d) = true := Eq.trans rfl rfl
@[simp] theorem e_retS : retS a sl = doS (a sl) fun t sl1 => .rt t sl1 := Eq.trans rfl rfl
@[simp] theorem e_drpS : drpS a sl = doS (a sl) fun _ sl1 => .nx sl1 := Eq.trans rfl rfl
@[simp] theorem e_ifS : ifS ba f g sl = doS (ba sl) fun c sl1 => if c = true then f sl1 else g sl1 := Eq.trans rfl rfl
@[simp] theorem e_brk : brkS sl = .bk sl := Eq.trans rfl rfl
@[simp] theorem e_cnt : cntS sl = .ct sl := Eq.trans rfl rfl
@[simp] theorem e_aug (h : Int → Int → Int) : augS i h a sl = match sl[i]? with
  | some (.val (.int x)) => doS (vl a sl) fun d sl1 => match d with
    | .int y => toNx (setT i (.val (.int (h x y))) sl1)
    | _ => .stuck
  | _ => .stuck := Eq.trans rfl rfl
@[simp] theorem e_forS (it : IT) (h : TGf) : forS it h f sl = doS (it sl) fun ds sl1 => forL h f ds sl1 := Eq.trans rfl rfl
@[simp] theorem e_seqI : seqI a sl = (vl a sl).bind fun d sl1 => match d with
  | .list ds => .ok ds sl1
  | .tuple ds => .ok ds sl1
  | _ => .stuck := Eq.trans rfl rfl
@[simp] theorem e_enumI : enumI a sl = (vl a sl).bind fun d sl1 => match d with
  | .list ds => .ok (enumD 0 ds) sl1
  | .tuple ds => .ok (enumD 0 ds) sl1
  | _ => .stuck := Eq.trans rfl rfl
@[simp] theorem e_rng1 : rngI1 a sl = (vl a sl).bind fun d sl1 => match d with
  | .int j => if -4611686018427387904 ≤ j ∧ j < 4611686018427387904 then .ok (rng 0 j.toNat) sl1 else .stuck
  | _ => .stuck := Eq.trans rfl rfl
@[simp] theorem e_rng2 : rngI2 a b sl = (vl a sl).bind fun d sl1 => (vl b sl1).bind fun d2 sl2 => match d, d2 with
  | .int i, .int j => if -4611686018427387904 ≤ i ∧ i < 4611686018427387904 ∧ -4611686018427387904 ≤ j ∧ j < 4611686018427387904 then .ok (rng i (j - i).toNat) sl2 else .stuck
  | _, _ => .stuck := Eq.trans rfl rfl
@[simp] theorem e_yes : yesB sl = .ok true sl := Eq.trans rfl rfl
@[simp] theorem e_lcE (it : IT) (vs : List Nat) (h : TGf) : lcE it vs h ba a sl = (it sl).bind fun ds sl1 => if okW sl1 vs = true then (match lcL h ba a vs ds [] (wipeS sl1 vs) with
  | .ok acc sl2 => .ok (.own (.list acc)) (restS sl1 sl2 vs)
  | _ => .stuck) else .stuck := Eq.trans rfl rfl
@[simp] theorem e_fnOf (n N : Nat) (cs : List Cell) : fnOf n N f cs = match f (cs ++ List.replicate (N - n) .no) with
  | .nx sl => .ok (.val .none) (sl.take n)
  | .rt (.val d) sl => .ok (.val d) (sl.take n)
  | .rt (.own d) sl => .ok (.own d) (sl.take n)
  | .rt (.bor i) sl => match sl[i]? with
    | some (.own d) => .ok (.own d) (sl.take n)
    | _ => .stuck
  | .exc cn d sl => .exc cn d (sl.take n)
  | _ => .stuck := Eq.trans rfl rfl
@[simp] theorem e_okN : okW sl [] = true := Eq.trans rfl rfl
@[simp] theorem e_okC (v : Nat) (vs : List Nat) : okW sl (v :: vs) = (plainC sl[v]? && okW sl vs) := Eq.trans rfl rfl
@[simp] theorem e_plV : plainC (some (.val d)) = true := Eq.trans rfl rfl
@[simp] theorem e_plN : plainC (some .no) = true := Eq.trans rfl rfl
@[simp] theorem e_wiN : wipeS sl [] = sl := Eq.trans rfl rfl
@[simp] theorem e_wiC (v : Nat) (vs : List Nat) : wipeS sl (v :: vs) = (wipeS sl vs).set v .no := Eq.trans rfl rfl
@[simp] theorem e_reN (sl0 : Sl) : restS sl0 sl [] = sl := Eq.trans rfl rfl
@[simp] theorem e_reC (sl0 : Sl) (v : Nat) (vs : List Nat) : restS sl0 sl (v :: vs) = (restS sl0 sl vs).set v (sl0.getD v .no) := Eq.trans rfl rfl
@[simp] theorem isi_int_none : isiD "int" .none = some false := by
  show L2.kitB "NoneType" "int" = _
  decide +kernel
@[simp] theorem isi_int_bool (b : Bool) : isiD "int" (.bool b) = some true := by
  show L2.kitB "bool" "int" = _
  decide +kernel
@[simp] theorem isi_int_int (i : Int) : isiD "int" (.int i) = some true := by
  show L2.kitB "int" "int" = _
  decide +kernel
@[simp] theorem isi_int_str (x : Str) : isiD "int" (.str x) = some false := by
  show L2.kitB "str" "int" = _
  decide +kernel
@[simp] theorem isi_int_list (ds : List D) : isiD "int" (.list ds) = some false := by
  show L2.kitB "list" "int" = _
  decide +kernel
@[simp] theorem isi_int_tuple (ds : List D) : isiD "int" (.tuple ds) = some false := by
  show L2.kitB "tuple" "int" = _
  decide +kernel
@[simp] theorem isi_int_dict (ds : List (D × D)) : isiD "int" (.dict ds) = some false := by
  show L2.kitB "dict" "int" = _
  decide +kernel
@[simp] theorem isi_bool_none : isiD "bool" .none = some false := by
  show L2.kitB "NoneType" "bool" = _
  decide +kernel
@[simp] theorem isi_bool_bool (b : Bool) : isiD "bool" (.bool b) = some true := by
  show L2.kitB "bool" "bool" = _
  decide +kernel
@[simp] theorem isi_bool_int (i : Int) : isiD "bool" (.int i) = some false := by
  show L2.kitB "int" "bool" = _
  decide +kernel
@[simp] theorem isi_bool_str (x : Str) : isiD "bool" (.str x) = some false := by
  show L2.kitB "str" "bool" = _
  decide +kernel
@[simp] theorem isi_bool_list (ds : List D) : isiD "bool" (.list ds) = some false := by
  show L2.kitB "list" "bool" = _
  decide +kernel
@[simp] theorem isi_bool_tuple (ds : List D) : isiD "bool" (.tuple ds) = some false := by
  show L2.kitB "tuple" "bool" = _
  decide +kernel
@[simp] theorem isi_bool_dict (ds : List (D × D)) : isiD "bool" (.dict ds) = some false := by
  show L2.kitB "dict" "bool" = _
  decide +kernel
@[simp] theorem isi_tuple_none : isiD "tuple" .none = some false := by
  show L2.kitB "NoneType" "tuple" = _
  decide +kernel
@[simp] theorem isi_tuple_bool (b : Bool) : isiD "tuple" (.bool b) = some false := by
  show L2.kitB "bool" "tuple" = _
  decide +kernel
@[simp] theorem isi_tuple_int (i : Int) : isiD "tuple" (.int i) = some false := by
  show L2.kitB "int" "tuple" = _
  decide +kernel
@[simp] theorem isi_tuple_str (x : Str) : isiD "tuple" (.str x) = some false := by
  show L2.kitB "str" "tuple" = _
  decide +kernel
@[simp] theorem isi_tuple_list (ds : List D) : isiD "tuple" (.list ds) = some false := by
  show L2.kitB "list" "tuple" = _
  decide +kernel
@[simp] theorem isi_tuple_tuple (ds : List D) : isiD "tuple" (.tuple ds) = some true := by
  show L2.kitB "tuple" "tuple" = _
  decide +kernel
@[simp] theorem isi_tuple_dict (ds : List (D × D)) : isiD "tuple" (.dict ds) = some false := by
  show L2.kitB "dict" "tuple" = _
  decide +kernel
@[simp] theorem isi_str_none : isiD "str" .none = some false := by
  show L2.kitB "NoneType" "str" = _
  decide +kernel
@[simp] theorem isi_str_bool (b : Bool) : isiD "str" (.bool b) = some false := by
  show L2.kitB "bool" "str" = _
  decide +kernel
@[simp] theorem isi_str_int (i : Int) : isiD "str" (.int i) = some false := by
  show L2.kitB "int" "str" = _
  decide +kernel
@[simp] theorem isi_str_str (x : Str) : isiD "str" (.str x) = some true := by
  show L2.kitB "str" "str" = _
  decide +kernel
@[simp] theorem isi_str_list (ds : List D) : isiD "str" (.list ds) = some false := by
  show L2.kitB "list" "str" = _
  decide +kernel
@[simp] theorem isi_str_tuple (ds : List D) : isiD "str" (.tuple ds) = some false := by
  show L2.kitB "tuple" "str" = _
  decide +kernel
@[simp] theorem isi_str_dict (ds : List (D × D)) : isiD "str" (.dict ds) = some false := by
  show L2.kitB "dict" "str" = _
  decide +kernel
@[simp] theorem isi_list_none : isiD "list" .none = some false := by
  show L2.kitB "NoneType" "list" = _
  decide +kernel
@[simp] theorem isi_list_bool (b : Bool) : isiD "list" (.bool b) = some false := by
  show L2.kitB "bool" "list" = _
  decide +kernel
@[simp] theorem isi_list_int (i : Int) : isiD "list" (.int i) = some false := by
  show L2.kitB "int" "list" = _
  decide +kernel
@[simp] theorem isi_list_str (x : Str) : isiD "list" (.str x) = some false := by
  show L2.kitB "str" "list" = _
  decide +kernel
@[simp] theorem isi_list_list (ds : List D) : isiD "list" (.list ds) = some true := by
  show L2.kitB "list" "list" = _
  decide +kernel
@[simp] theorem isi_list_tuple (ds : List D) : isiD "list" (.tuple ds) = some false := by
  show L2.kitB "tuple" "list" = _
  decide +kernel
@[simp] theorem isi_list_dict (ds : List (D × D)) : isiD "list" (.dict ds) = some false := by
  show L2.kitB "dict" "list" = _
  decide +kernel
@[simp] theorem isi_dict_none : isiD "dict" .none = some false := by
  show L2.kitB "NoneType" "dict" = _
  decide +kernel
@[simp] theorem isi_dict_bool (b : Bool) : isiD "dict" (.bool b) = some false := by
  show L2.kitB "bool" "dict" = _
  decide +kernel
@[simp] theorem isi_dict_int (i : Int) : isiD "dict" (.int i) = some false := by
  show L2.kitB "int" "dict" = _
  decide +kernel
@[simp] theorem isi_dict_str (x : Str) : isiD "dict" (.str x) = some false := by
  show L2.kitB "str" "dict" = _
  decide +kernel
@[simp] theorem isi_dict_list (ds : List D) : isiD "dict" (.list ds) = some false := by
  show L2.kitB "list" "dict" = _
  decide +kernel
@[simp] theorem isi_dict_tuple (ds : List D) : isiD "dict" (.tuple ds) = some false := by
  show L2.kitB "tuple" "dict" = _
  decide +kernel
@[simp] theorem isi_dict_dict (ds : List (D × D)) : isiD "dict" (.dict ds) = some true := by
  show L2.kitB "dict" "dict" = _
  decide +kernel
theorem at_nat {α : Type} (xs : List α) (n : Nat) : L2.atI xs (n : Int) = xs[n]? := by
  unfold L2.atI L2.ixN
  rw [if_pos (Int.natCast_nonneg n)]
  by_cases h : n < xs.length
  · rw [if_pos (by omega)]; simp
  · rw [if_neg (by omega)]
    exact (List.getElem?_eq_none (by omega)).symm
@[simp] theorem at_0 {α : Type} (xs : List α) : L2.atI xs 0 = xs[0]? := at_nat xs 0
@[simp] theorem at_1 {α : Type} (xs : List α) : L2.atI xs 1 = xs[1]? := at_nat xs 1
@[simp] theorem at_2 {α : Type} (xs : List α) : L2.atI xs 2 = xs[2]? := at_nat xs 2
@[simp] theorem at_3 {α : Type} (xs : List α) : L2.atI xs 3 = xs[3]? := at_nat xs 3
@[simp] theorem at_last {α : Type} (xs : List α) : L2.atI xs (-1) = xs.getLast? := by
  unfold L2.atI L2.ixN
  rw [if_neg (by omega), List.getLast?_eq_getElem?]
  by_cases h : xs.length = 0
  · rw [if_neg (by omega), List.getElem?_eq_none (by omega)]; rfl
  · rw [if_pos (by omega)]
    have e : (-1 + (xs.length : Int)).toNat = xs.length - 1 := by omega
    rw [e]; rfl
end
/-! a def of values -/
inductive VR where
  | ok (t : Tm) | exc (c : Str) (d : D) | stuck
def gv (g : FF) (ds : List D) : VR := match g (ds.map .val) with
  | .ok (.val d) _ => .ok (.val d)
  | .ok (.own d) _ => .ok (.own d)
  | .exc c d _ => .exc c d
  | _ => .stuck
def outV : SR → VR
  | .nx _ => .ok (.val .none)
  | .rt (.val d) _ => .ok (.val d)
  | .rt (.own d) _ => .ok (.own d)
  | .rt (.bor i) sl => match sl[i]? with
    | some (.own d) => .ok (.own d)
    | _ => .stuck
  | .exc c d _ => .exc c d
  | _ => .stuck
@[simp] theorem e_ouN (sl : Sl) : outV (.nx sl) = .ok (.val .none) := Eq.trans rfl rfl
@[simp] theorem e_ouV (d : D) (sl : Sl) : outV (.rt (.val d) sl) = .ok (.val d) := Eq.trans rfl rfl
@[simp] theorem e_ouO (d : D) (sl : Sl) : outV (.rt (.own d) sl) = .ok (.own d) := Eq.trans rfl rfl
@[simp] theorem e_ouB (i : Nat) (sl : Sl) : outV (.rt (.bor i) sl) = match sl[i]? with
    | some (.own d) => .ok (.own d)
    | _ => .stuck := Eq.trans rfl rfl
theorem gv_fn (n N : Nat) (f : SS) (ds : List D) : gv (fnOf n N f) ds = outV (f (ds.map .val ++ List.replicate (N - n) .no)) := by
  unfold gv fnOf outV
  cases f (ds.map .val ++ List.replicate (N - n) .no) with
  | nx sl => rfl
  | bk sl => rfl
  | ct sl => rfl
  | exc c d sl => rfl
  | stuck => rfl
  | rt t sl =>
    cases t with
    | val d => rfl
    | own d => rfl
    | bor i =>
      dsimp only
      cases sl[i]? with
      | none => rfl
      | some c => cases c <;> rfl
theorem gv1_1 (f : SS) (a0 : D) : gv (fnOf 1 1 f) [a0] = outV (f [.val a0]) := gv_fn 1 1 f [a0]
theorem gv1_2 (f : SS) (a0 : D) : gv (fnOf 1 2 f) [a0] = outV (f [.val a0, .no]) := gv_fn 1 2 f [a0]
theorem gv1_3 (f : SS) (a0 : D) : gv (fnOf 1 3 f) [a0] = outV (f [.val a0, .no, .no]) := gv_fn 1 3 f [a0]
theorem gv1_4 (f : SS) (a0 : D) : gv (fnOf 1 4 f) [a0] = outV (f [.val a0, .no, .no, .no]) := gv_fn 1 4 f [a0]
theorem gv1_5 (f : SS) (a0 : D) : gv (fnOf 1 5 f) [a0] = outV (f [.val a0, .no, .no, .no, .no]) := gv_fn 1 5 f [a0]
theorem gv1_6 (f : SS) (a0 : D) : gv (fnOf 1 6 f) [a0] = outV (f [.val a0, .no, .no, .no, .no, .no]) := gv_fn 1 6 f [a0]
theorem gv1_7 (f : SS) (a0 : D) : gv (fnOf 1 7 f) [a0] = outV (f [.val a0, .no, .no, .no, .no, .no, .no]) := gv_fn 1 7 f [a0]
theorem gv1_8 (f : SS) (a0 : D) : gv (fnOf 1 8 f) [a0] = outV (f [.val a0, .no, .no, .no, .no, .no, .no, .no]) := gv_fn 1 8 f [a0]
theorem gv1_9 (f : SS) (a0 : D) : gv (fnOf 1 9 f) [a0] = outV (f [.val a0, .no, .no, .no, .no, .no, .no, .no, .no]) := gv_fn 1 9 f [a0]
theorem gv1_10 (f : SS) (a0 : D) : gv (fnOf 1 10 f) [a0] = outV (f [.val a0, .no, .no, .no, .no, .no, .no, .no, .no, .no]) := gv_fn 1 10 f [a0]
theorem gv1_11 (f : SS) (a0 : D) : gv (fnOf 1 11 f) [a0] = outV (f [.val a0, .no, .no, .no, .no, .no, .no, .no, .no, .no, .no]) := gv_fn 1 11 f [a0]
theorem gv1_12 (f : SS) (a0 : D) : gv (fnOf 1 12 f) [a0] = outV (f [.val a0, .no, .no, .no, .no, .no, .no, .no, .no, .no, .no, .no]) := gv_fn 1 12 f [a0]
theorem gv1_13 (f : SS) (a0 : D) : gv (fnOf 1 13 f) [a0] = outV (f [.val a0, .no, .no, .no, .no, .no, .no, .no, .no, .no, .no, .no, .no]) := gv_fn 1 13 f [a0]
theorem gv1_14 (f : SS) (a0 : D) : gv (fnOf 1 14 f) [a0] = outV (f [.val a0, .no, .no, .no, .no, .no, .no, .no, .no, .no, .no, .no, .no, .no]) := gv_fn 1 14 f [a0]
theorem gv1_15 (f : SS) (a0 : D) : gv (fnOf 1 15 f) [a0] = outV (f [.val a0, .no, .no, .no, .no, .no, .no, .no, .no, .no, .no, .no, .no, .no, .no]) := gv_fn 1 15 f [a0]
theorem gv2_2 (f : SS) (a0 a1 : D) : gv (fnOf 2 2 f) [a0, a1] = outV (f [.val a0, .val a1]) := gv_fn 2 2 f [a0, a1]
theorem gv2_3 (f : SS) (a0 a1 : D) : gv (fnOf 2 3 f) [a0, a1] = outV (f [.val a0, .val a1, .no]) := gv_fn 2 3 f [a0, a1]
theorem gv2_4 (f : SS) (a0 a1 : D) : gv (fnOf 2 4 f) [a0, a1] = outV (f [.val a0, .val a1, .no, .no]) := gv_fn 2 4 f [a0, a1]
theorem gv2_5 (f : SS) (a0 a1 : D) : gv (fnOf 2 5 f) [a0, a1] = outV (f [.val a0, .val a1, .no, .no, .no]) := gv_fn 2 5 f [a0, a1]
theorem gv2_6 (f : SS) (a0 a1 : D) : gv (fnOf 2 6 f) [a0, a1] = outV (f [.val a0, .val a1, .no, .no, .no, .no]) := gv_fn 2 6 f [a0, a1]
theorem gv2_7 (f : SS) (a0 a1 : D) : gv (fnOf 2 7 f) [a0, a1] = outV (f [.val a0, .val a1, .no, .no, .no, .no, .no]) := gv_fn 2 7 f [a0, a1]
theorem gv2_8 (f : SS) (a0 a1 : D) : gv (fnOf 2 8 f) [a0, a1] = outV (f [.val a0, .val a1, .no, .no, .no, .no, .no, .no]) := gv_fn 2 8 f [a0, a1]
theorem gv2_9 (f : SS) (a0 a1 : D) : gv (fnOf 2 9 f) [a0, a1] = outV (f [.val a0, .val a1, .no, .no, .no, .no, .no, .no, .no]) := gv_fn 2 9 f [a0, a1]
theorem gv2_10 (f : SS) (a0 a1 : D) : gv (fnOf 2 10 f) [a0, a1] = outV (f [.val a0, .val a1, .no, .no, .no, .no, .no, .no, .no, .no]) := gv_fn 2 10 f [a0, a1]
theorem gv2_11 (f : SS) (a0 a1 : D) : gv (fnOf 2 11 f) [a0, a1] = outV (f [.val a0, .val a1, .no, .no, .no, .no, .no, .no, .no, .no, .no]) := gv_fn 2 11 f [a0, a1]
theorem gv2_12 (f : SS) (a0 a1 : D) : gv (fnOf 2 12 f) [a0, a1] = outV (f [.val a0, .val a1, .no, .no, .no, .no, .no, .no, .no, .no, .no, .no]) := gv_fn 2 12 f [a0, a1]
theorem gv2_13 (f : SS) (a0 a1 : D) : gv (fnOf 2 13 f) [a0, a1] = outV (f [.val a0, .val a1, .no, .no, .no, .no, .no, .no, .no, .no, .no, .no, .no]) := gv_fn 2 13 f [a0, a1]
theorem gv2_14 (f : SS) (a0 a1 : D) : gv (fnOf 2 14 f) [a0, a1] = outV (f [.val a0, .val a1, .no, .no, .no, .no, .no, .no, .no, .no, .no, .no, .no, .no]) := gv_fn 2 14 f [a0, a1]
theorem gv2_15 (f : SS) (a0 a1 : D) : gv (fnOf 2 15 f) [a0, a1] = outV (f [.val a0, .val a1, .no, .no, .no, .no, .no, .no, .no, .no, .no, .no, .no, .no, .no]) := gv_fn 2 15 f [a0, a1]
theorem gv3_3 (f : SS) (a0 a1 a2 : D) : gv (fnOf 3 3 f) [a0, a1, a2] = outV (f [.val a0, .val a1, .val a2]) := gv_fn 3 3 f [a0, a1, a2]
theorem gv3_4 (f : SS) (a0 a1 a2 : D) : gv (fnOf 3 4 f) [a0, a1, a2] = outV (f [.val a0, .val a1, .val a2, .no]) := gv_fn 3 4 f [a0, a1, a2]
theorem gv3_5 (f : SS) (a0 a1 a2 : D) : gv (fnOf 3 5 f) [a0, a1, a2] = outV (f [.val a0, .val a1, .val a2, .no, .no]) := gv_fn 3 5 f [a0, a1, a2]
theorem gv3_6 (f : SS) (a0 a1 a2 : D) : gv (fnOf 3 6 f) [a0, a1, a2] = outV (f [.val a0, .val a1, .val a2, .no, .no, .no]) := gv_fn 3 6 f [a0, a1, a2]
theorem gv3_7 (f : SS) (a0 a1 a2 : D) : gv (fnOf 3 7 f) [a0, a1, a2] = outV (f [.val a0, .val a1, .val a2, .no, .no, .no, .no]) := gv_fn 3 7 f [a0, a1, a2]
theorem gv3_8 (f : SS) (a0 a1 a2 : D) : gv (fnOf 3 8 f) [a0, a1, a2] = outV (f [.val a0, .val a1, .val a2, .no, .no, .no, .no, .no]) := gv_fn 3 8 f [a0, a1, a2]
theorem gv3_9 (f : SS) (a0 a1 a2 : D) : gv (fnOf 3 9 f) [a0, a1, a2] = outV (f [.val a0, .val a1, .val a2, .no, .no, .no, .no, .no, .no]) := gv_fn 3 9 f [a0, a1, a2]
theorem gv3_10 (f : SS) (a0 a1 a2 : D) : gv (fnOf 3 10 f) [a0, a1, a2] = outV (f [.val a0, .val a1, .val a2, .no, .no, .no, .no, .no, .no, .no]) := gv_fn 3 10 f [a0, a1, a2]
theorem gv3_11 (f : SS) (a0 a1 a2 : D) : gv (fnOf 3 11 f) [a0, a1, a2] = outV (f [.val a0, .val a1, .val a2, .no, .no, .no, .no, .no, .no, .no, .no]) := gv_fn 3 11 f [a0, a1, a2]
theorem gv3_12 (f : SS) (a0 a1 a2 : D) : gv (fnOf 3 12 f) [a0, a1, a2] = outV (f [.val a0, .val a1, .val a2, .no, .no, .no, .no, .no, .no, .no, .no, .no]) := gv_fn 3 12 f [a0, a1, a2]
theorem gv3_13 (f : SS) (a0 a1 a2 : D) : gv (fnOf 3 13 f) [a0, a1, a2] = outV (f [.val a0, .val a1, .val a2, .no, .no, .no, .no, .no, .no, .no, .no, .no, .no]) := gv_fn 3 13 f [a0, a1, a2]
theorem gv3_14 (f : SS) (a0 a1 a2 : D) : gv (fnOf 3 14 f) [a0, a1, a2] = outV (f [.val a0, .val a1, .val a2, .no, .no, .no, .no, .no, .no, .no, .no, .no, .no, .no]) := gv_fn 3 14 f [a0, a1, a2]
theorem gv3_15 (f : SS) (a0 a1 a2 : D) : gv (fnOf 3 15 f) [a0, a1, a2] = outV (f [.val a0, .val a1, .val a2, .no, .no, .no, .no, .no, .no, .no, .no, .no, .no, .no, .no]) := gv_fn 3 15 f [a0, a1, a2]
theorem gv4_4 (f : SS) (a0 a1 a2 a3 : D) : gv (fnOf 4 4 f) [a0, a1, a2, a3] = outV (f [.val a0, .val a1, .val a2, .val a3]) := gv_fn 4 4 f [a0, a1, a2, a3]
theorem gv4_5 (f : SS) (a0 a1 a2 a3 : D) : gv (fnOf 4 5 f) [a0, a1, a2, a3] = outV (f [.val a0, .val a1, .val a2, .val a3, .no]) := gv_fn 4 5 f [a0, a1, a2, a3]
theorem gv4_6 (f : SS) (a0 a1 a2 a3 : D) : gv (fnOf 4 6 f) [a0, a1, a2, a3] = outV (f [.val a0, .val a1, .val a2, .val a3, .no, .no]) := gv_fn 4 6 f [a0, a1, a2, a3]
theorem gv4_7 (f : SS) (a0 a1 a2 a3 : D) : gv (fnOf 4 7 f) [a0, a1, a2, a3] = outV (f [.val a0, .val a1, .val a2, .val a3, .no, .no, .no]) := gv_fn 4 7 f [a0, a1, a2, a3]
theorem gv4_8 (f : SS) (a0 a1 a2 a3 : D) : gv (fnOf 4 8 f) [a0, a1, a2, a3] = outV (f [.val a0, .val a1, .val a2, .val a3, .no, .no, .no, .no]) := gv_fn 4 8 f [a0, a1, a2, a3]
theorem gv4_9 (f : SS) (a0 a1 a2 a3 : D) : gv (fnOf 4 9 f) [a0, a1, a2, a3] = outV (f [.val a0, .val a1, .val a2, .val a3, .no, .no, .no, .no, .no]) := gv_fn 4 9 f [a0, a1, a2, a3]
theorem gv4_10 (f : SS) (a0 a1 a2 a3 : D) : gv (fnOf 4 10 f) [a0, a1, a2, a3] = outV (f [.val a0, .val a1, .val a2, .val a3, .no, .no, .no, .no, .no, .no]) := gv_fn 4 10 f [a0, a1, a2, a3]
theorem gv4_11 (f : SS) (a0 a1 a2 a3 : D) : gv (fnOf 4 11 f) [a0, a1, a2, a3] = outV (f [.val a0, .val a1, .val a2, .val a3, .no, .no, .no, .no, .no, .no, .no]) := gv_fn 4 11 f [a0, a1, a2, a3]
theorem gv4_12 (f : SS) (a0 a1 a2 a3 : D) : gv (fnOf 4 12 f) [a0, a1, a2, a3] = outV (f [.val a0, .val a1, .val a2, .val a3, .no, .no, .no, .no, .no, .no, .no, .no]) := gv_fn 4 12 f [a0, a1, a2, a3]
theorem gv4_13 (f : SS) (a0 a1 a2 a3 : D) : gv (fnOf 4 13 f) [a0, a1, a2, a3] = outV (f [.val a0, .val a1, .val a2, .val a3, .no, .no, .no, .no, .no, .no, .no, .no, .no]) := gv_fn 4 13 f [a0, a1, a2, a3]
theorem gv4_14 (f : SS) (a0 a1 a2 a3 : D) : gv (fnOf 4 14 f) [a0, a1, a2, a3] = outV (f [.val a0, .val a1, .val a2, .val a3, .no, .no, .no, .no, .no, .no, .no, .no, .no, .no]) := gv_fn 4 14 f [a0, a1, a2, a3]
theorem gv4_15 (f : SS) (a0 a1 a2 a3 : D) : gv (fnOf 4 15 f) [a0, a1, a2, a3] = outV (f [.val a0, .val a1, .val a2, .val a3, .no, .no, .no, .no, .no, .no, .no, .no, .no, .no, .no]) := gv_fn 4 15 f [a0, a1, a2, a3]
def VR.out : VR → Sl → Out Tm
  | .ok t, sl => .ok t sl
  | .exc c d, sl => .exc c d sl
  | .stuck, _ => .stuck
@[simp] theorem e_outO (t : Tm) (sl : Sl) : (VR.ok t).out sl = .ok t sl := Eq.trans rfl rfl
theorem cells_v (sl : Sl) : ∀ ds : List D, cellsOf sl (ds.map .val) = some (ds.map .val)
  | [] => rfl
  | d :: ds => by
    show (cellsOf sl (ds.map .val)).map _ = _
    rw [cells_v sl ds]; rfl
theorem bors_v : ∀ ds : List D, bors (ds.map .val) = []
  | [] => rfl
  | d :: ds => bors_v ds
theorem put_v (sl : Sl) : ∀ (ds : List D) (cs : List Cell), putAll sl (ds.map .val) cs = sl
  | [], cs => by cases cs <;> rfl
  | d :: ds, [] => rfl
  | d :: ds, c :: cs => put_v sl ds cs
theorem call_v (g : FF) (dds ds : List D) (sl : Sl) : callR g dds (ds.map .val) sl = (gv g (ds ++ dds)).out sl := by
  unfold callR gv
  rw [cells_v, bors_v, List.map_append]
  dsimp only
  rw [if_pos List.nodup_nil]
  cases g (List.map Cell.val ds ++ List.map Cell.val dds) with
  | ok t cs =>
    cases t with
    | bor i => rfl
    | val d => show Out.ok _ (putAll sl _ cs) = _; rw [put_v]; rfl
    | own d => show Out.ok _ (putAll sl _ cs) = _; rw [put_v]; rfl
  | exc c d cs => show Out.exc _ _ (putAll sl _ cs) = _; rw [put_v]; rfl
  | stuck => rfl
@[simp] theorem call_v1 (g : FF) (dds : List D) (a : D) (sl : Sl) : callR g dds [.val a] sl = (gv g (a :: dds)).out sl := call_v g dds [a] sl
@[simp] theorem call_v2 (g : FF) (dds : List D) (a b : D) (sl : Sl) : callR g dds [.val a, .val b] sl = (gv g (a :: b :: dds)).out sl := call_v g dds [a, b] sl
@[simp] theorem call_v3 (g : FF) (dds : List D) (a b c : D) (sl : Sl) : callR g dds [.val a, .val b, .val c] sl = (gv g (a :: b :: c :: dds)).out sl := call_v g dds [a, b, c] sl
@[simp] theorem call_v4 (g : FF) (dds : List D) (a b c d : D) (sl : Sl) : callR g dds [.val a, .val b, .val c, .val d] sl = (gv g (a :: b :: c :: d :: dds)).out sl := call_v g dds [a, b, c, d] sl
/-! loops -/
theorem lcL_fm {tg : TGf} {cond : BB} {elt : EE} {vs : List Nat} {sl : Sl} (r : D → Option D) (P : D → Prop)
    (h : ∀ d, P d → ∃ sl1 sl2 k, tg d sl = some sl1 ∧ cond sl1 = .ok k sl2 ∧ match r d with
      | some y => k = true ∧ ∃ sl3, vl elt sl2 = .ok y sl3 ∧ okW sl3 vs = true ∧ wipeS sl3 vs = sl
      | none => k = false ∧ okW sl2 vs = true ∧ wipeS sl2 vs = sl) :
    ∀ (ds : List D) (acc : List D), (∀ d ∈ ds, P d) → acc.length + ds.length ≤ LINE → lcL tg cond elt vs ds acc sl = .ok (acc ++ ds.filterMap r) sl
  | [], acc, _, _ => by unfold lcL; simp
  | d :: ds, acc, hP, hl => by
    obtain ⟨sl1, sl2, k, e1, e2, e3⟩ := h d (hP d List.mem_cons_self)
    have hP' : ∀ x ∈ ds, P x := fun x hx => hP x (List.mem_cons_of_mem _ hx)
    rw [List.length_cons] at hl
    unfold lcL
    rw [e1]
    dsimp only
    rw [e2]
    cases z : r d with
    | some y =>
      rw [z] at e3
      obtain ⟨rfl, sl3, e4, e5, e6⟩ := e3
      dsimp only
      rw [e4]
      dsimp only
      rw [if_pos ⟨e5, by omega⟩, e6, lcL_fm r P h ds (acc ++ [y]) hP' (by rw [List.length_append, List.length_singleton]; omega), List.filterMap_cons_some z]
      simp
    | none =>
      rw [z] at e3
      obtain ⟨rfl, e5, e6⟩ := e3
      dsimp only
      rw [if_pos e5, e6, lcL_fm r P h ds acc hP' (by omega), List.filterMap_cons_none z]
theorem lcL_map {tg : TGf} {elt : EE} {vs : List Nat} {sl : Sl} (r : D → D) (P : D → Prop)
    (h : ∀ d, P d → ∃ sl1 sl3, tg d sl = some sl1 ∧ vl elt sl1 = .ok (r d) sl3 ∧ okW sl3 vs = true ∧ wipeS sl3 vs = sl)
    (ds : List D) (hP : ∀ d ∈ ds, P d) (hl : ds.length ≤ LINE) : lcL tg yesB elt vs ds [] sl = .ok (ds.map r) sl := by
  have h' := lcL_fm (cond := yesB) (sl := sl) (vs := vs) (elt := elt) (tg := tg) (fun d => some (r d)) P (fun d hd => by
    obtain ⟨sl1, sl3, e1, e2, e3, e4⟩ := h d hd
    exact ⟨sl1, sl1, true, e1, rfl, rfl, sl3, e2, e3, e4⟩) ds [] hP (by simpa using hl)
  rw [h']
  simp
theorem lcL_fmT {α : Type} {tg : TGf} {cond : BB} {elt : EE} {vs : List Nat} {sl : Sl} (enc : α → D) (r : α → Option D) (P : α → Prop)
    (h : ∀ x, P x → ∃ sl1 sl2 k, tg (enc x) sl = some sl1 ∧ cond sl1 = .ok k sl2 ∧ match r x with
      | some y => k = true ∧ ∃ sl3, vl elt sl2 = .ok y sl3 ∧ okW sl3 vs = true ∧ wipeS sl3 vs = sl
      | none => k = false ∧ okW sl2 vs = true ∧ wipeS sl2 vs = sl) :
    ∀ (xs : List α) (acc : List D), (∀ x ∈ xs, P x) → acc.length + xs.length ≤ LINE → lcL tg cond elt vs (xs.map enc) acc sl = .ok (acc ++ xs.filterMap r) sl
  | [], acc, _, _ => by unfold lcL; simp
  | d :: ds, acc, hP, hl => by
    obtain ⟨sl1, sl2, k, e1, e2, e3⟩ := h d (hP d List.mem_cons_self)
    have hP' : ∀ x ∈ ds, P x := fun x hx => hP x (List.mem_cons_of_mem _ hx)
    rw [List.length_cons] at hl
    rw [List.map_cons]
    unfold lcL
    rw [e1]
    dsimp only
    rw [e2]
    cases z : r d with
    | some y =>
      rw [z] at e3
      obtain ⟨rfl, sl3, e4, e5, e6⟩ := e3
      dsimp only
      rw [e4]
      dsimp only
      rw [if_pos ⟨e5, by omega⟩, e6, lcL_fmT enc r P h ds (acc ++ [y]) hP' (by rw [List.length_append, List.length_singleton]; omega), List.filterMap_cons_some z]
      simp
    | none =>
      rw [z] at e3
      obtain ⟨rfl, e5, e6⟩ := e3
      dsimp only
      rw [if_pos e5, e6, lcL_fmT enc r P h ds acc hP' (by omega), List.filterMap_cons_none z]
theorem lcL_mapT {α : Type} {tg : TGf} {elt : EE} {vs : List Nat} {sl : Sl} (enc : α → D) (r : α → D) (P : α → Prop)
    (h : ∀ x, P x → ∃ sl1 sl3, tg (enc x) sl = some sl1 ∧ vl elt sl1 = .ok (r x) sl3 ∧ okW sl3 vs = true ∧ wipeS sl3 vs = sl)
    (xs : List α) (hP : ∀ x ∈ xs, P x) (hl : xs.length ≤ LINE) : lcL tg yesB elt vs (xs.map enc) [] sl = .ok (xs.map r) sl := by
  have h' := lcL_fmT (cond := yesB) (sl := sl) (vs := vs) (elt := elt) (tg := tg) enc (fun d => some (r d)) P (fun d hd => by
    obtain ⟨sl1, sl3, e1, e2, e3, e4⟩ := h d hd
    exact ⟨sl1, sl1, true, e1, rfl, rfl, sl3, e2, e3, e4⟩) xs [] hP (by simpa using hl)
  rw [h']
  simp
/-- a loop that goes on -/
theorem forL_nx {tg : TGf} {body : SS} (I : List D → Sl → Prop)
    (step : ∀ d ds sl, I (d :: ds) sl → ∃ sl1 sl2, tg d sl = some sl1 ∧ body sl1 = .nx sl2 ∧ I ds sl2) : ∀ (ds : List D) (sl : Sl), I ds sl → ∃ sl', forL tg body ds sl = .nx sl' ∧ I [] sl'
  | [], sl, h => ⟨sl, rfl, h⟩
  | d :: ds, sl, h => by
    obtain ⟨sl1, sl2, e1, e2, e3⟩ := step d ds sl h
    obtain ⟨sl', e4, e5⟩ := forL_nx I step ds sl2 e3
    refine ⟨sl', ?_, e5⟩
    unfold forL
    rw [e1]
    dsimp only
    rw [e2]
    exact e4
end Eng
set_option Elab.async false
set_option linter.all false
set_option maxRecDepth 100000
set_option maxHeartbeats 4000000
/-! PLAIN: sequences that come round, told by first numbers and a round; the shortest telling is one. -/
namespace Rd
abbrev Blk := List Int × List Int
def num (b : Blk) (n : Nat) : Int := if n < b.1.length then b.1.getD n 0 else b.2.getD ((n - b.1.length) % b.2.length) 0
def Per (a : Nat → Int) (N L : Nat) : Prop := ∀ n, N ≤ n → a (n + L) = a n
def Can (b : Blk) : Prop := b.2 ≠ [] ∧ (∀ s, 0 < s → Per (num b) b.1.length s → b.2.length ≤ s) ∧ (b.1 = [] ∨ b.1.getLast? ≠ b.2.getLast?)
theorem Per.mono {a : Nat → Int} {N M L : Nat} (h : Per a N L) (hm : N ≤ M) : Per a M L := fun n hn => h n (Nat.le_trans hm hn)
theorem Per.mul {a : Nat → Int} {N L : Nat} (h : Per a N L) : ∀ k n, N ≤ n → a (n + k * L) = a n
  | 0, n, _ => by simp
  | k + 1, n, hn => by
    have e : n + (k + 1) * L = (n + k * L) + L := by rw [Nat.succ_mul]; omega
    rw [e, h _ (by omega), Per.mul h k n hn]
theorem per_len (b : Blk) : Per (num b) b.1.length b.2.length := fun n hn => by
  unfold num
  rw [if_neg (by omega), if_neg (by omega)]
  have e : n + b.2.length - b.1.length = (n - b.1.length) + b.2.length := by omega
  rw [e, Nat.add_mod_right]
theorem per_gcd {a : Nat → Int} {N : Nat} : ∀ (L M : Nat), Per a N L → Per a N M → Per a N (Nat.gcd L M) := by
  intro L
  induction L using Nat.strongRecOn with
  | ind L ih =>
    intro M h1 h2
    by_cases z : L = 0
    · subst z; rw [Nat.gcd_zero_left]; exact h2
    · rw [Nat.gcd_rec]
      refine ih (M % L) (Nat.mod_lt _ (Nat.pos_of_ne_zero z)) L (fun n hn => ?_) h1
      have e := Nat.div_add_mod M L
      have e1 : n + M % L + (M / L) * L = n + M := by rw [Nat.mul_comm]; omega
      have e2 := Per.mul h1 (M / L) (n + M % L) (by omega)
      rw [e1, h2 n hn] at e2
      exact e2.symm
/-- one telling -/
theorem can_len {b c : Blk} (hb : Can b) (hc : Can c) (h : ∀ n, num b n = num c n) (hl : b.1.length ≤ c.1.length) : b.2.length = c.2.length ∧ b.1.length = c.1.length := by
  have hf : num b = num c := funext h
  have p1 := per_len b
  have p2 := per_len c
  have l1 : 0 < b.2.length := List.length_pos_iff.mpr hb.1
  have l2 : 0 < c.2.length := List.length_pos_iff.mpr hc.1
  have e1 : c.2.length ≤ b.2.length := hc.2.1 _ l1 (by rw [← hf]; exact p1.mono hl)
  have e2 : b.2.length ≤ c.2.length := hb.2.1 _ l2 (fun n hn => by
    have q1 := Per.mul p1 c.1.length (n + c.2.length) (by omega)
    have q2 := Per.mul p1 c.1.length n hn
    have q3 := p2 (n + c.1.length * b.2.length) (by
      have : c.1.length * 1 ≤ c.1.length * b.2.length := Nat.mul_le_mul_left _ l1
      omega)
    rw [← hf] at q3
    rw [← q1, ← q2, ← q3]
    congr 1
    omega)
  have eL : b.2.length = c.2.length := by omega
  refine ⟨eL, ?_⟩
  by_cases z : b.1.length = c.1.length
  · exact z
  · exfalso
    have hlt : b.1.length < c.1.length := by omega
    rcases hc.2.2 with q | q
    · rw [q] at hlt; simp at hlt
    · apply q
      have v1 : num c (c.1.length - 1) = num c (c.1.length - 1 + c.2.length) := by
        rw [← hf, ← eL]
        exact (p1 _ (by omega)).symm
      have v2 : num c (c.1.length - 1) = c.1.getD (c.1.length - 1) 0 := by unfold num; rw [if_pos (by omega)]
      have v3 : num c (c.1.length - 1 + c.2.length) = c.2.getD (c.2.length - 1) 0 := by
        unfold num
        rw [if_neg (by omega)]
        have : (c.1.length - 1 + c.2.length - c.1.length) % c.2.length = c.2.length - 1 := by
          have : c.1.length - 1 + c.2.length - c.1.length = c.2.length - 1 := by omega
          rw [this]; exact Nat.mod_eq_of_lt (by omega)
        rw [this]
      rw [v2, v3] at v1
      rw [List.getLast?_eq_getElem?, List.getLast?_eq_getElem?]
      rw [List.getElem?_eq_getElem (by omega), List.getElem?_eq_getElem (by omega)]
      rw [List.getD_eq_getElem?_getD, List.getD_eq_getElem?_getD, List.getElem?_eq_getElem (by omega), List.getElem?_eq_getElem (by omega)] at v1
      exact congrArg some v1
theorem can_one {b c : Blk} (hb : Can b) (hc : Can c) (h : ∀ n, num b n = num c n) : b = c := by
  have key : b.2.length = c.2.length ∧ b.1.length = c.1.length := by
    rcases Nat.le_total b.1.length c.1.length with z | z
    · exact can_len hb hc h z
    · obtain ⟨q1, q2⟩ := can_len hc hb (fun n => (h n).symm) z
      exact ⟨q1.symm, q2.symm⟩
  obtain ⟨k2, k1⟩ := key
  have e1 : b.1 = c.1 := by
    refine List.ext_getElem k1 fun i h1 h2 => ?_
    have := h i
    unfold num at this
    rw [if_pos h1, if_pos h2, List.getD_eq_getElem?_getD, List.getD_eq_getElem?_getD, List.getElem?_eq_getElem h1, List.getElem?_eq_getElem h2] at this
    exact this
  have e2 : b.2 = c.2 := by
    refine List.ext_getElem k2 fun i h1 h2 => ?_
    have := h (b.1.length + i)
    unfold num at this
    rw [if_neg (by omega), if_neg (by omega)] at this
    have q1 : (b.1.length + i - b.1.length) % b.2.length = i := by rw [Nat.add_sub_cancel_left]; exact Nat.mod_eq_of_lt h1
    have q2 : (b.1.length + i - c.1.length) % c.2.length = i := by rw [k1, Nat.add_sub_cancel_left]; exact Nat.mod_eq_of_lt h2
    rw [q1, q2, List.getD_eq_getElem?_getD, List.getD_eq_getElem?_getD, List.getElem?_eq_getElem h1, List.getElem?_eq_getElem h2] at this
    exact this
  exact Prod.ext e1 e2
/-! the shortest round -/
def fits (l : List Int) (s : Nat) : Bool := decide (l.length % s = 0) && decide (l = (List.replicate (l.length / s) (l.take s)).flatten)
def short (l : List Int) : List Int := match (List.range l.length).find? fun i => fits l (i + 1) with
  | some i => l.take (i + 1)
  | none => l
theorem rep_get (p : List Int) (hp : p ≠ []) : ∀ (k n : Nat), n < k * p.length → ((List.replicate k p).flatten)[n]? = p[n % p.length]?
  | 0, n, h => by omega
  | k + 1, n, h => by
    rw [List.replicate_succ, List.flatten_cons]
    have hl : 0 < p.length := List.length_pos_iff.mpr hp
    by_cases z : n < p.length
    · rw [List.getElem?_append_left z, Nat.mod_eq_of_lt z]
    · rw [List.getElem?_append_right (by omega), rep_get p hp k (n - p.length) (by rw [Nat.succ_mul] at h; omega)]
      have e3 := Nat.add_mod_right (n - p.length) p.length
      rw [Nat.sub_add_cancel (by omega)] at e3
      rw [e3]
theorem fits_get {l : List Int} {s : Nat} (hs : 0 < s) (hl : s ≤ l.length) (h : fits l s = true) (n : Nat) (hn : n < l.length) : l[n]? = (l.take s)[n % s]? := by
  unfold fits at h
  simp only [Bool.and_eq_true, decide_eq_true_eq] at h
  have ht : (l.take s).length = s := by rw [List.length_take]; omega
  have hne : l.take s ≠ [] := List.length_pos_iff.mp (by omega)
  have hm : l.length / s * s = l.length := Nat.div_mul_cancel (Nat.dvd_of_mod_eq_zero h.1)
  have q := rep_get (l.take s) hne (l.length / s) n (by rw [ht, hm]; exact hn)
  rw [← h.2, ht] at q
  exact q
theorem fits_of {l : List Int} {s : Nat} (hs : 0 < s) (hl : s ≤ l.length) (hd : l.length % s = 0) (h : ∀ n, n < l.length → l[n]? = l[n % s]?) : fits l s = true := by
  unfold fits
  simp only [Bool.and_eq_true, decide_eq_true_eq]
  refine ⟨hd, ?_⟩
  have ht : (l.take s).length = s := by rw [List.length_take]; omega
  have hne : l.take s ≠ [] := List.length_pos_iff.mp (by omega)
  have hm : l.length / s * s = l.length := Nat.div_mul_cancel (Nat.dvd_of_mod_eq_zero hd)
  have hlen : (List.replicate (l.length / s) (l.take s)).flatten.length = l.length := by simp [List.length_take, Nat.min_eq_left hl, hm]
  refine List.ext_getElem? fun n => ?_
  by_cases z : n < l.length
  · rw [rep_get (l.take s) hne _ n (by rw [ht, hm]; exact z), ht, h n z]
    have hlt : n % s < s := Nat.mod_lt _ hs
    rw [List.getElem?_take_of_lt hlt]
  · rw [List.getElem?_eq_none (by omega), List.getElem?_eq_none (by omega)]
theorem fits_len {l : List Int} (h : l ≠ []) : fits l l.length = true :=
  fits_of (List.length_pos_iff.mpr h) (Nat.le_refl _) (Nat.mod_self _) fun n hn => by rw [Nat.mod_eq_of_lt hn]
theorem short_ok {l : List Int} (h : l ≠ []) : ∃ s, 0 < s ∧ s ≤ l.length ∧ fits l s = true ∧ short l = l.take s ∧ ∀ s', 0 < s' → s' < s → fits l s' = false := by
  have hl : 0 < l.length := List.length_pos_iff.mpr h
  unfold short
  cases z : (List.range l.length).find? fun i => fits l (i + 1) with
  | none =>
    have := List.find?_eq_none.mp z (l.length - 1) (List.mem_range.mpr (by omega))
    have e : l.length - 1 + 1 = l.length := by omega
    rw [e] at this
    exact absurd (fits_len h) this
  | some i =>
    have hi := List.find?_some z
    have hm := List.mem_of_find?_eq_some z
    have hr := List.mem_range.mp hm
    refine ⟨i + 1, by omega, by omega, hi, rfl, fun s' h1 h2 => ?_⟩
    rw [List.find?_eq_some_iff_getElem] at z
    obtain ⟨_, j, hj, e1, e2⟩ := z
    have ej : j = i := by simpa using e1
    subst ej
    have := e2 (s' - 1) (by omega)
    simp at this
    have e : s' - 1 + 1 = s' := by omega
    rw [e] at this
    exact this
theorem short_ne {l : List Int} (h : l ≠ []) : short l ≠ [] := by
  obtain ⟨s, h1, h2, _, h4, _⟩ := short_ok h
  rw [h4]
  refine List.length_pos_iff.mp ?_
  rw [List.length_take]; omega
theorem short_num (f : List Int) {l : List Int} (h : l ≠ []) (n : Nat) : num (f, short l) n = num (f, l) n := by
  obtain ⟨s, h1, h2, h3, h4, _⟩ := short_ok h
  unfold num
  dsimp only
  by_cases z : n < f.length
  · rw [if_pos z, if_pos z]
  · rw [if_neg z, if_neg z, h4]
    have ht : (l.take s).length = s := by rw [List.length_take]; omega
    rw [ht, List.getD_eq_getElem?_getD, List.getD_eq_getElem?_getD]
    have hl : 0 < l.length := by omega
    have q := fits_get h1 h2 h3 ((n - f.length) % l.length) (Nat.mod_lt _ hl)
    rw [q]
    have hd : s ∣ l.length := by
      unfold fits at h3
      simp only [Bool.and_eq_true, decide_eq_true_eq] at h3
      exact Nat.dvd_of_mod_eq_zero h3.1
    rw [Nat.mod_mod_of_dvd _ hd]
theorem short_min (f : List Int) {l : List Int} (h : l ≠ []) (s : Nat) (hs : 0 < s) (hp : Per (num (f, short l)) f.length s) : (short l).length ≤ s := by
  obtain ⟨s0, h1, h2, h3, h4, h5⟩ := short_ok h
  have hle : (short l).length = s0 := by rw [h4, List.length_take]; omega
  rw [hle]
  have pl : Per (num (f, l)) f.length l.length := per_len (f, l)
  have hnum : num (f, short l) = num (f, l) := funext (short_num f h)
  rw [hnum] at hp
  have pg := per_gcd s l.length hp pl
  have hl : 0 < l.length := by omega
  have g0 : 0 < Nat.gcd s l.length := Nat.gcd_pos_of_pos_left _ hs
  have gd : Nat.gcd s l.length ∣ l.length := Nat.gcd_dvd_right _ _
  have gl : Nat.gcd s l.length ≤ l.length := Nat.le_of_dvd hl gd
  have gs : Nat.gcd s l.length ≤ s := Nat.le_of_dvd hs (Nat.gcd_dvd_left _ _)
  have hf : fits l (Nat.gcd s l.length) = true := by
    refine fits_of g0 gl (Nat.mod_eq_zero_of_dvd gd) fun n hn => ?_
    have e := Nat.div_add_mod n (Nat.gcd s l.length)
    have q := Per.mul pg (n / Nat.gcd s l.length) (f.length + n % Nat.gcd s l.length) (by omega)
    have e2 : f.length + n % Nat.gcd s l.length + n / Nat.gcd s l.length * Nat.gcd s l.length = f.length + n := by rw [Nat.mul_comm]; omega
    rw [e2] at q
    have hml : n % Nat.gcd s l.length < l.length := Nat.lt_of_lt_of_le (Nat.mod_lt _ g0) gl
    unfold num at q
    dsimp only at q
    rw [if_neg (by omega), if_neg (by omega), Nat.add_sub_cancel_left, Nat.add_sub_cancel_left, Nat.mod_eq_of_lt hn, Nat.mod_eq_of_lt hml] at q
    rw [List.getD_eq_getElem?_getD, List.getD_eq_getElem?_getD, List.getElem?_eq_getElem hn, List.getElem?_eq_getElem hml] at q
    rw [List.getElem?_eq_getElem hn, List.getElem?_eq_getElem hml]
    exact congrArg some q
  by_cases z : s0 ≤ Nat.gcd s l.length
  · omega
  · have := h5 _ g0 (by omega)
    rw [hf] at this
    cases this
/-! turned back -/
def turnB : Nat → Blk → Blk
  | 0, b => b
  | k + 1, b => if b.1 ≠ [] ∧ b.1.getLast? = b.2.getLast? then turnB k (b.1.dropLast, b.2.getLast?.toList ++ b.2.dropLast) else b
def blockIn (b : Blk) : Blk := turnB b.1.length (b.1, short b.2)
theorem num_turn {f p : List Int} {x : Int} (n : Nat) : num (f, x :: p) n = num (f ++ [x], p ++ [x]) n := by
  unfold num
  dsimp only
  rw [List.length_append, List.length_append, List.length_singleton, List.length_cons]
  by_cases z : n < f.length
  · rw [if_pos z, if_pos (by omega), List.getD_eq_getElem?_getD, List.getD_eq_getElem?_getD, List.getElem?_append_left z]
  · rw [if_neg z]
    by_cases z2 : n = f.length
    · subst z2
      rw [if_pos (by omega), Nat.sub_self, Nat.zero_mod, List.getD_eq_getElem?_getD, List.getD_eq_getElem?_getD, List.getElem?_append_right (Nat.le_refl _)]
      simp
    · rw [if_neg (by omega)]
      have e : n - f.length = (n - (f.length + 1)) + 1 := by omega
      rw [e, List.getD_eq_getElem?_getD, List.getD_eq_getElem?_getD]
      generalize n - (f.length + 1) = m
      have hr : m % (p.length + 1) < p.length + 1 := Nat.mod_lt _ (by omega)
      have hm := Nat.div_add_mod m (p.length + 1)
      by_cases q : m % (p.length + 1) = p.length
      · have e2 : (m + 1) % (p.length + 1) = 0 := by
          have : m + 1 = (p.length + 1) * (m / (p.length + 1) + 1) := by rw [Nat.mul_add]; omega
          rw [this, Nat.mul_mod_right]
        rw [e2, q, List.getElem?_append_right (Nat.le_refl _)]
        simp
      · have e2 : (m + 1) % (p.length + 1) = m % (p.length + 1) + 1 := by
          have e3 : m + 1 = (p.length + 1) * (m / (p.length + 1)) + (m % (p.length + 1) + 1) := by omega
          rw [e3, Nat.mul_add_mod, Nat.mod_eq_of_lt (by omega)]
        rw [e2, List.getElem?_append_left (by omega)]
        simp
def Min (b : Blk) : Prop := b.2 ≠ [] ∧ ∀ s, 0 < s → Per (num b) b.1.length s → b.2.length ≤ s
theorem last_split {l : List Int} {x : Int} (h : l.getLast? = some x) : l = l.dropLast ++ [x] := by
  have hne : l ≠ [] := fun z => by subst z; cases h
  have := List.dropLast_concat_getLast hne
  rw [List.getLast?_eq_getLast hne] at h
  cases h
  exact this.symm
theorem turn_ok : ∀ (k : Nat) (b : Blk), b.1.length ≤ k → Min b → Can (turnB k b) ∧ ∀ n, num (turnB k b) n = num b n
  | 0, b, hk, hm => by
    have : b.1 = [] := List.eq_nil_of_length_eq_zero (by omega)
    exact ⟨⟨hm.1, hm.2, .inl this⟩, fun n => rfl⟩
  | k + 1, b, hk, hm => by
    unfold turnB
    split
    · rename_i h
      obtain ⟨f, p⟩ := b
      dsimp only at h hk ⊢
      obtain ⟨h1, h2⟩ := h
      have hx : f.getLast? = some (f.getLast h1) := List.getLast?_eq_getLast h1
      have hp : p.getLast? = some (f.getLast h1) := by rw [← h2]; exact hx
      have ef := last_split hx
      have ep := last_split hp
      rw [hp]
      have hnum : ∀ n, num (f.dropLast, (some (f.getLast h1)).toList ++ p.dropLast) n = num (f, p) n := fun n => by
        have q := num_turn (f := f.dropLast) (p := p.dropLast) (x := f.getLast h1) n
        rw [← ef, ← ep] at q
        exact q
      have hlen : ((some (f.getLast h1)).toList ++ p.dropLast).length = p.length := by
        have := congrArg List.length ep
        rw [List.length_append, List.length_singleton] at this
        show p.dropLast.length + 1 = _
        omega
      have hfl : f.dropLast.length ≤ f.length := by rw [List.length_dropLast]; omega
      have hm' : Min (f.dropLast, (some (f.getLast h1)).toList ++ p.dropLast) := by
        refine ⟨fun z => ?_, fun s hs hper => ?_⟩
        · have := congrArg List.length z
          dsimp only at this
          rw [hlen] at this
          exact hm.1 (List.eq_nil_of_length_eq_zero this)
        · dsimp only at hper ⊢
          rw [hlen]
          refine hm.2 s hs ?_
          have e : num (f.dropLast, (some (f.getLast h1)).toList ++ p.dropLast) = num (f, p) := funext hnum
          rw [e] at hper
          exact hper.mono hfl
      obtain ⟨q1, q2⟩ := turn_ok k _ (by dsimp only; rw [List.length_dropLast]; omega) hm'
      exact ⟨q1, fun n => (q2 n).trans (hnum n)⟩
    · rename_i h
      refine ⟨⟨hm.1, hm.2, ?_⟩, fun n => rfl⟩
      by_cases z : b.1 = []
      · exact .inl z
      · exact .inr fun q => h ⟨z, q⟩
theorem block_can {b : Blk} (h : b.2 ≠ []) : Can (blockIn b) := (turn_ok _ _ (Nat.le_refl _) ⟨short_ne h, fun s hs hp => short_min b.1 h s hs hp⟩).1
theorem block_num {b : Blk} (h : b.2 ≠ []) (n : Nat) : num (blockIn b) n = num b n := ((turn_ok _ _ (Nat.le_refl _) ⟨short_ne h, fun s hs hp => short_min b.1 h s hs hp⟩).2 n).trans (short_num b.1 h n)
/-! tables -/
def NOT : Blk := ([], [0])
theorem num_not (n : Nat) : num NOT n = 0 := by
  unfold num NOT
  simp [Nat.mod_one]
theorem can_not : Can NOT := ⟨(by simp [NOT]), (fun s hs _ => hs), .inl rfl⟩
abbrev Tab := List Blk
def atB (t : Tab) (k : Nat) : Blk := t.getD k NOT
def numT (t : Tab) (k n : Nat) : Int := num (atB t k) n
def CanT (t : Tab) : Prop := (∀ b ∈ t, Can b) ∧ t.getLast? ≠ some NOT
theorem at_can {t : Tab} (h : ∀ b ∈ t, Can b) (k : Nat) : Can (atB t k) := by
  unfold atB
  rw [List.getD_eq_getElem?_getD]
  by_cases z : k < t.length
  · rw [List.getElem?_eq_getElem z]; exact h _ (List.getElem_mem z)
  · rw [List.getElem?_eq_none (by omega)]; exact can_not
theorem canT_len {t u : Tab} (ht : CanT t) (hu : CanT u) (h : ∀ k n, numT t k n = numT u k n) : u.length ≤ t.length := by
  by_cases z : u.length ≤ t.length
  · exact z
  · exfalso
    apply hu.2
    have e : atB t (u.length - 1) = NOT := by
      unfold atB
      rw [List.getD_eq_getElem?_getD, List.getElem?_eq_none (by omega)]
      rfl
    have q : atB u (u.length - 1) = NOT := can_one (at_can hu.1 _) can_not fun n => by
      have := h (u.length - 1) n
      unfold numT at this
      rw [e] at this
      exact this.symm
    rw [List.getLast?_eq_getElem?]
    unfold atB at q
    rw [List.getD_eq_getElem?_getD, List.getElem?_eq_getElem (by omega)] at q
    rw [List.getElem?_eq_getElem (by omega)]
    exact congrArg some q
theorem canT_one {t u : Tab} (ht : CanT t) (hu : CanT u) (h : ∀ k n, numT t k n = numT u k n) : t = u := by
  have h1 := canT_len ht hu h
  have h2 := canT_len hu ht fun k n => (h k n).symm
  refine List.ext_getElem (by omega) fun k k1 k2 => ?_
  have q := can_one (at_can ht.1 k) (at_can hu.1 k) (h k)
  unfold atB at q
  rw [List.getD_eq_getElem?_getD, List.getD_eq_getElem?_getD, List.getElem?_eq_getElem k1, List.getElem?_eq_getElem k2] at q
  exact q
/-- the last ones that are nothing fall -/
def trim : Nat → Tab → Tab
  | 0, t => t
  | k + 1, t => if t.getLast? = some NOT then trim k t.dropLast else t
def tableIn (t : Tab) : Tab := trim t.length (t.map blockIn)
theorem at_drop {t : Tab} (h : t.getLast? = some NOT) (k : Nat) : atB t.dropLast k = atB t k := by
  unfold atB
  rw [List.getD_eq_getElem?_getD, List.getD_eq_getElem?_getD, List.getElem?_dropLast]
  rw [List.getLast?_eq_getElem?] at h
  by_cases z : k < t.length - 1
  · rw [if_pos z]
  · rw [if_neg z]
    by_cases z2 : k = t.length - 1
    · rw [z2, h]; rfl
    · rw [List.getElem?_eq_none (by omega)]
theorem trim_ok : ∀ (k : Nat) (t : Tab), t.length ≤ k → (∀ b ∈ t, Can b) → CanT (trim k t) ∧ ∀ j, atB (trim k t) j = atB t j
  | 0, t, hk, hc => by
    have : t = [] := List.eq_nil_of_length_eq_zero (by omega)
    subst this
    exact ⟨⟨hc, fun z => by cases z⟩, fun j => rfl⟩
  | k + 1, t, hk, hc => by
    unfold trim
    split
    · rename_i h
      obtain ⟨q1, q2⟩ := trim_ok k t.dropLast (by rw [List.length_dropLast]; omega) fun b hb => hc b (List.dropLast_subset t hb)
      exact ⟨q1, fun j => (q2 j).trans (at_drop h j)⟩
    · rename_i h
      exact ⟨⟨hc, h⟩, fun j => rfl⟩
theorem table_ok {t : Tab} (h : ∀ b ∈ t, b.2 ≠ []) : CanT (tableIn t) ∧ ∀ k n, numT (tableIn t) k n = numT t k n := by
  have hc : ∀ b ∈ t.map blockIn, Can b := fun b hb => by
    obtain ⟨c, hc, rfl⟩ := List.mem_map.mp hb
    exact block_can (h c hc)
  obtain ⟨q1, q2⟩ := trim_ok t.length (t.map blockIn) (by rw [List.length_map]; exact Nat.le_refl _) hc
  refine ⟨q1, fun k n => ?_⟩
  unfold numT
  rw [show atB (tableIn t) k = atB (t.map blockIn) k from q2 k]
  unfold atB
  rw [List.getD_eq_getElem?_getD, List.getD_eq_getElem?_getD, List.getElem?_map]
  by_cases z : k < t.length
  · rw [List.getElem?_eq_getElem z]
    exact block_num (h _ (List.getElem_mem z)) n
  · rw [List.getElem?_eq_none (by omega)]; rfl
theorem canT_ne {t : Tab} (h : CanT t) : ∀ b ∈ t, b.2 ≠ [] := fun b hb => (h.1 b hb).1
theorem table_can {t : Tab} (h : CanT t) : tableIn t = t := by
  obtain ⟨q1, q2⟩ := table_ok (canT_ne h)
  exact canT_one q1 h q2
theorem table_eq {t u : Tab} (ht : ∀ b ∈ t, b.2 ≠ []) (hu : ∀ b ∈ u, b.2 ≠ []) (h : ∀ k n, numT t k n = numT u k n) : tableIn t = tableIn u := by
  obtain ⟨q1, q2⟩ := table_ok ht
  obtain ⟨q3, q4⟩ := table_ok hu
  exact canT_one q1 q3 fun k n => by rw [q2, q4, h]
/-! moved on -/
def shiftR (b : Blk) (n : Nat) : Blk := if n ≤ b.1.length then (b.1.drop n, b.2) else ([], b.2.drop ((n - b.1.length) % b.2.length) ++ b.2.take ((n - b.1.length) % b.2.length))
theorem shift_ne {b : Blk} (h : b.2 ≠ []) (n : Nat) : (shiftR b n).2 ≠ [] := by
  unfold shiftR
  split
  · exact h
  · intro z
    have := congrArg List.length z
    dsimp only at this
    rw [List.length_append, List.length_drop, List.length_take] at this
    have hl : 0 < b.2.length := List.length_pos_iff.mpr h
    have hm := Nat.mod_lt (n - b.1.length) hl
    rw [List.length_nil] at this
    omega
theorem shift_len (b : Blk) (n : Nat) : (shiftR b n).2.length = b.2.length := by
  unfold shiftR
  split
  · rfl
  · dsimp only
    by_cases h : b.2 = []
    · rw [h]; simp
    · have hl : 0 < b.2.length := List.length_pos_iff.mpr h
      have := Nat.mod_lt (n - b.1.length) hl
      rw [List.length_append, List.length_drop, List.length_take, Nat.min_eq_left (by omega)]
      omega
theorem shift_num {b : Blk} (h : b.2 ≠ []) (n i : Nat) : num (shiftR b n) i = num b (n + i) := by
  unfold shiftR
  by_cases z : n ≤ b.1.length
  · rw [if_pos z]
    unfold num
    dsimp only
    rw [List.length_drop]
    by_cases z2 : i < b.1.length - n
    · rw [if_pos z2, if_pos (by omega), List.getD_eq_getElem?_getD, List.getD_eq_getElem?_getD, List.getElem?_drop]
    · rw [if_neg z2, if_neg (by omega)]
      have e : i - (b.1.length - n) = n + i - b.1.length := by omega
      rw [e]
  · rw [if_neg z]
    have hl : 0 < b.2.length := List.length_pos_iff.mpr h
    have ht := Nat.mod_lt (n - b.1.length) hl
    have hd := Nat.div_add_mod (n - b.1.length) b.2.length
    unfold num
    dsimp only
    rw [if_neg (by simp), if_neg (by omega)]
    have e1 : (b.2.drop ((n - b.1.length) % b.2.length) ++ b.2.take ((n - b.1.length) % b.2.length)).length = b.2.length := by
      rw [List.length_append, List.length_drop, List.length_take, Nat.min_eq_left (by omega)]; omega
    rw [e1, List.length_nil, Nat.sub_zero]
    generalize ht' : (n - b.1.length) % b.2.length = t at *
    have e2 : (n + i - b.1.length) % b.2.length = (t + i) % b.2.length := by
      have : n + i - b.1.length = b.2.length * ((n - b.1.length) / b.2.length) + (t + i) := by omega
      rw [this, Nat.mul_add_mod]
    rw [e2, Nat.add_mod t i, Nat.mod_eq_of_lt ht]
    have hi := Nat.mod_lt i hl
    generalize i % b.2.length = r at *
    rw [List.getD_eq_getElem?_getD, List.getD_eq_getElem?_getD]
    by_cases z2 : r < b.2.length - t
    · rw [List.getElem?_append_left (by rw [List.length_drop]; exact z2), List.getElem?_drop, Nat.mod_eq_of_lt (by omega)]
    · rw [List.getElem?_append_right (by rw [List.length_drop]; omega), List.length_drop]
      have e3 : (t + r) % b.2.length = r - (b.2.length - t) := by
        have : t + r = (r - (b.2.length - t)) + b.2.length := by omega
        rw [this, Nat.add_mod_right, Nat.mod_eq_of_lt (by omega)]
      rw [e3, List.getElem?_take_of_lt (by omega)]
def shiftB (b : Blk) (n : Nat) : Blk := blockIn (shiftR b n)
def tailT (t : Tab) (k n : Nat) : Tab := tableIn (shiftB (atB t k) n :: t.drop (k + 1))
theorem at_ne {t : Tab} (h : ∀ b ∈ t, b.2 ≠ []) (k : Nat) : (atB t k).2 ≠ [] := by
  unfold atB
  rw [List.getD_eq_getElem?_getD]
  by_cases z : k < t.length
  · rw [List.getElem?_eq_getElem z]; exact h _ (List.getElem_mem z)
  · rw [List.getElem?_eq_none (by omega)]; simp [NOT]
theorem tail_num {t : Tab} (h : ∀ b ∈ t, b.2 ≠ []) (k n i j : Nat) : numT (tailT t k n) i j = if i = 0 then numT t k (n + j) else numT t (k + i) j := by
  have hb := shift_ne (at_ne h k) n
  have hc : Can (shiftB (atB t k) n) := block_can hb
  have q := (table_ok (t := shiftB (atB t k) n :: t.drop (k + 1)) fun b hm => by
    rcases List.mem_cons.mp hm with e | hm
    · rw [e]; exact hc.1
    · exact h b (List.mem_of_mem_drop hm)).2 i j
  rw [show numT (tailT t k n) i j = numT (tableIn (shiftB (atB t k) n :: t.drop (k + 1))) i j from rfl, q]
  cases i with
  | zero =>
    rw [if_pos rfl]
    show num (shiftB (atB t k) n) j = num (atB t k) (n + j)
    unfold shiftB
    rw [block_num hb, shift_num (at_ne h k)]
  | succ i =>
    rw [if_neg (by omega)]
    show num (atB (shiftB (atB t k) n :: t.drop (k + 1)) (i + 1)) j = num (atB t (k + (i + 1))) j
    congr 1
    unfold atB
    rw [List.getD_cons_succ, List.getD_eq_getElem?_getD, List.getD_eq_getElem?_getD, List.getElem?_drop]
    have e : k + 1 + i = k + (i + 1) := by omega
    rw [e]
/-! sizes -/
theorem turn_len : ∀ (k : Nat) (b : Blk), (turnB k b).2.length = b.2.length ∧ (turnB k b).1.length ≤ b.1.length
  | 0, b => ⟨rfl, Nat.le_refl _⟩
  | k + 1, b => by
    unfold turnB
    split
    · rename_i h
      obtain ⟨q1, q2⟩ := turn_len k (b.1.dropLast, b.2.getLast?.toList ++ b.2.dropLast)
      have e : (b.2.getLast?.toList ++ b.2.dropLast).length = b.2.length := by
        cases z : b.2.getLast? with
        | none =>
          have := List.getLast?_eq_none_iff.mp z
          rw [this]; rfl
        | some x =>
          have hne : b.2 ≠ [] := fun q => by rw [q] at z; cases z
          have hl : 0 < b.2.length := List.length_pos_iff.mpr hne
          rw [List.length_append, List.length_dropLast]
          simp
          omega
      refine ⟨q1.trans e, Nat.le_trans q2 ?_⟩
      rw [List.length_dropLast]; omega
    · exact ⟨rfl, Nat.le_refl _⟩
theorem block_len (b : Blk) : (blockIn b).2.length ≤ b.2.length ∧ (blockIn b).1.length ≤ b.1.length := by
  obtain ⟨q1, q2⟩ := turn_len b.1.length (b.1, short b.2)
  refine ⟨?_, q2⟩
  unfold blockIn
  rw [q1]
  dsimp only
  unfold short
  split
  · rw [List.length_take]; omega
  · exact Nat.le_refl _
/-- the numbers that stand in a block -/
theorem turn_mem : ∀ (k : Nat) (b : Blk) (x : Int), (x ∈ (turnB k b).1 → x ∈ b.1) ∧ (x ∈ (turnB k b).2 → x ∈ b.2)
  | 0, b, x => ⟨id, id⟩
  | k + 1, b, x => by
    unfold turnB
    split
    · obtain ⟨q1, q2⟩ := turn_mem k (b.1.dropLast, b.2.getLast?.toList ++ b.2.dropLast) x
      refine ⟨fun h => List.dropLast_subset _ (q1 h), fun h => ?_⟩
      rcases List.mem_append.mp (q2 h) with h | h
      · have : b.2.getLast? = some x := by simpa using h
        exact List.mem_of_getLast? this
      · exact List.dropLast_subset _ h
    · exact ⟨id, id⟩
theorem short_mem {l : List Int} {x : Int} (h : x ∈ short l) : x ∈ l := by
  unfold short at h
  split at h
  · exact List.mem_of_mem_take h
  · exact h
theorem block_mem (b : Blk) (x : Int) : (x ∈ (blockIn b).1 → x ∈ b.1) ∧ (x ∈ (blockIn b).2 → x ∈ b.2) := by
  obtain ⟨q1, q2⟩ := turn_mem b.1.length (b.1, short b.2) x
  exact ⟨q1, fun h => short_mem (q2 h)⟩
theorem shift_mem (b : Blk) (n : Nat) (x : Int) : (x ∈ (shiftR b n).1 → x ∈ b.1) ∧ (x ∈ (shiftR b n).2 → x ∈ b.2) := by
  unfold shiftR
  split
  · exact ⟨List.mem_of_mem_drop, id⟩
  · refine ⟨(fun h => by cases h), fun h => ?_⟩
    rcases List.mem_append.mp h with h | h
    · exact List.mem_of_mem_drop h
    · exact List.mem_of_mem_take h
theorem trim_mem : ∀ (k : Nat) (t : Tab) (b : Blk), b ∈ trim k t → b ∈ t
  | 0, t, b, h => h
  | k + 1, t, b, h => by
    unfold trim at h
    split at h
    · exact List.dropLast_subset _ (trim_mem k _ b h)
    · exact h
theorem trim_len : ∀ (k : Nat) (t : Tab), (trim k t).length ≤ t.length
  | 0, t => Nat.le_refl _
  | k + 1, t => by
    unfold trim
    split
    · have := trim_len k t.dropLast
      rw [List.length_dropLast] at this
      omega
    · exact Nat.le_refl _
theorem table_mem {t : Tab} {b : Blk} (h : b ∈ tableIn t) : ∃ c ∈ t, b = blockIn c := by
  obtain ⟨c, hc, e⟩ := List.mem_map.mp (trim_mem _ _ b h)
  exact ⟨c, hc, e.symm⟩
theorem table_len (t : Tab) : (tableIn t).length ≤ t.length := by
  have := trim_len t.length (t.map blockIn)
  rw [List.length_map] at this
  exact this
/-- a block that the functions take: few numbers, each one -1 at least -/
def Fit (b : Blk) : Prop := b.2 ≠ [] ∧ b.1.length ≤ 1000 ∧ b.2.length ≤ 1000 ∧ (∀ x ∈ b.1, -1 ≤ x) ∧ ∀ x ∈ b.2, -1 ≤ x
theorem fit_block {b : Blk} (h : Fit b) : Fit (blockIn b) := by
  obtain ⟨h1, h2, h3, h4, h5⟩ := h
  obtain ⟨l1, l2⟩ := block_len b
  exact ⟨(block_can h1).1, by omega, by omega, fun x hx => h4 x ((block_mem b x).1 hx), fun x hx => h5 x ((block_mem b x).2 hx)⟩
theorem fit_shift {b : Blk} (h : Fit b) (n : Nat) : Fit (shiftR b n) := by
  obtain ⟨h1, h2, h3, h4, h5⟩ := h
  refine ⟨shift_ne h1 n, ?_, by rw [shift_len]; exact h3, fun x hx => h4 x ((shift_mem b n x).1 hx), fun x hx => h5 x ((shift_mem b n x).2 hx)⟩
  unfold shiftR
  split
  · rw [List.length_drop]; omega
  · simp
theorem fit_not : Fit NOT := ⟨(by simp [NOT]), (by simp [NOT]), (by simp [NOT]), (by simp [NOT]), (by simp [NOT])⟩
theorem fit_at {t : Tab} (h : ∀ b ∈ t, Fit b) (k : Nat) : Fit (atB t k) := by
  unfold atB
  rw [List.getD_eq_getElem?_getD]
  by_cases z : k < t.length
  · rw [List.getElem?_eq_getElem z]; exact h _ (List.getElem_mem z)
  · rw [List.getElem?_eq_none (by omega)]; exact fit_not
theorem fit_table {t : Tab} (h : ∀ b ∈ t, Fit b) : ∀ b ∈ tableIn t, Fit b := fun b hb => by
  obtain ⟨c, hc, e⟩ := table_mem hb
  rw [e]; exact fit_block (h c hc)
theorem fit_tail {t : Tab} (h : ∀ b ∈ t, Fit b) (k n : Nat) : ∀ b ∈ tailT t k n, Fit b := fit_table fun b hb => by
  rcases List.mem_cons.mp hb with e | hb
  · rw [e]; exact fit_block (fit_shift (fit_at h k) n)
  · exact h b (List.mem_of_mem_drop hb)
end Rd
set_option Elab.async false
set_option linter.all false
set_option maxRecDepth 100000
set_option maxHeartbeats 4000000
/-! PLAIN 1: data of ints and tuples: equality; slices; pairs in order. -/
namespace Eng
open PySem
mutual
def plainD : D → Bool
  | .none => true
  | .int _ => true
  | .tuple ds => plainL ds
  | _ => false
def plainL : List D → Bool
  | [] => true
  | d :: ds => plainD d && plainL ds
end
mutual
theorem eqv_iff : ∀ (x y : D), plainD x = true → plainD y = true → (PyData.eqv x y = true ↔ x = y)
  | .none, y, _, h => by
    cases y <;> simp [plainD] at h <;> simp [PyData.eqv]
  | .int i, y, _, h => by
    cases y <;> simp [plainD] at h <;> simp [PyData.eqv]
  | .tuple xs, y, hx, h => by
    cases y with
    | tuple ys =>
      have := eqvL_iff xs ys hx h
      simp only [PyData.eqv]
      rw [this]
      exact ⟨congrArg _, fun e => by cases e; rfl⟩
    | _ => simp [plainD] at h <;> simp [PyData.eqv]
  | .bool _, _, h, _ => by simp [plainD] at h
  | .str _, _, h, _ => by simp [plainD] at h
  | .list _, _, h, _ => by simp [plainD] at h
  | .dict _, _, h, _ => by simp [plainD] at h
theorem eqvL_iff : ∀ (xs ys : List D), plainL xs = true → plainL ys = true → (PyData.eqvAll xs ys = true ↔ xs = ys)
  | [], [], _, _ => by simp [PyData.eqvAll]
  | [], _ :: _, _, _ => by simp [PyData.eqvAll]
  | _ :: _, [], _, _ => by simp [PyData.eqvAll]
  | x :: xs, y :: ys, hx, hy => by
    unfold plainL at hx hy
    rw [Bool.and_eq_true] at hx hy
    simp only [PyData.eqvAll, Bool.and_eq_true]
    rw [eqv_iff x y hx.1 hy.1, eqvL_iff xs ys hx.2 hy.2]
    simp
end
mutual
theorem can_plain : ∀ x : D, plainD x = true → x.canLay0 = true
  | .none, _ => by simp [PyData.canLay0]
  | .int i, _ => by simp [PyData.canLay0]
  | .tuple xs, h => by simp only [PyData.canLay0]; exact canL_plain xs h
  | .bool _, h => by simp [plainD] at h
  | .str _, h => by simp [plainD] at h
  | .list _, h => by simp [plainD] at h
  | .dict _, h => by simp [plainD] at h
theorem canL_plain : ∀ xs : List D, plainL xs = true → PyData.canLayAll0 xs = true
  | [], _ => by simp [PyData.canLayAll0]
  | x :: xs, h => by
    unfold plainL at h
    rw [Bool.and_eq_true] at h
    simp only [PyData.canLayAll0, Bool.and_eq_true]
    exact ⟨can_plain x h.1, canL_plain xs h.2⟩
end
def okD (x : D) : Prop := plainD x = true ∧ x.depth ≤ 64
theorem shaped_ok {x : D} (h : okD x) : SeqAt.shaped x = true := by
  unfold SeqAt.shaped
  rw [Bool.and_eq_true]
  exact ⟨can_plain x h.1, decide_eq_true h.2⟩
open Classical in
theorem eqv_ok {x y : D} (hx : okD x) (hy : okD y) : PyData.eqv x y = decide (x = y) := by
  by_cases z : x = y
  · rw [(eqv_iff x y hx.1 hy.1).mpr z, decide_eq_true z]
  · rw [decide_eq_false z]
    cases q : PyData.eqv x y with
    | false => rfl
    | true => exact absurd ((eqv_iff x y hx.1 hy.1).mp q) z
open Classical in
theorem gEq_ok {x y : D} (hx : okD x) (hy : okD y) : gEq x y = some (.val (.bool (decide (x = y)))) := by
  unfold gEq
  rw [if_pos ⟨shaped_ok hx, shaped_ok hy⟩, eqv_ok hx hy]
open Classical in
theorem gNe_ok {x y : D} (hx : okD x) (hy : okD y) : gNe x y = some (.val (.bool (!decide (x = y)))) := by
  unfold gNe
  rw [if_pos ⟨shaped_ok hx, shaped_ok hy⟩, eqv_ok hx hy]
/-! rows of ints -/
def iL (l : List Int) : List D := l.map .int
@[simp] theorem iL_len (l : List Int) : (iL l).length = l.length := by simp [iL]
theorem iL_inj {a b : List Int} : iL a = iL b ↔ a = b := by
  constructor
  · intro h
    induction a generalizing b with
    | nil => cases b with
      | nil => rfl
      | cons _ _ => cases h
    | cons x a ih => cases b with
      | nil => cases h
      | cons y b =>
        have h1 : (PyData.int x) :: iL a = PyData.int y :: iL b := h
        injection h1 with h2 h3
        injection h2 with h4
        rw [h4, ih h3]
  · intro h; rw [h]
theorem plain_iL : ∀ l : List Int, plainL (iL l) = true
  | [] => rfl
  | x :: l => by
    show (plainD (.int x) && plainL (iL l)) = true
    rw [plain_iL l]; rfl
theorem depth_iL (l : List Int) : PyData.depthAll (iL l) = 0 := PySem.W.depth_ints l
theorem ok_iL (l : List Int) : okD (.tuple (iL l)) := ⟨plain_iL l, by show PyData.depthAll (iL l) + 1 ≤ 64; rw [depth_iL]; omega⟩
theorem eq_iL (a b : List Int) : gEq (.tuple (iL a)) (.tuple (iL b)) = some (.val (.bool (decide (a = b)))) := by
  rw [gEq_ok (ok_iL a) (ok_iL b)]
  congr 3
  refine decide_eq_decide.mpr ?_
  rw [← iL_inj]
  exact ⟨fun h => by injection h, congrArg _⟩
@[simp] theorem iL_take (l : List Int) (n : Nat) : (iL l).take n = iL (l.take n) := by simp [iL]
@[simp] theorem iL_drop (l : List Int) (n : Nat) : (iL l).drop n = iL (l.drop n) := by simp [iL]
@[simp] theorem iL_app (a b : List Int) : iL a ++ iL b = iL (a ++ b) := by simp [iL]
@[simp] theorem iL_dropLast (l : List Int) : (iL l).dropLast = iL l.dropLast := by simp [iL, List.map_dropLast]
theorem iL_rep (k : Nat) (l : List Int) : (List.replicate k (iL l)).flatten = iL (List.replicate k l).flatten := by
  induction k with
  | zero => rfl
  | succ k ih => rw [List.replicate_succ, List.replicate_succ, List.flatten_cons, List.flatten_cons, ih, iL_app]
theorem at_iL (l : List Int) (n : Nat) (h : n < l.length) : L2.atI (iL l) (n : Int) = some (.int (l.getD n 0)) := by
  rw [at_nat, iL, List.getElem?_map, List.getElem?_eq_getElem h]
  simp [h]
theorem last_iL (l : List Int) : (iL l).getLast? = l.getLast?.map .int := by simp [iL]
/-! slices -/
theorem cut_to (ds : List D) (k : Nat) : cutD ds none (some (k : Int)) = ds.take k := by
  unfold cutD
  rw [HT.sIx_none, HT.sIx_nat, List.drop_zero, Nat.sub_zero]
  by_cases h : k ≤ ds.length
  · rw [Nat.min_eq_left h]
  · rw [Nat.min_eq_right (by omega), List.take_length, List.take_of_length_le (by omega)]
theorem cut_from (ds : List D) (k : Nat) : cutD ds (some (k : Int)) none = ds.drop k := by
  unfold cutD
  rw [HT.sIx_none, HT.sIx_nat]
  by_cases h : k ≤ ds.length
  · rw [Nat.min_eq_left h]
    exact List.take_of_length_le (by rw [List.length_drop]; omega)
  · rw [Nat.min_eq_right (by omega), List.drop_length, List.drop_eq_nil_of_le (by omega)]; simp
theorem cut_last (ds : List D) : cutD ds none (some (-1)) = ds.dropLast := by
  unfold cutD
  rw [HT.sIx_none, List.drop_zero, Nat.sub_zero]
  have e : HT.sIx ds.length ds.length (some (-1)) = ds.length - 1 := by
    show (if (-1 : Int) < 0 then ((-1 : Int) + (ds.length : Int)).toNat else min (-1 : Int).toNat ds.length) = _
    rw [if_pos (by omega)]; omega
  rw [e, List.dropLast_eq_take]
theorem cut_end (ds : List D) : cutD ds (some (-1)) none = ds.getLast?.toList := by
  unfold cutD
  rw [HT.sIx_none]
  have e : HT.sIx ds.length 0 (some (-1)) = ds.length - 1 := by
    show (if (-1 : Int) < 0 then ((-1 : Int) + (ds.length : Int)).toNat else min (-1 : Int).toNat ds.length) = _
    rw [if_pos (by omega)]; omega
  rw [e, List.take_of_length_le (by rw [List.length_drop]; omega), List.getLast?_eq_getElem?]
  by_cases z : ds = []
  · subst z; rfl
  · have : 0 < ds.length := List.length_pos_iff.mpr z
    rw [List.getElem?_eq_getElem (by omega), List.drop_eq_getElem_cons (by omega), List.drop_eq_nil_of_le (by omega)]; rfl
/-! pairs -/
theorem rng_succ (lo : Int) (n : Nat) : rng lo (n + 1) = .int lo :: rng (lo + 1) n := by
  unfold rng
  rw [List.range_succ_eq_map, List.map_cons, List.map_map]
  congr 1
  · simp
  · refine List.map_congr_left fun i _ => ?_
    simp only [Function.comp]
    congr 1
    omega
theorem rng_zero (lo : Int) : rng lo 0 = [] := rfl
/-! all, sum of told lists -/
theorem bools_map {α : Type} (p : α → Bool) : ∀ xs : List α, boolsOf (xs.map fun x => PyData.bool (p x)) = some (xs.map p)
  | [] => rfl
  | x :: xs => by
    show (boolsOf (xs.map fun x => PyData.bool (p x))).map _ = _
    rw [bools_map p xs]; rfl
theorem ints_map {α : Type} (p : α → Int) : ∀ xs : List α, intsOf (xs.map fun x => PyData.int (p x)) = some (xs.map p)
  | [] => rfl
  | x :: xs => by
    show (intsOf (xs.map fun x => PyData.int (p x))).map _ = _
    rw [ints_map p xs]; rfl
theorem all_map {α : Type} (p : α → Bool) (xs : List α) : gAll (.list (xs.map fun x => PyData.bool (p x))) = some (.val (.bool (xs.all p))) := by
  show (boolsOf _).map _ = _
  rw [bools_map]
  show some (Tm.val (.bool ((xs.map p).all id))) = _
  rw [List.all_map]
  rfl
theorem sum_map {α : Type} (p : α → Int) (xs : List α) : gSum (.list (xs.map fun x => PyData.int (p x))) = some (.val (.int (xs.map p).sum)) := by
  show (intsOf _).map _ = _
  rw [ints_map]
  rfl
@[simp] theorem max2_int (a b : Int) : gMax2 (.int a) (.int b) = some (.val (.int (max a b))) := by
  have h : cmp2Ok (.int a) (.int b) = true := rfl
  unfold gMax2
  rw [if_pos h, lt_int]
  by_cases z : a < b
  · rw [decide_eq_true z, if_pos rfl, Int.max_eq_right (by omega)]
  · rw [decide_eq_false z, if_neg (by simp), Int.max_eq_left (by omega)]
@[simp] theorem min2_int (a b : Int) : gMin2 (.int a) (.int b) = some (.val (.int (min a b))) := by
  have h : cmp2Ok (.int a) (.int b) = true := rfl
  unfold gMin2
  rw [if_pos h, lt_int]
  by_cases z : b < a
  · rw [decide_eq_true z, if_pos rfl, Int.min_eq_right (by omega)]
  · rw [decide_eq_false z, if_neg (by simp), Int.min_eq_left (by omega)]
end Eng
set_option Elab.async false
set_option linter.all false
set_option maxRecDepth 100000
set_option maxHeartbeats 4000000
/-! PLAIN: forests, their tops, strands, upper parts. -/
namespace Ft
/-- a forest: its first term (climb a, rises d, m copies, on it inner) and the rest -/
inductive Fo where
  | nil | cons (a d : Nat) (m : Int) (inner rest : Fo)
abbrev He := Nat × Nat
def ltH (x y : He) : Prop := x.1 < y.1 ∨ (x.1 = y.1 ∧ x.2 < y.2)
def leH (x y : He) : Prop := x.1 < y.1 ∨ (x.1 = y.1 ∧ x.2 ≤ y.2)
instance (x y : He) : Decidable (ltH x y) := inferInstanceAs (Decidable (_ ∨ _))
instance (x y : He) : Decidable (leH x y) := inferInstanceAs (Decidable (_ ∨ _))
theorem not_ltH {x y : He} : ¬ ltH x y ↔ leH y x := by
  unfold ltH leH; omega
theorem not_leH {x y : He} : ¬ leH x y ↔ ltH y x := by
  unfold ltH leH; omega
def maxH (x y : He) : He := if ltH x y then y else x
theorem le_maxL (x y : He) : leH x (maxH x y) := by
  unfold maxH; split
  · rename_i h; revert h; unfold ltH leH; omega
  · unfold leH; omega
theorem le_maxR (x y : He) : leH y (maxH x y) := by
  unfold maxH; split
  · unfold leH; omega
  · rename_i h; exact not_ltH.mp h
theorem max_or (x y : He) : maxH x y = x ∨ maxH x y = y := by
  unfold maxH; split
  · exact .inr rfl
  · exact .inl rfl
theorem leH_anti {x y : He} (h1 : leH x y) (h2 : leH y x) : x = y := by
  unfold leH at h1 h2
  exact Prod.ext (by omega) (by omega)
theorem leH_trans {x y z : He} (h1 : leH x y) (h2 : leH y z) : leH x z := by
  unfold leH at *; omega
theorem max_assoc (x y z : He) : maxH (maxH x y) z = maxH x (maxH y z) := by
  refine leH_anti ?_ ?_
  · rcases max_or (maxH x y) z with e | e <;> rw [e]
    · rcases max_or x y with e | e <;> rw [e]
      · exact le_maxL _ _
      · exact leH_trans (le_maxL _ _) (le_maxR x _)
    · exact leH_trans (le_maxR y z) (le_maxR x _)
  · rcases max_or x (maxH y z) with e | e <;> rw [e]
    · exact leH_trans (le_maxL x y) (le_maxL _ _)
    · rcases max_or y z with e | e <;> rw [e]
      · exact leH_trans (le_maxR x y) (le_maxL _ _)
      · exact le_maxR _ _
theorem max_zero (x : He) : maxH (0, 0) x = x := by
  unfold maxH; split
  · rfl
  · rename_i h
    have := not_ltH.mp h
    unfold leH at this
    exact Prod.ext (by dsimp only at *; omega) (by dsimp only at *; omega)
def over (x : He) (a d : Nat) : He := if 0 < d then (x.1 + 1, 0) else (x.1, x.2 + a + 1)
def topF : Fo → He
  | .nil => (0, 0)
  | .cons a d m i r => maxH (over (topF i) a d) (topF r)
/-- rest of y above x -/
def restH (h y : He) : He := if h.1 < y.1 then (y.1 - h.1, y.2) else (0, y.2 - h.2)
def sumH (h o : He) : He := if o.1 = 0 then (h.1, h.2 + o.2) else (h.1 + o.1, o.2)
theorem sum_rest {h y : He} (hy : leH h y) : sumH h (restH h y) = y := by
  unfold sumH restH
  unfold leH at hy
  split
  · rename_i z
    dsimp only
    rw [if_neg (by omega)]
    exact Prod.ext (by dsimp only; omega) rfl
  · dsimp only
    rw [if_pos rfl]
    exact Prod.ext (by dsimp only; omega) (by dsimp only; omega)
theorem rest_mono {h x y : He} (hx : leH h x) (hy : leH h y) : ltH x y ↔ ltH (restH h x) (restH h y) := by
  unfold restH ltH
  unfold leH at hx hy
  split <;> split <;> dsimp only <;> omega
/-! strands: block, place, rise, copies -/
abbrev Sd := Nat × Nat × Nat × Int
def firstS : Fo → List Sd
  | .nil => []
  | .cons a d m i r => ((topF i).1, (topF i).2 + a, d, m) :: firstS r
def less (m : Int) : Int := if m = -1 then m else m - 1
def woS (h : He) : List Sd → List Sd
  | [] => []
  | s :: L => if s.2.2.1 = 0 ∧ (s.1, s.2.1) = h then (s.1, s.2.1, s.2.2.1, less s.2.2.2) :: L else s :: woS h L
def kidS (f : Fo) : List Sd := if 0 < (topF f).2 then woS ((topF f).1, (topF f).2 - 1) (firstS f) else firstS f
def timesN (x y : Int) : Int := if x = 0 ∨ y = 0 then 0 else if x = -1 ∨ y = -1 then -1 else x * y
def plusN (x y : Int) : Int := if x = -1 ∨ y = -1 then -1 else x + y
def mulS (c : Int) (s : Sd) : Sd := (s.1, s.2.1, s.2.2.1, timesN c s.2.2.2)
def copies (d : Nat) (m : Int) : Int := if 0 < d then -1 else m
def upS : Fo → List Sd
  | .nil => []
  | .cons a d m i r => (kidS i ++ upS i).map (mulS (copies d m)) ++ upS r
def strands (f : Fo) : List Sd := firstS f ++ upS f
/-! upper parts -/
/-- what is left of a strand above h -/
def rs (h : He) (s : Sd) : Option Sd :=
  if h.1 < s.1 then some (s.1 - h.1, s.2)
  else if s.1 = h.1 then
    (if h.2 ≤ s.2.1 then some (0, s.2.1 - h.2, s.2.2) else if s.2.2.1 = 0 then none else some (0, (((s.2.1 : Int) - h.2) % (s.2.2.1 : Int)).toNat, s.2.2))
  else none
def upF (h : He) : Fo → Fo
  | .nil => .nil
  | .cons a d m i r =>
    if leH h (topF i) then .cons a d m (upF h i) (upF h r)
    else match rs h ((topF i).1, (topF i).2 + a, d, m) with
      | some s => .cons s.2.1 d m .nil (upF h r)
      | none => upF h r
/-- all strands of f lie below its top -/
def Below (t : He) (s : Sd) : Prop := if s.2.2.1 = 0 then ltH (s.1, s.2.1) t else s.1 < t.1
theorem Below.mono {t u : He} {s : Sd} (h : Below t s) (hu : leH t u) : Below u s := by
  unfold Below at *
  unfold leH at hu
  split
  · rename_i z; rw [if_pos z] at h; unfold ltH at *; omega
  · rename_i z; rw [if_neg z] at h; omega
theorem first_below : ∀ f : Fo, ∀ s ∈ firstS f, Below (topF f) s
  | .nil, s, h => by cases h
  | .cons a d m i r, s, h => by
    unfold firstS at h
    rcases List.mem_cons.mp h with e | h
    · subst e
      refine Below.mono (t := over (topF i) a d) ?_ (le_maxL _ _)
      unfold Below over
      dsimp only
      by_cases z : d = 0
      · rw [if_pos z, if_neg (by omega)]; unfold ltH; dsimp only; omega
      · rw [if_neg z, if_pos (by omega)]; dsimp only; omega
    · exact Below.mono (first_below r s h) (le_maxR _ _)
theorem wo_mem {h : He} : ∀ {L : List Sd} {s : Sd}, s ∈ woS h L → ∃ s' ∈ L, s.1 = s'.1 ∧ s.2.1 = s'.2.1 ∧ s.2.2.1 = s'.2.2.1
  | [], s, hs => by cases hs
  | x :: L, s, hs => by
    unfold woS at hs
    split at hs
    · rcases List.mem_cons.mp hs with e | hs
      · subst e; exact ⟨x, List.mem_cons_self, rfl, rfl, rfl⟩
      · exact ⟨s, List.mem_cons_of_mem _ hs, rfl, rfl, rfl⟩
    · rcases List.mem_cons.mp hs with e | hs
      · subst e; exact ⟨s, List.mem_cons_self, rfl, rfl, rfl⟩
      · obtain ⟨s', h1, h2⟩ := wo_mem hs
        exact ⟨s', List.mem_cons_of_mem _ h1, h2⟩
theorem below_eq {t : He} {s s' : Sd} (h : Below t s') (e1 : s.1 = s'.1) (e2 : s.2.1 = s'.2.1) (e3 : s.2.2.1 = s'.2.2.1) : Below t s := by
  unfold Below at *
  rw [e1, e2, e3]
  exact h
theorem kid_below (f : Fo) : ∀ s ∈ kidS f, Below (topF f) s := fun s h => by
  unfold kidS at h
  split at h
  · obtain ⟨s', h1, h2, h3, h4⟩ := wo_mem h
    exact below_eq (first_below f s' h1) h2 h3 h4
  · exact first_below f s h
theorem top_inner {a d : Nat} {i : Fo} : leH (topF i) (over (topF i) a d) := by
  unfold over leH
  split <;> dsimp only <;> omega
theorem up_below : ∀ f : Fo, ∀ s ∈ upS f, Below (topF f) s
  | .nil, s, h => by cases h
  | .cons a d m i r, s, h => by
    unfold upS at h
    rcases List.mem_append.mp h with h | h
    · obtain ⟨s', h1, rfl⟩ := List.mem_map.mp h
      have hb : Below (topF i) s' := by
        rcases List.mem_append.mp h1 with h1 | h1
        · exact kid_below i s' h1
        · exact up_below i s' h1
      exact Below.mono (below_eq hb rfl rfl rfl) (leH_trans top_inner (le_maxL _ _))
    · exact Below.mono (up_below r s h) (le_maxR _ _)
/-- nothing is left above the top -/
theorem rs_none {h t : He} {s : Sd} (hb : Below t s) (ht : leH t h) : rs h s = none := by
  unfold Below at hb
  unfold rs
  unfold leH at ht
  split at hb
  · rename_i z
    unfold ltH at hb
    dsimp only at hb
    rw [if_neg (by omega)]
    split
    · have hh : ¬ h.2 ≤ s.2.1 := by omega
      simp [hh, z]
    · rfl
  · rw [if_neg (by omega), if_neg (by omega)]
theorem fm_none {h t : He} {L : List Sd} (hb : ∀ s ∈ L, Below t s) (ht : leH t h) : L.filterMap (rs h) = [] := by
  refine List.filterMap_eq_nil_iff.mpr fun s hs => rs_none (hb s hs) ht
/-! the upper part's strands -/
theorem rest_over {h x : He} {a d : Nat} (hx : leH h x) : over (restH h x) a d = restH h (over x a d) := by
  unfold over restH
  unfold leH at hx
  by_cases z : 0 < d
  · rw [if_pos z, if_pos z]
    dsimp only
    rw [if_pos (show h.1 < x.1 + 1 by omega)]
    split <;> exact Prod.ext (by dsimp only; omega) rfl
  · rw [if_neg z, if_neg z]
    dsimp only
    split
    · rfl
    · exact Prod.ext rfl (by dsimp only; omega)
/-- a strand kept: the term's over lies above h -/
theorem rs_kept {h x : He} {a d : Nat} {m : Int} (hx : ¬ leH h x) {s : Sd} (e : rs h (x.1, x.2 + a, d, m) = some s) : ltH h (over x a d) ∧ s.1 = 0 ∧ s.2.2 = (d, m) ∧ over (0, 0) s.2.1 d = restH h (over x a d) := by
  unfold rs at e
  dsimp only at e
  have hx' := not_leH.mp hx
  unfold ltH at hx'
  rw [if_neg (by omega)] at e
  split at e
  · rename_i z
    split at e
    · rename_i z2
      cases e
      refine ⟨?_, rfl, rfl, ?_⟩
      · unfold over ltH
        split <;> dsimp only <;> omega
      · unfold over restH
        by_cases zd : 0 < d
        · rw [if_pos zd, if_pos zd]
          dsimp only
          rw [if_pos (by omega)]
          exact Prod.ext (by dsimp only; omega) rfl
        · rw [if_neg zd, if_neg zd]
          dsimp only
          rw [if_neg (by omega)]
          exact Prod.ext rfl (by dsimp only; omega)
    · rename_i z2
      split at e
      · cases e
      · rename_i zd
        cases e
        have zd' : 0 < d := by omega
        refine ⟨?_, rfl, rfl, ?_⟩
        · unfold over ltH
          rw [if_pos zd']; dsimp only; omega
        · unfold over restH
          rw [if_pos zd', if_pos zd']
          dsimp only
          rw [if_pos (by omega)]
          exact Prod.ext (by dsimp only; omega) rfl
  · cases e
theorem rs_fallen {h x : He} {a d : Nat} {m : Int} (hx : ¬ leH h x) (e : rs h (x.1, x.2 + a, d, m) = none) : leH (over x a d) h := by
  unfold rs at e
  dsimp only at e
  have hx' := not_leH.mp hx
  unfold ltH at hx'
  rw [if_neg (by omega)] at e
  unfold over leH
  split at e
  · rename_i z
    split at e
    · cases e
    · split at e
      · rename_i zd
        rw [if_neg (by omega)]; dsimp only; omega
      · cases e
  · split <;> dsimp only <;> omega
theorem over_gt {x : He} {a d : Nat} : ltH x (over x a d) := by
  unfold over ltH
  split <;> dsimp only <;> omega
theorem upF_nil {h : He} : ∀ f : Fo, leH (topF f) h → upF h f = .nil
  | .nil, _ => rfl
  | .cons a d m i r, hf => by
    have h1 : leH (over (topF i) a d) h := leH_trans (le_maxL _ _) hf
    have h2 : leH (topF r) h := leH_trans (le_maxR _ _) hf
    have h3 : ¬ leH h (topF i) := not_leH.mpr (by
      have := over_gt (x := topF i) (a := a) (d := d)
      unfold ltH leH at *; omega)
    unfold upF
    rw [if_neg h3]
    cases e : rs h ((topF i).1, (topF i).2 + a, d, m) with
    | none => exact upF_nil r h2
    | some s =>
      have := (rs_kept h3 e).1
      unfold ltH leH at *; omega
theorem rest_max {h x y : He} (hx : leH h x) (hy : leH h y) : maxH (restH h x) (restH h y) = restH h (maxH x y) := by
  unfold maxH
  have := rest_mono hx hy
  by_cases z : ltH x y
  · rw [if_pos z, if_pos (this.mp z)]
  · rw [if_neg z, if_neg fun q => z (this.mpr q)]
theorem max_le {x y : He} (h : leH y x) : maxH x y = x := by
  unfold maxH
  rw [if_neg (not_ltH.mpr h)]
theorem max_ge {x y : He} (h : leH x y) : maxH x y = y := by
  rcases max_or x y with e | e
  · rw [e]
    have := le_maxR x y
    rw [e] at this
    exact leH_anti h this
  · exact e
theorem ltH_le {x y : He} (h : ltH x y) : leH x y := by unfold ltH leH at *; omega
theorem max_zeroR (x : He) : maxH x (0, 0) = x := max_le (by unfold leH; dsimp only; omega)
theorem upF_top {h : He} : ∀ f : Fo, ltH h (topF f) → topF (upF h f) = restH h (topF f)
  | .nil, hf => by unfold ltH topF at hf; dsimp only at hf; omega
  | .cons a d m i r, hf => by
    have hf' : ltH h (maxH (over (topF i) a d) (topF r)) := hf
    show topF (upF h (.cons a d m i r)) = restH h (maxH (over (topF i) a d) (topF r))
    have kept : ∀ (a' : Nat) (i' : Fo), ltH h (over (topF i) a d) → over (topF i') a' d = restH h (over (topF i) a d) → topF (.cons a' d m i' (upF h r)) = restH h (maxH (over (topF i) a d) (topF r)) := fun a' i' ho e => by
      show maxH (over (topF i') a' d) (topF (upF h r)) = _
      rw [e]
      by_cases z : ltH h (topF r)
      · rw [upF_top r z, rest_max (ltH_le ho) (ltH_le z)]
      · have z' := not_ltH.mp z
        rw [upF_nil r z', max_le (leH_trans z' (ltH_le ho))]
        exact max_zeroR _
    unfold upF
    by_cases z : leH h (topF i)
    · rw [if_pos z]
      refine kept a (upF h i) ?_ ?_
      · have := over_gt (x := topF i) (a := a) (d := d)
        unfold ltH leH at *; omega
      · rw [← rest_over z]
        congr 1
        by_cases q : ltH h (topF i)
        · exact upF_top i q
        · have e := leH_anti z (not_ltH.mp q)
          rw [upF_nil i (by rw [← e]; unfold leH; omega), ← e]
          unfold restH topF
          rw [if_neg (by omega)]
          exact Prod.ext rfl (by dsimp only; omega)
    · rw [if_neg z]
      cases e : rs h ((topF i).1, (topF i).2 + a, d, m) with
      | none =>
        have ho := rs_fallen z e
        have h2 : ltH h (topF r) := by
          rcases max_or (over (topF i) a d) (topF r) with q | q
          · rw [q] at hf'
            unfold ltH leH at *; omega
          · rw [q] at hf'; exact hf'
        dsimp only
        rw [upF_top r h2, max_ge (leH_trans ho (ltH_le h2))]
      | some s =>
        obtain ⟨k1, k2, k3, k4⟩ := rs_kept z e
        exact kept s.2.1 .nil k1 k4
theorem upF_topE {h : He} {f : Fo} (hf : leH h (topF f)) : topF (upF h f) = restH h (topF f) := by
  by_cases q : ltH h (topF f)
  · exact upF_top f q
  · have e := leH_anti hf (not_ltH.mp q)
    rw [upF_nil f (by rw [← e]; unfold leH; omega), ← e]
    unfold restH topF
    rw [if_neg (by omega)]
    exact Prod.ext rfl (by dsimp only; omega)
theorem rs_high {h x : He} {a d : Nat} {m : Int} (hx : leH h x) : rs h (x.1, x.2 + a, d, m) = some ((restH h x).1, (restH h x).2 + a, d, m) := by
  unfold rs restH
  unfold leH at hx
  dsimp only
  split
  · rfl
  · rw [if_pos (by omega), if_pos (by omega)]
    have e : x.2 + a - h.2 = x.2 - h.2 + a := by omega
    rw [e]
theorem first_up {h : He} : ∀ f : Fo, firstS (upF h f) = (firstS f).filterMap (rs h)
  | .nil => rfl
  | .cons a d m i r => by
    unfold upF
    show _ = (((topF i).1, (topF i).2 + a, d, m) :: firstS r).filterMap (rs h)
    by_cases z : leH h (topF i)
    · rw [if_pos z, List.filterMap_cons_some (rs_high z)]
      show ((topF (upF h i)).1, (topF (upF h i)).2 + a, d, m) :: firstS (upF h r) = _
      rw [upF_topE z, first_up r]
    · rw [if_neg z]
      cases e : rs h ((topF i).1, (topF i).2 + a, d, m) with
      | none =>
        rw [List.filterMap_cons_none e]
        exact first_up r
      | some s =>
        rw [List.filterMap_cons_some e]
        obtain ⟨k1, k2, k3, k4⟩ := rs_kept z e
        show (0, 0 + s.2.1, d, m) :: firstS (upF h r) = _
        rw [first_up r, Nat.zero_add]
        congr 1
        obtain ⟨s1, s2, s3, s4⟩ := s
        cases k3
        cases k2
        rfl
theorem rs_line {h x : He} {m : Int} : rs h (x.1, x.2, 0, m) = if leH h x then some ((restH h x).1, (restH h x).2, 0, m) else none := by
  by_cases hq : leH h x
  · rw [if_pos hq]
    exact rs_high (a := 0) hq
  · rw [if_neg hq]
    refine rs_none (t := (x.1, x.2 + 1)) ?_ ?_
    · unfold Below
      dsimp only
      rw [if_pos rfl]
      unfold ltH
      dsimp only
      omega
    · have := not_leH.mp hq
      unfold ltH at this
      unfold leH
      dsimp only
      omega
theorem rs_keep {h : He} {s s' : Sd} (e : rs h s = some s') : s'.2.2 = s.2.2 := by
  unfold rs at e
  split at e
  · cases e; rfl
  · split at e
    · split at e
      · cases e; rfl
      · split at e
        · cases e
        · cases e; rfl
    · cases e
theorem rest_inj {h x y : He} (hx : leH h x) (hy : leH h y) (e : restH h x = restH h y) : x = y := by
  rw [← sum_rest hx, ← sum_rest hy, e]
theorem wo_cons (t : He) (s : Sd) (L : List Sd) : woS t (s :: L) = if s.2.2.1 = 0 ∧ (s.1, s.2.1) = t then (s.1, s.2.1, s.2.2.1, less s.2.2.2) :: L else s :: woS t L := rfl
theorem wo_up {h t : He} (ht : leH h t) : ∀ L : List Sd, (woS t L).filterMap (rs h) = woS (restH h t) (L.filterMap (rs h))
  | [] => rfl
  | (k, s, d, m) :: L => by
    rw [wo_cons]
    dsimp only
    by_cases z : d = 0 ∧ (k, s) = t
    · rw [if_pos z]
      obtain ⟨z1, z2⟩ := z
      subst z1; subst z2
      have e1 : ∀ m : Int, rs h (k, s, 0, m) = some ((restH h (k, s)).1, (restH h (k, s)).2, 0, m) := fun m => by
        rw [show rs h (k, s, 0, m) = _ from rs_line (h := h) (x := (k, s)) (m := m), if_pos ht]
      rw [List.filterMap_cons_some (e1 _), List.filterMap_cons_some (e1 _), wo_cons, if_pos ⟨rfl, rfl⟩]
    · rw [if_neg z]
      cases e : rs h (k, s, d, m) with
      | none => rw [List.filterMap_cons_none e, List.filterMap_cons_none e, wo_up ht L]
      | some s' =>
        rw [List.filterMap_cons_some e, List.filterMap_cons_some e, wo_up ht L, wo_cons]
        obtain ⟨k', p', d', m'⟩ := s'
        have hk := rs_keep e
        dsimp only at hk
        cases hk
        dsimp only
        rw [if_neg]
        rintro ⟨z1, z2⟩
        subst z1
        rw [show rs h (k, s, 0, m) = _ from rs_line (h := h) (x := (k, s)) (m := m)] at e
        split at e
        · rename_i q
          cases e
          exact z ⟨rfl, rest_inj q ht z2⟩
        · cases e
theorem wo_low {h t : He} (ht : ltH t h) : ∀ L : List Sd, (woS t L).filterMap (rs h) = L.filterMap (rs h)
  | [] => rfl
  | (k, s, d, m) :: L => by
    rw [wo_cons]
    dsimp only
    by_cases z : d = 0 ∧ (k, s) = t
    · rw [if_pos z]
      obtain ⟨z1, z2⟩ := z
      subst z1; subst z2
      have e1 : ∀ m : Int, rs h (k, s, 0, m) = none := fun m => by
        rw [show rs h (k, s, 0, m) = _ from rs_line (h := h) (x := (k, s)) (m := m), if_neg (not_leH.mpr ht)]
      rw [List.filterMap_cons_none (e1 _), List.filterMap_cons_none (e1 _)]
    · rw [if_neg z, List.filterMap_cons, List.filterMap_cons, wo_low ht L]
theorem kid_up {h : He} {f : Fo} (hf : leH h (topF f)) : kidS (upF h f) = (kidS f).filterMap (rs h) := by
  unfold kidS
  rw [upF_topE hf, first_up]
  by_cases z : 0 < (restH h (topF f)).2
  · rw [if_pos z]
    have hn : 0 < (topF f).2 := by
      unfold restH at z
      split at z <;> dsimp only at z <;> omega
    have hh : leH h ((topF f).1, (topF f).2 - 1) := by
      unfold restH at z
      unfold leH at hf ⊢
      split at z <;> dsimp only at z ⊢ <;> omega
    have he : restH h ((topF f).1, (topF f).2 - 1) = ((restH h (topF f)).1, (restH h (topF f)).2 - 1) := by
      unfold restH
      dsimp only
      split
      · rfl
      · exact Prod.ext rfl (by dsimp only; omega)
    rw [if_pos hn, wo_up hh, he]
  · rw [if_neg z]
    by_cases hn : 0 < (topF f).2
    · rw [if_pos hn, wo_low]
      unfold restH at z
      unfold leH at hf
      unfold ltH
      split at z <;> dsimp only at z ⊢ <;> omega
    · rw [if_neg hn]
theorem rs_mul (h : He) (c : Int) (s : Sd) : rs h (mulS c s) = (rs h s).map (mulS c) := by
  unfold rs mulS
  dsimp only
  split
  · rfl
  · split
    · split
      · rfl
      · split <;> rfl
    · rfl
theorem fm_mul (h : He) (c : Int) (L : List Sd) : (L.map (mulS c)).filterMap (rs h) = (L.filterMap (rs h)).map (mulS c) := by
  rw [List.filterMap_map, List.map_filterMap]
  congr 1
  funext s
  exact rs_mul h c s
theorem up_up {h : He} : ∀ f : Fo, upS (upF h f) = (upS f).filterMap (rs h)
  | .nil => rfl
  | .cons a d m i r => by
    unfold upF
    show _ = ((kidS i ++ upS i).map (mulS (copies d m)) ++ upS r).filterMap (rs h)
    rw [List.filterMap_append, fm_mul, List.filterMap_append]
    by_cases z : leH h (topF i)
    · rw [if_pos z]
      show (kidS (upF h i) ++ upS (upF h i)).map (mulS (copies d m)) ++ upS (upF h r) = _
      rw [kid_up z, up_up i, up_up r]
    · rw [if_neg z]
      have zl := ltH_le (not_leH.mp z)
      rw [fm_none (kid_below i) zl, fm_none (up_below i) zl]
      cases e : rs h ((topF i).1, (topF i).2 + a, d, m) with
      | none => exact up_up r
      | some s =>
        show (kidS .nil ++ upS .nil).map (mulS (copies d m)) ++ upS (upF h r) = _
        rw [up_up r]; rfl
theorem strands_up (h : He) (f : Fo) : strands (upF h f) = (strands f).filterMap (rs h) := by
  unfold strands
  rw [first_up, up_up, List.filterMap_append]
/-! numbers -/
def snum (s : Sd) (n : Nat) : Int := if s.2.2.1 = 0 then (if n = s.2.1 then s.2.2.2 else 0) else if s.2.1 ≤ n ∧ (n - s.2.1) % s.2.2.1 = 0 then s.2.2.2 else 0
def sumS (L : List Sd) (n : Nat) (t : Int) : Int := L.foldl (fun t s => plusN t (snum s n)) t
def cnt (L : List Sd) (k n : Nat) : Int := sumS (L.filter fun s => s.1 = k) n 0
theorem plus_zero (t : Int) : plusN t 0 = t := by
  unfold plusN
  split
  · omega
  · omega
theorem rs_snum {h o : He} {s : Sd} : (match rs h s with
    | some s' => if s'.1 = o.1 then snum s' o.2 else 0
    | none => 0) = if s.1 = (sumH h o).1 then snum s (sumH h o).2 else 0 := by
  obtain ⟨k, p, d, m⟩ := s
  obtain ⟨i, j⟩ := o
  obtain ⟨hk, hn⟩ := h
  unfold rs sumH
  dsimp only
  by_cases z : hk < k
  · rw [if_pos z]
    dsimp only
    by_cases zi : i = 0
    · subst zi
      rw [if_pos rfl, if_neg (by omega), if_neg (by dsimp only; omega)]
    · rw [if_neg zi]
      dsimp only
      by_cases q : k - hk = i
      · rw [if_pos q, if_pos (by omega)]; rfl
      · rw [if_neg q, if_neg (by omega)]
  · rw [if_neg z]
    by_cases z2 : k = hk
    · rw [if_pos z2]
      by_cases zi : i = 0
      · subst zi
        rw [if_pos rfl]
        dsimp only
        rw [if_pos z2]
        by_cases z3 : hn ≤ p
        · rw [if_pos z3]
          dsimp only
          rw [if_pos rfl]
          unfold snum
          dsimp only
          by_cases zd : d = 0
          · rw [if_pos zd, if_pos zd]
            by_cases q : j = p - hn
            · rw [if_pos q, if_pos (by omega)]
            · rw [if_neg q, if_neg (by omega)]
          · rw [if_neg zd, if_neg zd]
            have e : hn + j - p = j - (p - hn) := by omega
            rw [e]
            by_cases q : p - hn ≤ j ∧ (j - (p - hn)) % d = 0
            · rw [if_pos q, if_pos ⟨by omega, q.2⟩]
            · rw [if_neg q, if_neg (fun q2 => q ⟨by omega, q2.2⟩)]
        · rw [if_neg z3]
          by_cases zd : d = 0
          · rw [if_pos zd]
            unfold snum
            dsimp only
            rw [if_pos zd, if_neg (by omega)]
          · rw [if_neg zd]
            dsimp only
            rw [if_pos rfl]
            unfold snum
            dsimp only
            rw [if_neg zd, if_neg zd]
            have hd : (0 : Int) < (d : Int) := by omega
            have e1 := Int.emod_nonneg ((p : Int) - hn) (show (d : Int) ≠ 0 by omega)
            have e2 := Int.emod_lt_of_pos ((p : Int) - hn) hd
            have e3 := Int.emod_add_mul_ediv ((p : Int) - hn) (d : Int)
            generalize ((p : Int) - hn) % (d : Int) = r at *
            generalize ((p : Int) - hn) / (d : Int) = q at *
            have er : ((r.toNat : Nat) : Int) = r := Int.toNat_of_nonneg e1
            have key : (r.toNat ≤ j ∧ (j - r.toNat) % d = 0) ↔ (p ≤ hn + j ∧ (hn + j - p) % d = 0) := by
              have c1 : (hn + j - p) % d = 0 ↔ (d : Int) ∣ ((hn : Int) + j - p) := by
                rw [← Nat.dvd_iff_mod_eq_zero, ← Int.natCast_dvd_natCast]
                have : ((hn + j - p : Nat) : Int) = (hn : Int) + j - p := by omega
                rw [this]
              have c3 : (d : Int) ∣ ((hn : Int) + j - p) ↔ (d : Int) ∣ ((j : Int) - r) := by
                have : (hn : Int) + j - p = ((j : Int) - r) - d * q := by omega
                rw [this]
                constructor
                · intro h
                  have := Int.dvd_add h (Int.dvd_mul_right (d : Int) q)
                  simpa using this
                · intro h
                  exact Int.dvd_sub h (Int.dvd_mul_right (d : Int) q)
              rw [c1, c3]
              constructor
              · rintro ⟨g1, g2⟩
                refine ⟨by omega, ?_⟩
                have : ((j - r.toNat : Nat) : Int) = (j : Int) - r := by omega
                rw [← this, Int.natCast_dvd_natCast]
                exact Nat.dvd_of_mod_eq_zero g2
              · rintro ⟨g1, g2⟩
                by_cases g3 : r.toNat ≤ j
                · refine ⟨g3, ?_⟩
                  have : ((j - r.toNat : Nat) : Int) = (j : Int) - r := by omega
                  rw [← this, Int.natCast_dvd_natCast] at g2
                  exact Nat.mod_eq_zero_of_dvd g2
                · exfalso
                  obtain ⟨c, hc⟩ := g2
                  have h1 : (j : Int) - r < 0 := by omega
                  have h2 : -(d : Int) < (j : Int) - r := by omega
                  have h3 : c < 0 := by
                    by_cases g : c < 0
                    · exact g
                    · have := Int.mul_nonneg (Int.le_of_lt hd) (show 0 ≤ c by omega)
                      omega
                  have h4 : (d : Int) * c ≤ (d : Int) * (-1) := Int.mul_le_mul_of_nonneg_left (by omega) (Int.le_of_lt hd)
                  omega
            by_cases g : r.toNat ≤ j ∧ (j - r.toNat) % d = 0
            · rw [if_pos g, if_pos (key.mp g)]
            · rw [if_neg g, if_neg (fun g2 => g (key.mpr g2))]
      · rw [if_neg zi]
        dsimp only
        rw [if_neg (show ¬ k = hk + i by omega)]
        split
        · rename_i s' e
          split at e
          · cases e
            rw [if_neg (by dsimp only; omega)]
          · split at e
            · cases e
            · cases e
              rw [if_neg (by dsimp only; omega)]
        · rfl
    · rw [if_neg z2]
      dsimp only
      by_cases zi : i = 0
      · subst zi
        rw [if_pos rfl, if_neg z2]
      · rw [if_neg zi, if_neg (show ¬ k = hk + i by omega)]
theorem cnt_acc (L : List Sd) (k n : Nat) : ∀ t : Int, sumS (L.filter fun s => s.1 = k) n t = L.foldl (fun t s => plusN t (if s.1 = k then snum s n else 0)) t := by
  induction L with
  | nil => intro t; rfl
  | cons s L ih =>
    intro t
    by_cases z : s.1 = k
    · rw [List.filter_cons_of_pos (by simpa using z)]
      show sumS _ n (plusN t (snum s n)) = _
      rw [ih, List.foldl_cons, if_pos z]
    · rw [List.filter_cons_of_neg (by simpa using z), ih, List.foldl_cons, if_neg z, plus_zero]
theorem cnt_up (h o : He) (L : List Sd) : cnt (L.filterMap (rs h)) o.1 o.2 = cnt L (sumH h o).1 (sumH h o).2 := by
  unfold cnt
  rw [cnt_acc, cnt_acc]
  suffices q : ∀ t : Int, (L.filterMap (rs h)).foldl (fun t s => plusN t (if s.1 = o.1 then snum s o.2 else 0)) t = L.foldl (fun t s => plusN t (if s.1 = (sumH h o).1 then snum s (sumH h o).2 else 0)) t from q 0
  induction L with
  | nil => intro t; rfl
  | cons s L ih =>
    intro t
    have key := rs_snum (h := h) (o := o) (s := s)
    cases e : rs h s with
    | none =>
      rw [e] at key
      dsimp only at key
      rw [List.filterMap_cons_none e, List.foldl_cons, ← key, plus_zero]
      exact ih t
    | some s' =>
      rw [e] at key
      dsimp only at key
      rw [List.filterMap_cons_some e, List.foldl_cons, List.foldl_cons, ← key]
      exact ih _
end Ft
set_option Elab.async false
set_option linter.all false
set_option maxRecDepth 100000
set_option maxHeartbeats 4000000
/-! PLAIN: nodes at a height, upper parts of upper parts, sizes. -/
namespace Ft
theorem le_sum (h o : He) : leH h (sumH h o) := by
  unfold leH sumH
  split <;> dsimp only <;> omega
theorem times_zero (x : Int) : timesN x 0 = 0 := by unfold timesN; rw [if_pos (.inr rfl)]
def lineN (x : He) (a d : Nat) (h : He) : Int := if x.1 ≠ h.1 ∨ h.2 < x.2 then 0 else if 0 < d then -1 else if h.2 ≤ x.2 + a then 1 else 0
def nod (h : He) : Fo → Int → Int
  | .nil, t => t
  | .cons a d m i r, t => nod h r (plusN t (timesN m (plusN (lineN (topF i) a d h) (timesN (if 0 < d then -1 else 1) (nod h i 0)))))
theorem line_top {x h : He} {a d : Nat} (ho : leH (over x a d) h) : lineN x a d h = 0 := by
  unfold lineN
  unfold over leH at ho
  by_cases z : x.1 ≠ h.1 ∨ h.2 < x.2
  · rw [if_pos z]
  · rw [if_neg z]
    by_cases zd : 0 < d
    · rw [if_pos zd] at ho
      dsimp only at ho
      omega
    · rw [if_neg zd] at ho ⊢
      dsimp only at ho
      rw [if_neg (by omega)]
theorem nod_top {h : He} : ∀ (f : Fo) (t : Int), leH (topF f) h → nod h f t = t
  | .nil, t, _ => rfl
  | .cons a d m i r, t, hf => by
    have h1 : leH (over (topF i) a d) h := leH_trans (le_maxL _ _) hf
    have h2 : leH (topF r) h := leH_trans (le_maxR _ _) hf
    unfold nod
    rw [line_top h1, nod_top i 0 (leH_trans top_inner h1), times_zero, show plusN 0 0 = 0 from rfl, times_zero, plus_zero, nod_top r t h2]
theorem line_rest {h o x : He} {a d : Nat} (hx : leH h x) : lineN (restH h x) a d o = lineN x a d (sumH h o) := by
  obtain ⟨i, j⟩ := o
  obtain ⟨hk, hn⟩ := h
  obtain ⟨k, n⟩ := x
  unfold leH at hx
  unfold lineN restH sumH
  dsimp only at hx ⊢
  by_cases z : hk < k
  · rw [if_pos z]
    by_cases zi : i = 0
    · rw [if_pos zi]
      dsimp only
      (repeat' split) <;> first | rfl | omega
    · rw [if_neg zi]
      dsimp only
      (repeat' split) <;> first | rfl | omega
  · rw [if_neg z]
    by_cases zi : i = 0
    · rw [if_pos zi]
      dsimp only
      (repeat' split) <;> first | rfl | omega
    · rw [if_neg zi]
      dsimp only
      (repeat' split) <;> first | rfl | omega
theorem line_leaf {h o x : He} {a d : Nat} {m : Int} {s : Sd} (hx : ¬ leH h x) (e : rs h (x.1, x.2 + a, d, m) = some s) : lineN (0, 0) s.2.1 d o = lineN x a d (sumH h o) := by
  obtain ⟨i, j⟩ := o
  obtain ⟨hk, hn⟩ := h
  obtain ⟨k, n⟩ := x
  have hx' := not_leH.mp hx
  unfold ltH at hx'
  unfold rs at e
  dsimp only at e hx'
  rw [if_neg (by omega)] at e
  split at e
  · rename_i z
    have key : ∀ p : Nat, (d = 0 → p = n + a - hn ∧ hn ≤ n + a) → lineN (0, 0) p d (i, j) = lineN (k, n) a d (sumH (hk, hn) (i, j)) := fun p hp => by
      unfold lineN sumH
      dsimp only
      by_cases zi : i = 0
      · subst zi
        rw [if_pos rfl]
        dsimp only
        by_cases zd : d = 0
        · obtain ⟨h1, h2⟩ := hp zd
          (repeat' split) <;> first | rfl | omega
        · (repeat' split) <;> first | rfl | omega
      · rw [if_neg zi]
        dsimp only
        (repeat' split) <;> first | rfl | omega
    split at e
    · rename_i z2
      cases e
      exact key _ fun _ => ⟨rfl, z2⟩
    · split at e
      · cases e
      · rename_i zd
        cases e
        exact key _ fun q => (zd q).elim
  · cases e
theorem nod_up {h o : He} : ∀ (f : Fo) (t : Int), nod o (upF h f) t = nod (sumH h o) f t
  | .nil, t => rfl
  | .cons a d m i r, t => by
    show _ = nod (sumH h o) r (plusN t (timesN m (plusN (lineN (topF i) a d (sumH h o)) (timesN (if 0 < d then -1 else 1) (nod (sumH h o) i 0)))))
    unfold upF
    by_cases z : leH h (topF i)
    · rw [if_pos z]
      show nod o (upF h r) (plusN t (timesN m (plusN (lineN (topF (upF h i)) a d o) (timesN (if 0 < d then -1 else 1) (nod o (upF h i) 0))))) = _
      rw [nod_up r, nod_up i, upF_topE z, line_rest z]
    · rw [if_neg z]
      have zl := leH_trans (ltH_le (not_leH.mp z)) (le_sum h o)
      rw [nod_top i 0 zl, times_zero, plus_zero]
      cases e : rs h ((topF i).1, (topF i).2 + a, d, m) with
      | none =>
        rw [line_top (leH_trans (rs_fallen z e) (le_sum h o)), times_zero, plus_zero]
        exact nod_up r t
      | some s =>
        show nod o (upF h r) (plusN t (timesN m (plusN (lineN (0, 0) s.2.1 d o) (timesN (if 0 < d then -1 else 1) 0)))) = _
        rw [times_zero, plus_zero, line_leaf z e, nod_up r]
/-! upper parts of upper parts -/
theorem sum_zero (h : He) : sumH h (0, 0) = h := rfl
theorem rest_le {h o x : He} (hx : leH h x) : leH o (restH h x) ↔ leH (sumH h o) x := by
  unfold leH at *
  unfold restH sumH
  split <;> split <;> dsimp only <;> omega
theorem emod_sub (x : Int) (d p : Nat) (hd : 0 < d) : ((x % (d : Int)) - p) % (d : Int) = (x - p) % (d : Int) := by
  have e := Int.emod_add_mul_ediv x (d : Int)
  have : x - p = (x % (d : Int) - p) + (d : Int) * (x / (d : Int)) := by omega
  rw [this, Int.add_mul_emod_self_left]
theorem rs_rs (h o : He) (s : Sd) : (rs h s).bind (rs o) = rs (sumH h o) s := by
  obtain ⟨k, p, d, m⟩ := s
  obtain ⟨i, j⟩ := o
  obtain ⟨hk, hn⟩ := h
  by_cases z : hk < k
  · have e : rs (hk, hn) (k, p, d, m) = some (k - hk, p, d, m) := by unfold rs; dsimp only; rw [if_pos z]
    rw [e]
    show rs (i, j) (k - hk, p, d, m) = _
    unfold rs sumH
    dsimp only
    by_cases zi : i = 0
    · subst zi
      rw [if_pos rfl]
      dsimp only
      rw [if_pos (by omega), if_pos z]
      rfl
    · rw [if_neg zi]
      dsimp only
      by_cases q : i < k - hk
      · rw [if_pos q, if_pos (by omega)]
        have e : k - hk - i = k - (hk + i) := by omega
        rw [e]
      · rw [if_neg q, if_neg (show ¬ hk + i < k by omega)]
        by_cases q2 : k - hk = i
        · rw [if_pos q2, if_pos (show k = hk + i by omega)]
        · rw [if_neg q2, if_neg (show ¬ k = hk + i by omega)]
  · by_cases z2 : k = hk
    · subst z2
      by_cases z3 : hn ≤ p
      · have e : rs (k, hn) (k, p, d, m) = some (0, p - hn, d, m) := by unfold rs; dsimp only; rw [if_neg z, if_pos rfl, if_pos z3]
        rw [e]
        show rs (i, j) (0, p - hn, d, m) = _
        unfold rs sumH
        dsimp only
        rw [if_neg (by omega)]
        by_cases zi : i = 0
        · subst zi
          rw [if_pos rfl, if_pos rfl]
          dsimp only
          rw [if_neg z, if_pos rfl]
          by_cases q : j ≤ p - hn
          · rw [if_pos q, if_pos (by omega)]
            have e : p - hn - j = p - (hn + j) := by omega
            rw [e]
          · rw [if_neg q, if_neg (show ¬ hn + j ≤ p by omega)]
            by_cases zd : d = 0
            · rw [if_pos zd, if_pos zd]
            · rw [if_neg zd, if_neg zd]
              have e : (((p - hn : Nat) : Int) - (j : Int)) = (p : Int) - ((hn + j : Nat) : Int) := by omega
              rw [e]
        · rw [if_neg (fun q => zi q.symm), if_neg zi]
          dsimp only
          rw [if_neg (by omega), if_neg (by omega)]
      · by_cases zd : d = 0
        · have e : rs (k, hn) (k, p, d, m) = none := by unfold rs; dsimp only; rw [if_neg z, if_pos rfl, if_neg z3, if_pos zd]
          rw [e]
          show none = _
          unfold rs sumH
          dsimp only
          by_cases zi : i = 0
          · subst zi
            rw [if_pos rfl]
            dsimp only
            rw [if_neg z, if_pos rfl, if_neg (by omega), if_pos zd]
          · rw [if_neg zi]
            dsimp only
            rw [if_neg (by omega), if_neg (by omega)]
        · have hd : 0 < d := by omega
          have e : rs (k, hn) (k, p, d, m) = some (0, (((p : Int) - hn) % (d : Int)).toNat, d, m) := by unfold rs; dsimp only; rw [if_neg z, if_pos rfl, if_neg z3, if_neg zd]
          rw [e]
          show rs (i, j) (0, (((p : Int) - hn) % (d : Int)).toNat, d, m) = _
          unfold rs sumH
          dsimp only
          rw [if_neg (by omega)]
          by_cases zi : i = 0
          · subst zi
            rw [if_pos rfl, if_pos rfl]
            dsimp only
            rw [if_neg z, if_pos rfl, if_neg (show ¬ hn + j ≤ p by omega), if_neg zd, if_neg zd]
            have e1 := Int.emod_nonneg ((p : Int) - hn) (show (d : Int) ≠ 0 by omega)
            have e2 := Int.emod_lt_of_pos ((p : Int) - hn) (show (0 : Int) < (d : Int) by omega)
            have e3 : (p : Int) - ((hn + j : Nat) : Int) = ((p : Int) - hn) - (j : Int) := by omega
            rw [e3, ← emod_sub ((p : Int) - hn) d j hd]
            generalize ((p : Int) - hn) % (d : Int) = r at *
            have er : ((r.toNat : Nat) : Int) = r := Int.toNat_of_nonneg e1
            rw [er]
            by_cases q : j ≤ r.toNat
            · rw [if_pos q, Int.emod_eq_of_lt (by omega) (by omega)]
              have e4 : r.toNat - j = (r - (j : Int)).toNat := by omega
              rw [e4]
            · rw [if_neg q]
          · rw [if_neg (fun q => zi q.symm), if_neg zi]
            dsimp only
            rw [if_neg (by omega), if_neg (by omega)]
    · have e : rs (hk, hn) (k, p, d, m) = none := by unfold rs; dsimp only; rw [if_neg z, if_neg z2]
      rw [e]
      show none = _
      unfold rs sumH
      dsimp only
      by_cases zi : i = 0
      · subst zi
        rw [if_pos rfl]
        dsimp only
        rw [if_neg z, if_neg z2]
      · rw [if_neg zi]
        dsimp only
        rw [if_neg (by omega), if_neg (by omega)]
theorem upF_cons (h : He) (a d : Nat) (m : Int) (i r : Fo) : upF h (.cons a d m i r) = if leH h (topF i) then .cons a d m (upF h i) (upF h r)
    else match rs h ((topF i).1, (topF i).2 + a, d, m) with
      | some s => .cons s.2.1 d m .nil (upF h r)
      | none => upF h r := rfl
theorem upF_zero : ∀ f : Fo, upF (0, 0) f = f
  | .nil => rfl
  | .cons a d m i r => by
    unfold upF
    rw [if_pos (by unfold leH; dsimp only; omega), upF_zero i, upF_zero r]
theorem upF_self (f : Fo) : upF (topF f) f = .nil := upF_nil f (by unfold leH; omega)
theorem upF_upF {h o : He} : ∀ f : Fo, upF o (upF h f) = upF (sumH h o) f
  | .nil => rfl
  | .cons a d m i r => by
    have rr := rs_rs h o ((topF i).1, (topF i).2 + a, d, m)
    rw [upF_cons h, upF_cons (sumH h o)]
    by_cases z : leH h (topF i)
    · rw [if_pos z]
      rw [rs_high z] at rr
      have rr' : rs o ((restH h (topF i)).1, (restH h (topF i)).2 + a, d, m) = rs (sumH h o) ((topF i).1, (topF i).2 + a, d, m) := rr
      show (if leH o (topF (upF h i)) then Fo.cons a d m (upF o (upF h i)) (upF o (upF h r)) else match rs o ((topF (upF h i)).1, (topF (upF h i)).2 + a, d, m) with
        | some s => .cons s.2.1 d m .nil (upF o (upF h r))
        | none => upF o (upF h r)) = _
      rw [upF_topE z, upF_upF i, upF_upF r, rr']
      by_cases q : leH o (restH h (topF i))
      · rw [if_pos q, if_pos ((rest_le z).mp q)]
      · rw [if_neg q, if_neg fun g => q ((rest_le z).mpr g)]
    · rw [if_neg z]
      have zs : ¬ leH (sumH h o) (topF i) := fun q => z (leH_trans (le_sum h o) q)
      rw [if_neg zs]
      cases e : rs h ((topF i).1, (topF i).2 + a, d, m) with
      | none =>
        rw [e] at rr
        have rr' : none = rs (sumH h o) ((topF i).1, (topF i).2 + a, d, m) := rr
        rw [← rr']
        exact upF_upF r
      | some s =>
        rw [e] at rr
        have rr' : rs o s = rs (sumH h o) ((topF i).1, (topF i).2 + a, d, m) := rr
        rw [← rr']
        obtain ⟨k1, k2, k3, k4⟩ := rs_kept z e
        obtain ⟨s1, s2, s3, s4⟩ := s
        dsimp only at k2 k3
        cases k3
        subst k2
        show (if leH o (0, 0) then Fo.cons s2 d m (upF o .nil) (upF o (upF h r)) else match rs o (0, 0 + s2, d, m) with
          | some s => .cons s.2.1 d m .nil (upF o (upF h r))
          | none => upF o (upF h r)) = _
        rw [upF_upF r, Nat.zero_add]
        by_cases q : leH o (0, 0)
        · rw [if_pos q]
          have eo : o = (0, 0) := by
            unfold leH at q
            exact Prod.ext (by dsimp only at q; omega) (by dsimp only at q; omega)
          subst eo
          have e5 : rs (0, 0) (0, s2, d, m) = some (0, s2, d, m) := by
            unfold rs; dsimp only
            rw [if_neg (by omega), if_pos rfl, if_pos (Nat.zero_le _)]
            rfl
          rw [e5]
          rfl
        · rw [if_neg q]
end Ft
set_option Elab.async false
set_option linter.all false
set_option maxRecDepth 100000
set_option maxHeartbeats 4000000
/-! PLAIN: sizes of finite forests; bounds. -/
namespace Ft
def fin : Fo → Bool
  | .nil => true
  | .cons a d m i r => decide (d = 0) && (decide (m ≠ -1) && (fin i && fin r))
def pos : Fo → Bool
  | .nil => true
  | .cons a d m i r => (decide (m = -1) || decide (1 ≤ m)) && (pos i && pos r)
def szF : Fo → Int
  | .nil => 0
  | .cons a d m i r => m * (a + 1 + szF i) + szF r
def nz : Fo → Nat → Int
  | .nil, _ => 0
  | .cons a d m i r, n => m * ((if (topF i).2 ≤ n ∧ n ≤ (topF i).2 + a then 1 else 0) + nz i n) + nz r n
def sumTo : Nat → (Nat → Int) → Int
  | 0, _ => 0
  | c + 1, g => sumTo c g + g c
theorem fin_cons {a d : Nat} {m : Int} {i r : Fo} (h : fin (.cons a d m i r) = true) : d = 0 ∧ m ≠ -1 ∧ fin i = true ∧ fin r = true := by
  unfold fin at h
  simp only [Bool.and_eq_true, decide_eq_true_eq] at h
  exact h
theorem pos_cons {a d : Nat} {m : Int} {i r : Fo} (h : pos (.cons a d m i r) = true) : (m = -1 ∨ 1 ≤ m) ∧ pos i = true ∧ pos r = true := by
  unfold pos at h
  simp only [Bool.and_eq_true, Bool.or_eq_true, decide_eq_true_eq] at h
  exact h
theorem fin_top : ∀ f : Fo, fin f = true → (topF f).1 = 0
  | .nil, _ => rfl
  | .cons a d m i r, h => by
    obtain ⟨h1, h2, h3, h4⟩ := fin_cons h
    show (maxH (over (topF i) a d) (topF r)).1 = 0
    rcases max_or (over (topF i) a d) (topF r) with e | e
    · rw [e]
      unfold over
      rw [if_neg (by omega)]
      exact fin_top i h3
    · rw [e]; exact fin_top r h4
theorem nz_nonneg : ∀ (f : Fo) (n : Nat), fin f = true → pos f = true → 0 ≤ nz f n
  | .nil, _, _, _ => Int.le_refl _
  | .cons a d m i r, n, h, hp => by
    obtain ⟨h1, h2, h3, h4⟩ := fin_cons h
    obtain ⟨p1, p2, p3⟩ := pos_cons hp
    have q1 := nz_nonneg i n h3 p2
    have q2 := nz_nonneg r n h4 p3
    unfold nz
    have : 0 ≤ m * ((if (topF i).2 ≤ n ∧ n ≤ (topF i).2 + a then 1 else 0) + nz i n) := Int.mul_nonneg (by omega) (by split <;> omega)
    omega
theorem nod_fin {n : Nat} : ∀ (f : Fo) (t : Int), fin f = true → pos f = true → 0 ≤ t → nod (0, n) f t = t + nz f n
  | .nil, t, _, _, _ => by unfold nod nz; omega
  | .cons a d m i r, t, h, hp, ht => by
    obtain ⟨h1, h2, h3, h4⟩ := fin_cons h
    obtain ⟨p1, p2, p3⟩ := pos_cons hp
    have q1 := nz_nonneg i n h3 p2
    have e0 := fin_top i h3
    subst h1
    unfold nod nz
    rw [nod_fin i 0 h3 p2 (Int.le_refl _), if_neg (by omega)]
    have e1 : timesN 1 (0 + nz i n) = nz i n := by
      unfold timesN
      rw [Int.zero_add]
      split
      · omega
      · rw [if_neg (by omega)]; omega
    have e2 : lineN (topF i) a 0 (0, n) = if (topF i).2 ≤ n ∧ n ≤ (topF i).2 + a then 1 else 0 := by
      unfold lineN
      dsimp only
      rw [e0]
      (repeat' split) <;> omega
    rw [e1, e2]
    generalize hx : (if (topF i).2 ≤ n ∧ n ≤ (topF i).2 + a then (1 : Int) else 0) = x
    have hx0 : 0 ≤ x := by rw [← hx]; split <;> omega
    have e3 : plusN x (nz i n) = x + nz i n := by unfold plusN; rw [if_neg (by omega)]
    rw [e3]
    have e4 : timesN m (x + nz i n) = m * (x + nz i n) := by
      unfold timesN
      split
      · rename_i z
        rcases z with z | z
        · rw [z, Int.zero_mul]
        · rw [z, Int.mul_zero]
      · rw [if_neg (by omega)]
    have hm : 0 ≤ m * (x + nz i n) := Int.mul_nonneg (by omega) (by omega)
    have e5 : plusN t (m * (x + nz i n)) = t + m * (x + nz i n) := by unfold plusN; rw [if_neg (by omega)]
    rw [e4, e5, nod_fin r _ h4 p3 (by omega)]
    omega
theorem sumTo_lin (m : Int) (g1 g2 g3 : Nat → Int) : ∀ c, sumTo c (fun n => m * (g1 n + g2 n) + g3 n) = m * (sumTo c g1 + sumTo c g2) + sumTo c g3
  | 0 => by unfold sumTo; simp
  | c + 1 => by
    unfold sumTo
    rw [sumTo_lin m g1 g2 g3 c]
    have : sumTo c g1 + g1 c + (sumTo c g2 + g2 c) = (sumTo c g1 + sumTo c g2) + (g1 c + g2 c) := by omega
    rw [this, Int.mul_add m (sumTo c g1 + sumTo c g2)]
    dsimp only
    omega
theorem sumTo_line (x a : Nat) : ∀ c : Nat, sumTo c (fun n => if x ≤ n ∧ n ≤ x + a then 1 else 0) = ((min c (x + a + 1) : Nat) : Int) - ((min c x : Nat) : Int)
  | 0 => by unfold sumTo; simp
  | c + 1 => by
    unfold sumTo
    rw [sumTo_line x a c]
    dsimp only
    split <;> omega
theorem size_sum {c : Nat} : ∀ f : Fo, fin f = true → pos f = true → szF (upF (0, c) f) + sumTo c (nz f) = szF f
  | .nil, _, _ => by
    have : ∀ c, sumTo c (nz .nil) = 0 := fun c => by
      induction c with
      | zero => rfl
      | succ c ih => unfold sumTo; rw [ih]; rfl
    rw [this]; rfl
  | .cons a d m i r, h, hp => by
    obtain ⟨h1, h2, h3, h4⟩ := fin_cons h
    obtain ⟨p1, p2, p3⟩ := pos_cons hp
    have ir := size_sum (c := c) r h4 p3
    have ii := size_sum (c := c) i h3 p2
    have e0 := fin_top i h3
    subst h1
    have eS : sumTo c (nz (.cons a 0 m i r)) = m * ((((min c ((topF i).2 + a + 1) : Nat) : Int) - ((min c (topF i).2 : Nat) : Int)) + sumTo c (nz i)) + sumTo c (nz r) := by
      rw [← sumTo_line]
      exact sumTo_lin m _ _ _ c
    rw [eS, upF_cons]
    by_cases z : leH (0, c) (topF i)
    · rw [if_pos z]
      have zc : c ≤ (topF i).2 := by unfold leH at z; dsimp only at z; omega
      show m * (a + 1 + szF (upF (0, c) i)) + szF (upF (0, c) r) + _ = m * (a + 1 + szF i) + szF r
      have e1 : ((min c ((topF i).2 + a + 1) : Nat) : Int) - ((min c (topF i).2 : Nat) : Int) = 0 := by omega
      rw [e1, Int.zero_add, ← ir, ← ii, show (a : Int) + 1 + (szF (upF (0, c) i) + sumTo c (nz i)) = (a + 1 + szF (upF (0, c) i)) + sumTo c (nz i) by omega, Int.mul_add m (a + 1 + szF (upF (0, c) i))]
      omega
    · rw [if_neg z]
      have zc : (topF i).2 < c := by
        have := not_leH.mp z
        unfold ltH at this; dsimp only at this; omega
      rw [upF_nil i (ltH_le (not_leH.mp z))] at ii
      have ei : sumTo c (nz i) = szF i := by
        have : szF .nil = 0 := rfl
        omega
      have hs : rs (0, c) ((topF i).1, (topF i).2 + a, 0, m) = if c ≤ (topF i).2 + a then some (0, (topF i).2 + a - c, 0, m) else none := by
        unfold rs
        dsimp only
        rw [e0, if_neg (by omega), if_pos rfl]
        split
        · rfl
        · rw [if_pos rfl]
      rw [hs, ei]
      by_cases q : c ≤ (topF i).2 + a
      · rw [if_pos q]
        show m * ((((topF i).2 + a - c : Nat) : Int) + 1 + 0) + szF (upF (0, c) r) + _ = m * (a + 1 + szF i) + szF r
        have e1 : ((min c ((topF i).2 + a + 1) : Nat) : Int) - ((min c (topF i).2 : Nat) : Int) = (c : Int) - (topF i).2 := by omega
        have e2 : (a : Int) + 1 + szF i = ((((topF i).2 + a - c : Nat) : Int) + 1 + 0) + ((c : Int) - (topF i).2 + szF i) := by omega
        rw [e1, e2, Int.mul_add m ((((topF i).2 + a - c : Nat) : Int) + 1 + 0), ← ir]
        omega
      · rw [if_neg q]
        dsimp only
        have e1 : ((min c ((topF i).2 + a + 1) : Nat) : Int) - ((min c (topF i).2 : Nat) : Int) = (a : Int) + 1 := by omega
        show szF (upF (0, c) r) + _ = m * (a + 1 + szF i) + szF r
        rw [e1, ← ir]
        omega
theorem fin_up {h : He} : ∀ f : Fo, fin f = true → fin (upF h f) = true
  | .nil, _ => rfl
  | .cons a d m i r, hf => by
    obtain ⟨h1, h2, h3, h4⟩ := fin_cons hf
    rw [upF_cons]
    split
    · unfold fin
      simp [h1, h2, fin_up i h3, fin_up r h4]
    · split
      · unfold fin
        simp [h1, h2, fin_up r h4]
        rfl
      · exact fin_up r h4
theorem pos_up {h : He} : ∀ f : Fo, pos f = true → pos (upF h f) = true
  | .nil, _ => rfl
  | .cons a d m i r, hf => by
    obtain ⟨h1, h3, h4⟩ := pos_cons hf
    rw [upF_cons]
    split
    · unfold pos
      simp [h1, pos_up i h3, pos_up r h4]
    · split
      · unfold pos
        simp [h1, pos_up r h4]
        rfl
      · exact pos_up r h4
theorem nz_top {n : Nat} : ∀ f : Fo, fin f = true → (topF f).2 ≤ n → nz f n = 0
  | .nil, _, _ => rfl
  | .cons a d m i r, h, hn => by
    obtain ⟨h1, h2, h3, h4⟩ := fin_cons h
    have e0 := fin_top i h3
    have e1 := fin_top r h4
    have ef := fin_top _ h
    have q1 : leH (over (topF i) a d) (topF (.cons a d m i r)) := le_maxL _ _
    have q2 : leH (topF r) (topF (.cons a d m i r)) := le_maxR _ _
    unfold over leH at q1
    unfold leH at q2
    rw [if_neg (by omega)] at q1
    dsimp only at q1
    unfold nz
    rw [nz_top i h3 (by omega), nz_top r h4 (by omega), if_neg (by omega)]
    simp
theorem sumTo_more {g : Nat → Int} {b : Nat} (hg : ∀ n, b ≤ n → g n = 0) : ∀ c : Nat, b ≤ c → sumTo c g = sumTo b g
  | 0, h => by
    have : b = 0 := by omega
    rw [this]
  | c + 1, h => by
    by_cases z : b = c + 1
    · rw [z]
    · unfold sumTo
      rw [hg c (by omega), sumTo_more hg c (by omega)]
      cases b with
      | zero => simp [sumTo]
      | succ b => show _ = sumTo b g + g b; rw [show sumTo (b + 1) g = sumTo b g + g b from rfl]; omega
end Ft
set_option Elab.async false
set_option linter.all false
set_option maxRecDepth 100000
set_option maxHeartbeats 4000000
/-! PLAIN: the table of strands. -/
namespace Ft
open Rd
def startS (L : List Sd) : Nat := L.foldl (fun t s => max t (s.2.1 + 1)) 0
def perS (L : List Sd) : Nat := L.foldl (fun p s => if 0 < s.2.2.1 then Nat.lcm p s.2.2.1 else p) 1
def rowS (L : List Sd) : List Int := (List.range (startS L + perS L)).map fun n => sumS L n 0
def blkS (L : List Sd) : Blk := ((rowS L).take (startS L), (rowS L).drop (startS L))
theorem start_ge {L : List Sd} : ∀ (t : Nat), t ≤ L.foldl (fun t s => max t (s.2.1 + 1)) t ∧ ∀ s ∈ L, s.2.1 + 1 ≤ L.foldl (fun t s => max t (s.2.1 + 1)) t := by
  induction L with
  | nil => intro t; exact ⟨Nat.le_refl _, fun s h => by cases h⟩
  | cons x L ih =>
    intro t
    obtain ⟨i1, i2⟩ := ih (max t (x.2.1 + 1))
    rw [List.foldl_cons]
    refine ⟨by omega, fun s h => ?_⟩
    rcases List.mem_cons.mp h with e | h
    · subst e; omega
    · exact i2 s h
theorem start_le {L : List Sd} {b : Nat} (h : ∀ s ∈ L, s.2.1 + 1 ≤ b) : ∀ t, t ≤ b → L.foldl (fun t s => max t (s.2.1 + 1)) t ≤ b := by
  induction L with
  | nil => intro t ht; exact ht
  | cons x L ih =>
    intro t ht
    rw [List.foldl_cons]
    have := h x List.mem_cons_self
    exact ih (fun s hs => h s (List.mem_cons_of_mem _ hs)) _ (by omega)
theorem per_dvd {L : List Sd} : ∀ p : Nat, p ∣ L.foldl (fun p s => if 0 < s.2.2.1 then Nat.lcm p s.2.2.1 else p) p ∧ ∀ s ∈ L, 0 < s.2.2.1 → s.2.2.1 ∣ L.foldl (fun p s => if 0 < s.2.2.1 then Nat.lcm p s.2.2.1 else p) p := by
  induction L with
  | nil => intro p; exact ⟨Nat.dvd_refl _, fun s h => by cases h⟩
  | cons x L ih =>
    intro p
    rw [List.foldl_cons]
    obtain ⟨i1, i2⟩ := ih (if 0 < x.2.2.1 then Nat.lcm p x.2.2.1 else p)
    refine ⟨?_, fun s h hd => ?_⟩
    · refine Nat.dvd_trans ?_ i1
      split
      · exact Nat.dvd_lcm_left _ _
      · exact Nat.dvd_refl _
    · rcases List.mem_cons.mp h with e | h
      · subst e
        rw [if_pos hd] at i1 ⊢
        exact Nat.dvd_trans (Nat.dvd_lcm_right _ _) i1
      · exact i2 s h hd
theorem per_of {L : List Sd} {q : Nat} (h : ∀ s ∈ L, s.2.2.1 = 0 ∨ s.2.2.1 ∣ q) : ∀ p : Nat, p ∣ q → L.foldl (fun p s => if 0 < s.2.2.1 then Nat.lcm p s.2.2.1 else p) p ∣ q := by
  induction L with
  | nil => intro p hp; exact hp
  | cons x L ih =>
    intro p hp
    rw [List.foldl_cons]
    refine ih (fun s hs => h s (List.mem_cons_of_mem _ hs)) _ ?_
    split
    · rename_i z
      rcases h x List.mem_cons_self with e | e
      · omega
      · exact Nat.lcm_dvd hp e
    · exact hp
theorem sumS_congr {L : List Sd} {n n' : Nat} (h : ∀ s ∈ L, snum s n = snum s n') : ∀ t, sumS L n t = sumS L n' t := by
  induction L with
  | nil => intro t; rfl
  | cons x L ih =>
    intro t
    show sumS L n (plusN t (snum x n)) = sumS L n' (plusN t (snum x n'))
    rw [h x List.mem_cons_self]
    exact ih (fun s hs => h s (List.mem_cons_of_mem _ hs)) _
theorem per_pos (L : List Sd) (hq : ∀ s ∈ L, s.2.2.1 = 0 ∨ s.2.2.1 ∣ 6) : 0 < perS L ∧ perS L ≤ 6 := by
  have h : perS L ∣ 6 := per_of hq 1 (Nat.one_dvd 6)
  exact ⟨Nat.pos_of_dvd_of_pos h (by decide), Nat.le_of_dvd (by decide) h⟩
theorem row_len (L : List Sd) : (rowS L).length = startS L + perS L := by simp [rowS]
theorem row_get (L : List Sd) (n : Nat) (h : n < startS L + perS L) : (rowS L)[n]? = some (sumS L n 0) := by
  unfold rowS
  rw [List.getElem?_map, List.getElem?_range h]; rfl
theorem blk_num (L : List Sd) (hq : ∀ s ∈ L, s.2.2.1 = 0 ∨ s.2.2.1 ∣ 6) (n : Nat) : num (blkS L) n = sumS L n 0 := by
  obtain ⟨hp, _⟩ := per_pos L hq
  have l1 : ((rowS L).take (startS L)).length = startS L := by rw [List.length_take, row_len]; omega
  have l2 : ((rowS L).drop (startS L)).length = perS L := by rw [List.length_drop, row_len]; omega
  unfold num blkS
  dsimp only
  rw [l1, l2]
  by_cases z : n < startS L
  · rw [if_pos z, List.getD_eq_getElem?_getD, List.getElem?_take_of_lt z, row_get L n (by omega)]; rfl
  · rw [if_neg z, List.getD_eq_getElem?_getD, List.getElem?_drop]
    have hm := Nat.mod_lt (n - startS L) hp
    have hd := Nat.div_add_mod (n - startS L) (perS L)
    rw [row_get L _ (by omega)]
    show sumS L (startS L + (n - startS L) % perS L) 0 = _
    refine sumS_congr (fun s hs => ?_) 0
    have hge : s.2.1 + 1 ≤ startS L := (start_ge 0).2 s hs
    unfold snum
    by_cases zd : s.2.2.1 = 0
    · rw [if_pos zd, if_pos zd, if_neg (by omega), if_neg (by omega)]
    · rw [if_neg zd, if_neg zd]
      have hdv : s.2.2.1 ∣ perS L := (per_dvd 1).2 s hs (by omega)
      obtain ⟨c, hc⟩ := hdv
      have e : n - s.2.1 = (startS L + (n - startS L) % perS L - s.2.1) + s.2.2.1 * (c * ((n - startS L) / perS L)) := by
        rw [← Nat.mul_assoc, ← hc]
        generalize perS L * ((n - startS L) / perS L) = q at *
        omega
      rw [e, Nat.add_mul_mod_self_left]
      by_cases g : (startS L + (n - startS L) % perS L - s.2.1) % s.2.2.1 = 0
      · rw [if_pos ⟨by omega, g⟩, if_pos ⟨by omega, g⟩]
      · rw [if_neg fun q => g q.2, if_neg fun q => g q.2]
/-- a strand that the functions take -/
def SdOk (s : Sd) : Prop := s.1 ≤ 20 ∧ s.2.1 ≤ 500 ∧ (s.2.2.1 = 0 ∨ s.2.2.1 ∣ 6) ∧ -1 ≤ s.2.2.2
theorem plus_ge {x y : Int} (hx : -1 ≤ x) (hy : -1 ≤ y) : -1 ≤ plusN x y := by
  unfold plusN
  split
  · exact Int.le_refl _
  · omega
theorem snum_ge {s : Sd} (h : -1 ≤ s.2.2.2) (n : Nat) : -1 ≤ snum s n := by
  unfold snum
  (repeat' split) <;> omega
theorem sum_ge {L : List Sd} (h : ∀ s ∈ L, -1 ≤ s.2.2.2) (n : Nat) : ∀ t, -1 ≤ t → -1 ≤ sumS L n t := by
  induction L with
  | nil => intro t ht; exact ht
  | cons x L ih =>
    intro t ht
    exact ih (fun s hs => h s (List.mem_cons_of_mem _ hs)) _ (plus_ge ht (snum_ge (h x List.mem_cons_self) n))
theorem blk_fit (L : List Sd) (h : ∀ s ∈ L, SdOk s) : Fit (blkS L) := by
  obtain ⟨hp, hp6⟩ := per_pos L fun s hs => (h s hs).2.2.1
  have hs : startS L ≤ 501 := start_le (fun s hs => by have := (h s hs).2.1; omega) 0 (by omega)
  have hr : ∀ x ∈ rowS L, -1 ≤ x := fun x hx => by
    obtain ⟨n, _, rfl⟩ := List.mem_map.mp hx
    exact sum_ge (fun s hs => (h s hs).2.2.2) n 0 (by omega)
  refine ⟨fun z => ?_, ?_, ?_, fun x hx => hr x (List.mem_of_mem_take hx), fun x hx => hr x (List.mem_of_mem_drop hx)⟩
  · have := congrArg List.length z
    unfold blkS at this
    dsimp only at this
    rw [List.length_drop, row_len, List.length_nil] at this
    omega
  · unfold blkS; dsimp only; rw [List.length_take]; omega
  · unfold blkS; dsimp only; rw [List.length_drop, row_len]; omega
/-! all blocks -/
def kB (L : List Sd) : Nat := L.foldl (fun b s => max b (s.1 + 1)) 0
theorem kB_ge {L : List Sd} : ∀ (t : Nat), t ≤ L.foldl (fun b s => max b (s.1 + 1)) t ∧ ∀ s ∈ L, s.1 + 1 ≤ L.foldl (fun b s => max b (s.1 + 1)) t := by
  induction L with
  | nil => intro t; exact ⟨Nat.le_refl _, fun s h => by cases h⟩
  | cons x L ih =>
    intro t
    obtain ⟨i1, i2⟩ := ih (max t (x.1 + 1))
    rw [List.foldl_cons]
    refine ⟨by omega, fun s h => ?_⟩
    rcases List.mem_cons.mp h with e | h
    · subst e; omega
    · exact i2 s h
theorem kB_le {L : List Sd} {b : Nat} (h : ∀ s ∈ L, s.1 + 1 ≤ b) : ∀ t, t ≤ b → L.foldl (fun t s => max t (s.1 + 1)) t ≤ b := by
  induction L with
  | nil => intro t ht; exact ht
  | cons x L ih =>
    intro t ht
    rw [List.foldl_cons]
    have := h x List.mem_cons_self
    exact ih (fun s hs => h s (List.mem_cons_of_mem _ hs)) _ (by omega)
def rawS (L : List Sd) : Tab := (List.range (kB L)).map fun k => blkS (L.filter fun s => s.1 = k)
def tabS (L : List Sd) : Tab := tableIn (rawS L)
theorem raw_fit (L : List Sd) (h : ∀ s ∈ L, SdOk s) : ∀ b ∈ rawS L, Fit b := fun b hb => by
  obtain ⟨k, _, rfl⟩ := List.mem_map.mp hb
  exact blk_fit _ fun s hs => h s (List.mem_filter.mp hs).1
theorem raw_num (L : List Sd) (h : ∀ s ∈ L, SdOk s) (k n : Nat) : numT (rawS L) k n = cnt L k n := by
  unfold numT atB rawS
  rw [List.getD_eq_getElem?_getD, List.getElem?_map]
  by_cases z : k < kB L
  · rw [List.getElem?_range z]
    exact blk_num _ (fun s hs => (h s (List.mem_filter.mp hs).1).2.2.1) n
  · rw [List.getElem?_eq_none (by rw [List.length_range]; omega)]
    show num NOT n = _
    rw [num_not]
    unfold cnt
    have : (L.filter fun s => s.1 = k) = [] := List.filter_eq_nil_iff.mpr fun s hs => by
      have := (kB_ge 0).2 s hs
      have e : kB L = L.foldl (fun b s => max b (s.1 + 1)) 0 := rfl
      simp
      omega
    rw [this]; rfl
theorem tab_num (L : List Sd) (h : ∀ s ∈ L, SdOk s) (k n : Nat) : numT (tabS L) k n = cnt L k n := by
  unfold tabS
  rw [(table_ok fun b hb => (raw_fit L h b hb).1).2, raw_num L h]
theorem tab_can (L : List Sd) (h : ∀ s ∈ L, SdOk s) : CanT (tabS L) := (table_ok fun b hb => (raw_fit L h b hb).1).1
theorem tab_fit (L : List Sd) (h : ∀ s ∈ L, SdOk s) : ∀ b ∈ tabS L, Fit b := fit_table (raw_fit L h)
theorem tab_len (L : List Sd) (h : ∀ s ∈ L, SdOk s) : (tabS L).length ≤ 21 := by
  have h1 := table_len (rawS L)
  have h2 : (rawS L).length = kB L := by simp [rawS]
  have h3 : kB L ≤ 21 := kB_le (fun s hs => by have := (h s hs).1; omega) 0 (by omega)
  show (tableIn (rawS L)).length ≤ 21
  omega
/-- the table of the upper part is the tail of the table -/
theorem tab_up (L : List Sd) (hL : ∀ s ∈ L, SdOk s) (h : He) (hU : ∀ s ∈ L.filterMap (rs h), SdOk s) : tabS (L.filterMap (rs h)) = tailT (tabS L) h.1 h.2 := by
  have hf := tab_fit L hL
  refine canT_one (tab_can _ hU) ?_ fun i j => ?_
  · refine (table_ok fun b hb => ?_).1
    rcases List.mem_cons.mp hb with e | hb
    · rw [e]; exact (fit_block (fit_shift (fit_at hf h.1) h.2)).1
    · exact (hf b (List.mem_of_mem_drop hb)).1
  · rw [tab_num _ hU, tail_num (fun b hb => (hf b hb).1), tab_num L hL, tab_num L hL, show cnt (L.filterMap (rs h)) i j = _ from cnt_up h (i, j) L]
    unfold sumH
    dsimp only
    split <;> rfl
end Ft
set_option Elab.async false
set_option linter.all false
set_option maxRecDepth 100000
set_option maxHeartbeats 4000000
/-! PLAIN: bounds of forests. -/
namespace Ft
open Rd
def dep : Fo → Nat
  | .nil => 0
  | .cons _ _ _ i r => max (dep i + 1) (dep r)
def hgt : Fo → Nat
  | .nil => 0
  | .cons a _ _ i r => max (hgt i + a + 1) (hgt r)
def trm : Fo → Nat
  | .nil => 0
  | .cons _ _ _ i r => 1 + trm i + trm r
def shp : Fo → Prop
  | .nil => True
  | .cons _ d m i r => (d = 0 ∨ d ∣ 6) ∧ (m = -1 ∨ (1 ≤ m ∧ m ≤ 9)) ∧ shp i ∧ shp r
theorem top_bd : ∀ f : Fo, (topF f).1 ≤ dep f ∧ (topF f).2 ≤ hgt f
  | .nil => ⟨Nat.le_refl _, Nat.le_refl _⟩
  | .cons a d m i r => by
    obtain ⟨i1, i2⟩ := top_bd i
    obtain ⟨r1, r2⟩ := top_bd r
    show (maxH (over (topF i) a d) (topF r)).1 ≤ max (dep i + 1) (dep r) ∧ (maxH (over (topF i) a d) (topF r)).2 ≤ max (hgt i + a + 1) (hgt r)
    rcases max_or (over (topF i) a d) (topF r) with e | e
    · rw [e]
      unfold over
      split <;> dsimp only <;> omega
    · rw [e]; omega
def SB (K P : Nat) (s : Sd) : Prop := s.1 ≤ K ∧ s.2.1 ≤ P ∧ (s.2.2.1 = 0 ∨ s.2.2.1 ∣ 6) ∧ -1 ≤ s.2.2.2
theorem SB.mono {K P K' P' : Nat} {s : Sd} (h : SB K P s) (h1 : K ≤ K') (h2 : P ≤ P') : SB K' P' s := ⟨by have := h.1; omega, by have := h.2.1; omega, h.2.2⟩
theorem first_bd : ∀ f : Fo, shp f → ∀ s ∈ firstS f, SB (dep f) (hgt f) s ∧ (s.2.2.2 = -1 ∨ 1 ≤ s.2.2.2)
  | .nil, _, s, h => by cases h
  | .cons a d m i r, hs, s, h => by
    obtain ⟨h1, h2, h3, h4⟩ := hs
    obtain ⟨i1, i2⟩ := top_bd i
    rcases List.mem_cons.mp h with e | h
    · subst e
      refine ⟨⟨?_, ?_, h1, ?_⟩, ?_⟩
      · show (topF i).1 ≤ max (dep i + 1) (dep r); omega
      · show (topF i).2 + a ≤ max (hgt i + a + 1) (hgt r); omega
      · show -1 ≤ m; omega
      · show m = -1 ∨ 1 ≤ m; omega
    · obtain ⟨q1, q2⟩ := first_bd r h4 s h
      exact ⟨q1.mono (Nat.le_max_right _ _) (Nat.le_max_right _ _), q2⟩
theorem wo_bd {h : He} {K P : Nat} : ∀ L : List Sd, (∀ s ∈ L, SB K P s ∧ (s.2.2.2 = -1 ∨ 1 ≤ s.2.2.2)) → ∀ s ∈ woS h L, SB K P s
  | [], _, s, hs => by cases hs
  | x :: L, hL, s, hs => by
    rw [wo_cons] at hs
    obtain ⟨q1, q2⟩ := hL x List.mem_cons_self
    split at hs
    · rcases List.mem_cons.mp hs with e | hs
      · subst e
        refine ⟨q1.1, q1.2.1, q1.2.2.1, ?_⟩
        show -1 ≤ less x.2.2.2
        unfold less
        split <;> omega
      · exact (hL s (List.mem_cons_of_mem _ hs)).1
    · rcases List.mem_cons.mp hs with e | hs
      · subst e; exact q1
      · exact wo_bd L (fun s hs => hL s (List.mem_cons_of_mem _ hs)) s hs
theorem kid_bd (f : Fo) (hf : shp f) : ∀ s ∈ kidS f, SB (dep f) (hgt f) s := fun s h => by
  unfold kidS at h
  split at h
  · exact wo_bd _ (first_bd f hf) s h
  · exact (first_bd f hf s h).1
theorem times_ge {x y : Int} (hx : x = -1 ∨ 1 ≤ x) (hy : -1 ≤ y) : -1 ≤ timesN x y := by
  unfold timesN
  split
  · omega
  · split
    · exact Int.le_refl _
    · have : 0 ≤ x * y := Int.mul_nonneg (by omega) (by omega)
      omega
theorem up_bd : ∀ f : Fo, shp f → ∀ s ∈ upS f, SB (dep f) (hgt f) s
  | .nil, _, s, h => by cases h
  | .cons a d m i r, hs, s, h => by
    obtain ⟨h1, h2, h3, h4⟩ := hs
    rcases List.mem_append.mp h with h | h
    · obtain ⟨s', g1, rfl⟩ := List.mem_map.mp h
      have hb : SB (dep i) (hgt i) s' := by
        rcases List.mem_append.mp g1 with g1 | g1
        · exact kid_bd i h3 s' g1
        · exact up_bd i h3 s' g1
      have hb' : SB (dep (.cons a d m i r)) (hgt (.cons a d m i r)) s' := hb.mono (by show dep i ≤ max (dep i + 1) (dep r); omega) (by show hgt i ≤ max (hgt i + a + 1) (hgt r); omega)
      refine ⟨hb'.1, hb'.2.1, hb'.2.2.1, ?_⟩
      show -1 ≤ timesN (copies d m) s'.2.2.2
      refine times_ge ?_ hb'.2.2.2
      unfold copies
      split <;> omega
    · exact (up_bd r h4 s h).mono (Nat.le_max_right _ _) (Nat.le_max_right _ _)
/-- a forest that the functions take -/
def FOk (f : Fo) : Prop := shp f ∧ dep f ≤ 7 ∧ hgt f ≤ 400 ∧ trm f ≤ 1000
theorem strands_ok {f : Fo} (h : FOk f) : ∀ s ∈ strands f, SdOk s := fun s hs => by
  have hb : SB (dep f) (hgt f) s := by
    rcases List.mem_append.mp hs with hs | hs
    · exact (first_bd f h.1 s hs).1
    · exact up_bd f h.1 s hs
  have h1 := h.2.1
  have h2 := h.2.2.1
  exact ⟨by have := hb.1; omega, by have := hb.2.1; omega, hb.2.2.1, hb.2.2.2⟩
/-- the upper part keeps the bounds -/
theorem shp_up {h : He} : ∀ f : Fo, shp f → shp (upF h f)
  | .nil, _ => trivial
  | .cons a d m i r, hs => by
    obtain ⟨h1, h2, h3, h4⟩ := hs
    rw [upF_cons]
    split
    · exact ⟨h1, h2, shp_up i h3, shp_up r h4⟩
    · split
      · exact ⟨h1, h2, trivial, shp_up r h4⟩
      · exact shp_up r h4
theorem dep_up {h : He} : ∀ f : Fo, dep (upF h f) ≤ dep f
  | .nil => Nat.le_refl _
  | .cons a d m i r => by
    have i1 := dep_up (h := h) i
    have i2 := dep_up (h := h) r
    rw [upF_cons]
    show _ ≤ max (dep i + 1) (dep r)
    split
    · show max (dep (upF h i) + 1) (dep (upF h r)) ≤ _; omega
    · split
      · show max (0 + 1) (dep (upF h r)) ≤ _; omega
      · omega
theorem trm_up {h : He} : ∀ f : Fo, trm (upF h f) ≤ trm f
  | .nil => Nat.le_refl _
  | .cons a d m i r => by
    have i1 := trm_up (h := h) i
    have i2 := trm_up (h := h) r
    rw [upF_cons]
    show _ ≤ 1 + trm i + trm r
    split
    · show 1 + trm (upF h i) + trm (upF h r) ≤ _; omega
    · split
      · show 1 + 0 + trm (upF h r) ≤ _; omega
      · omega
theorem rs_place {h : He} {s s' : Sd} (hd : s.2.2.1 = 0 ∨ s.2.2.1 ∣ 6) (e : rs h s = some s') : s'.2.1 ≤ max s.2.1 5 := by
  unfold rs at e
  split at e
  · cases e; dsimp only; omega
  · split at e
    · split at e
      · cases e; dsimp only; omega
      · split at e
        · cases e
        · rename_i z
          cases e
          dsimp only
          have h6 : s.2.2.1 ≤ 6 := by
            rcases hd with q | q
            · exact (z q).elim
            · exact Nat.le_of_dvd (by decide) q
          have e2 := Int.emod_lt_of_pos ((s.2.1 : Int) - h.2) (show (0 : Int) < (s.2.2.1 : Int) by omega)
          omega
    · cases e
theorem hgt_up {h : He} : ∀ f : Fo, shp f → hgt (upF h f) ≤ hgt f + 6
  | .nil, _ => Nat.zero_le _
  | .cons a d m i r, hs => by
    obtain ⟨h1, h2, h3, h4⟩ := hs
    have i1 := hgt_up (h := h) i h3
    have i2 := hgt_up (h := h) r h4
    obtain ⟨t1, t2⟩ := top_bd i
    rw [upF_cons]
    show _ ≤ max (hgt i + a + 1) (hgt r) + 6
    by_cases z : leH h (topF i)
    · rw [if_pos z]
      show max (hgt (upF h i) + a + 1) (hgt (upF h r)) ≤ _
      omega
    · rw [if_neg z]
      cases e : rs h ((topF i).1, (topF i).2 + a, d, m) with
      | some s =>
        have hp := rs_place (by exact h1) e
        dsimp only at hp ⊢
        show max (0 + s.2.1 + 1) (hgt (upF h r)) ≤ _
        omega
      | none => dsimp only; omega
/-- lengths -/
theorem wo_len {h : He} : ∀ L : List Sd, (woS h L).length = L.length
  | [] => rfl
  | x :: L => by
    rw [wo_cons]
    split
    · rfl
    · exact congrArg (· + 1) (wo_len L)
theorem first_len : ∀ f : Fo, (firstS f).length ≤ trm f
  | .nil => Nat.le_refl _
  | .cons a d m i r => by
    have := first_len r
    show (firstS r).length + 1 ≤ 1 + trm i + trm r
    omega
theorem kid_len (f : Fo) : (kidS f).length = (firstS f).length := by
  unfold kidS
  split
  · exact wo_len _
  · rfl
theorem strands_len : ∀ f : Fo, (firstS f).length + (upS f).length = trm f
  | .nil => rfl
  | .cons a d m i r => by
    have h1 := strands_len i
    have h2 := strands_len r
    have h3 := kid_len i
    show (firstS r).length + 1 + ((kidS i ++ upS i).map (mulS (copies d m)) ++ upS r).length = 1 + trm i + trm r
    rw [List.length_append, List.length_map, List.length_append, h3]
    omega
end Ft
set_option Elab.async false
set_option linter.all false
set_option maxRecDepth 100000
set_option maxHeartbeats 0
namespace Wk
open PySem PySem.Spec PyProof.Rows L2 Eng
def top (i : Nat) : Stmt := PySem.Challenge.pw_wholeheights_k80_whole_upper_tables_are.main.body.getD i (.Pass ⟨0, 0, 0, 0⟩)
def d_is_integer : He.DefD := ⟨("is_integer", none), "is_integer", "is_integer", defArgs (top 7), defBody (top 7), defScope (top 7), [], []⟩
def d_is_natural : He.DefD := ⟨("is_natural", none), "is_natural", "is_natural", defArgs (top 8), defBody (top 8), defScope (top 8), [.int 0], []⟩
def d_is_height : He.DefD := ⟨("is_height", none), "is_height", "is_height", defArgs (top 10), defBody (top 10), defScope (top 10), [], []⟩
def d_check_height : He.DefD := ⟨("check_height", none), "check_height", "check_height", defArgs (top 11), defBody (top 11), defScope (top 11), [], []⟩
def d_sum_in : He.DefD := ⟨("sum_in", none), "sum_in", "sum_in", defArgs (top 12), defBody (top 12), defScope (top 12), [], []⟩
def d_sum_of : He.DefD := ⟨("sum_of", none), "sum_of", "sum_of", defArgs (top 13), defBody (top 13), defScope (top 13), [], []⟩
def d_are_numbers : He.DefD := ⟨("are_numbers", none), "are_numbers", "are_numbers", defArgs (top 16), defBody (top 16), defScope (top 16), [], []⟩
def d_is_block : He.DefD := ⟨("is_block", none), "is_block", "is_block", defArgs (top 17), defBody (top 17), defScope (top 17), [], []⟩
def d_are_blocks : He.DefD := ⟨("are_blocks", none), "are_blocks", "are_blocks", defArgs (top 18), defBody (top 18), defScope (top 18), [], []⟩
def d_shortest_round : He.DefD := ⟨("shortest_round", none), "shortest_round", "shortest_round", defArgs (top 19), defBody (top 19), defScope (top 19), [], []⟩
def d_block_in : He.DefD := ⟨("block_in", none), "block_in", "block_in", defArgs (top 20), defBody (top 20), defScope (top 20), [], []⟩
def d_table_in : He.DefD := ⟨("table_in", none), "table_in", "table_in", defArgs (top 21), defBody (top 21), defScope (top 21), [], []⟩
def d_is_table : He.DefD := ⟨("is_table", none), "is_table", "is_table", defArgs (top 22), defBody (top 22), defScope (top 22), [], []⟩
def d_check_table : He.DefD := ⟨("check_table", none), "check_table", "check_table", defArgs (top 23), defBody (top 23), defScope (top 23), [], []⟩
def d_block_number : He.DefD := ⟨("block_number", none), "block_number", "block_number", defArgs (top 24), defBody (top 24), defScope (top 24), [], []⟩
def d_block_at : He.DefD := ⟨("block_at", none), "block_at", "block_at", defArgs (top 25), defBody (top 25), defScope (top 25), [], []⟩
def d_number_in : He.DefD := ⟨("number_in", none), "number_in", "number_in", defArgs (top 26), defBody (top 26), defScope (top 26), [], []⟩
def d_number_at : He.DefD := ⟨("number_at", none), "number_at", "number_at", defArgs (top 27), defBody (top 27), defScope (top 27), [], []⟩
def d_plus_number : He.DefD := ⟨("plus_number", none), "plus_number", "plus_number", defArgs (top 28), defBody (top 28), defScope (top 28), [], []⟩
def d_spans_of : He.DefD := ⟨("spans_of", none), "spans_of", "spans_of", defArgs (top 29), defBody (top 29), defScope (top 29), [], []⟩
def d_unlike_in : He.DefD := ⟨("unlike_in", none), "unlike_in", "unlike_in", defArgs (top 30), defBody (top 30), defScope (top 30), [], []⟩
def d_unlike_at : He.DefD := ⟨("unlike_at", none), "unlike_at", "unlike_at", defArgs (top 31), defBody (top 31), defScope (top 31), [], []⟩
def d_shifted : He.DefD := ⟨("shifted", none), "shifted", "shifted", defArgs (top 32), defBody (top 32), defScope (top 32), [], []⟩
def d_tail_in : He.DefD := ⟨("tail_in", none), "tail_in", "tail_in", defArgs (top 33), defBody (top 33), defScope (top 33), [], []⟩
def d_tail_of : He.DefD := ⟨("tail_of", none), "tail_of", "tail_of", defArgs (top 34), defBody (top 34), defScope (top 34), [], []⟩
def d_is_term : He.DefD := ⟨("is_term", none), "is_term", "is_term", defArgs (top 36), defBody (top 36), defScope (top 36), [], []⟩
def d_is_forest : He.DefD := ⟨("is_forest", none), "is_forest", "is_forest", defArgs (top 37), defBody (top 37), defScope (top 37), [], []⟩
def d_check_forest : He.DefD := ⟨("check_forest", none), "check_forest", "check_forest", defArgs (top 38), defBody (top 38), defScope (top 38), [], []⟩
def d_top_in : He.DefD := ⟨("top_in", none), "top_in", "top_in", defArgs (top 39), defBody (top 39), defScope (top 39), [], []⟩
def d_top_height : He.DefD := ⟨("top_height", none), "top_height", "top_height", defArgs (top 40), defBody (top 40), defScope (top 40), [], []⟩
def d_times_number : He.DefD := ⟨("times_number", none), "times_number", "times_number", defArgs (top 41), defBody (top 41), defScope (top 41), [], []⟩
def d_size_in : He.DefD := ⟨("size_in", none), "size_in", "size_in", defArgs (top 42), defBody (top 42), defScope (top 42), [], []⟩
def d_size_of : He.DefD := ⟨("size_of", none), "size_of", "size_of", defArgs (top 43), defBody (top 43), defScope (top 43), [], []⟩
def d_first_strands : He.DefD := ⟨("first_strands", none), "first_strands", "first_strands", defArgs (top 44), defBody (top 44), defScope (top 44), [], []⟩
def d_without_one : He.DefD := ⟨("without_one", none), "without_one", "without_one", defArgs (top 45), defBody (top 45), defScope (top 45), [], []⟩
def d_kid_strands : He.DefD := ⟨("kid_strands", none), "kid_strands", "kid_strands", defArgs (top 46), defBody (top 46), defScope (top 46), [], []⟩
def d_upper_strands : He.DefD := ⟨("upper_strands", none), "upper_strands", "upper_strands", defArgs (top 47), defBody (top 47), defScope (top 47), [], []⟩
def d_strand_number : He.DefD := ⟨("strand_number", none), "strand_number", "strand_number", defArgs (top 48), defBody (top 48), defScope (top 48), [], []⟩
def d_strands_block : He.DefD := ⟨("strands_block", none), "strands_block", "strands_block", defArgs (top 49), defBody (top 49), defScope (top 49), [], []⟩
def d_table_of_in : He.DefD := ⟨("table_of_in", none), "table_of_in", "table_of_in", defArgs (top 50), defBody (top 50), defScope (top 50), [], []⟩
def d_table_of : He.DefD := ⟨("table_of", none), "table_of", "table_of", defArgs (top 51), defBody (top 51), defScope (top 51), [], []⟩
def d_line_nodes : He.DefD := ⟨("line_nodes", none), "line_nodes", "line_nodes", defArgs (top 52), defBody (top 52), defScope (top 52), [], []⟩
def d_nodes_at_in : He.DefD := ⟨("nodes_at_in", none), "nodes_at_in", "nodes_at_in", defArgs (top 53), defBody (top 53), defScope (top 53), [], []⟩
def d_nodes_at : He.DefD := ⟨("nodes_at", none), "nodes_at", "nodes_at", defArgs (top 54), defBody (top 54), defScope (top 54), [], []⟩
def d_upper_term : He.DefD := ⟨("upper_term", none), "upper_term", "upper_term", defArgs (top 56), defBody (top 56), defScope (top 56), [], []⟩
def d_upper_terms : He.DefD := ⟨("upper_terms", none), "upper_terms", "upper_terms", defArgs (top 57), defBody (top 57), defScope (top 57), [], []⟩
def d_upper_in : He.DefD := ⟨("upper_in", none), "upper_in", "upper_in", defArgs (top 58), defBody (top 58), defScope (top 58), [], []⟩
def d_upper : He.DefD := ⟨("upper", none), "upper", "upper", defArgs (top 59), defBody (top 59), defScope (top 59), [], []⟩
def d__law_begin : He.DefD := ⟨("_law_begin", none), "_law_begin", "_law_begin", defArgs (top 61), defBody (top 61), defScope (top 61), [], []⟩
def d__law_draw : He.DefD := ⟨("_law_draw", none), "_law_draw", "_law_draw", defArgs (top 62), defBody (top 62), defScope (top 62), [], []⟩
def d__law_terms : He.DefD := ⟨("_law_terms", none), "_law_terms", "_law_terms", defArgs (top 63), defBody (top 63), defScope (top 63), [], []⟩
def d__law_forest : He.DefD := ⟨("_law_forest", none), "_law_forest", "_law_forest", defArgs (top 64), defBody (top 64), defScope (top 64), [], []⟩
def d__law_deep : He.DefD := ⟨("_law_deep", none), "_law_deep", "_law_deep", defArgs (top 65), defBody (top 65), defScope (top 65), [], []⟩
def d__law_top : He.DefD := ⟨("_law_top", none), "_law_top", "_law_top", defArgs (top 66), defBody (top 66), defScope (top 66), [], []⟩
def d__law_cut : He.DefD := ⟨("_law_cut", none), "_law_cut", "_law_cut", defArgs (top 67), defBody (top 67), defScope (top 67), [], []⟩
def d__law_right : He.DefD := ⟨("_law_right", none), "_law_right", "_law_right", defArgs (top 68), defBody (top 68), defScope (top 68), [], []⟩
def d_law : He.DefD := ⟨("law", none), "law", "law", defArgs (top 69), defBody (top 69), defScope (top 69), [], []⟩
def d_HeightError____init__ : He.DefD := ⟨("HeightError", some "__init__"), "__init__", "HeightError.__init__", defArgs (inClass (top 2) 0), defBody (inClass (top 2) 0), defScope (inClass (top 2) 0), [], []⟩
def fn0 : List He.DefD := [d_is_integer, d_is_natural, d_is_height, d_check_height, d_sum_in, d_sum_of, d_are_numbers, d_is_block, d_are_blocks, d_shortest_round, d_block_in, d_table_in]
def fn1 : List He.DefD := [d_is_table, d_check_table, d_block_number, d_block_at, d_number_in, d_number_at, d_plus_number, d_spans_of, d_unlike_in, d_unlike_at, d_shifted, d_tail_in]
def fn2 : List He.DefD := [d_tail_of, d_is_term, d_is_forest, d_check_forest, d_top_in, d_top_height, d_times_number, d_size_in, d_size_of, d_first_strands, d_without_one, d_kid_strands]
def fn3 : List He.DefD := [d_upper_strands, d_strand_number, d_strands_block, d_table_of_in, d_table_of, d_line_nodes, d_nodes_at_in, d_nodes_at, d_upper_term, d_upper_terms, d_upper_in, d_upper]
def fn4 : List He.DefD := [d__law_begin, d__law_draw, d__law_terms, d__law_forest, d__law_deep, d__law_top, d__law_cut, d__law_right, d_law]
def fn : List He.DefD := fn0 ++ fn1 ++ fn2 ++ fn3 ++ fn4
def fa0 : List He.Fa := [.glo "is_integer", .glo "is_natural", .glo "is_height", .glo "check_height", .glo "sum_in", .glo "sum_of", .glo "are_numbers", .glo "is_block", .glo "are_blocks", .glo "shortest_round", .glo "block_in", .glo "table_in"]
def fa1 : List He.Fa := [.glo "is_table", .glo "check_table", .glo "block_number", .glo "block_at", .glo "number_in", .glo "number_at", .glo "plus_number", .glo "spans_of", .glo "unlike_in", .glo "unlike_at", .glo "shifted", .glo "tail_in"]
def fa2 : List He.Fa := [.glo "tail_of", .glo "is_term", .glo "is_forest", .glo "check_forest", .glo "top_in", .glo "top_height", .glo "times_number", .glo "size_in", .glo "size_of", .glo "first_strands", .glo "without_one", .glo "kid_strands"]
def fa3 : List He.Fa := [.glo "upper_strands", .glo "strand_number", .glo "strands_block", .glo "table_of_in", .glo "table_of", .glo "line_nodes", .glo "nodes_at_in", .glo "nodes_at", .glo "upper_term", .glo "upper_terms", .glo "upper_in", .glo "upper"]
def fa4 : List He.Fa := [.glo "_law_begin", .glo "_law_draw", .glo "_law_terms", .glo "_law_forest", .glo "_law_deep", .glo "_law_top", .glo "_law_cut", .glo "_law_right", .glo "law", .glo "HeightError", .glo "InvalidHeight", .glo "InvalidTable"]
def fa5 : List He.Fa := [.glo "InvalidForest", .glo "NOTHING", .free "ValueError", .free "all", .free "bool", .free "enumerate", .free "int", .free "isinstance", .free "len", .free "max", .free "min", .free "range"]
def fa6 : List He.Fa := [.free "sum", .free "super", .free "tuple"]
def fa : List He.Fa := fa0 ++ fa1 ++ fa2 ++ fa3 ++ fa4 ++ fa5 ++ fa6
abbrev R : PySem.W.OpenRow := PySem.W.OpenLaw.row PySem.Challenge.rw_wholeheights_k80_whole_upper_tables_are
def ex (K : PySem.W.Frag) : Bool := (decide (PySem.W.nsIn K mainGlobals "lcm" = some (some (.builtin "math.lcm"))) && (Eng.chk K (.ref (He.ga K "NOTHING")) (.tuple [.tuple [], .tuple [.int 0]]) && true))
abbrev hk : PySem.W.Hook := He.hookX 4 fa fn [] [] ex
def ob (s : PySem.W.SharedT) : He.AlX := He.obsX 4 fa fn [] [] ex (HandSHeadRun.getT s)
theorem ob_eq (s : PySem.W.SharedT) : ob s = hk.obs s.abs := He.obsX_eq (HandSHeadRun.getT_eq s)
def names0 : List PySem.Str := (["HeightError", "InvalidHeight", "InvalidTable", "InvalidForest", "is_integer", "is_natural", "is_height", "check_height", "sum_in", "sum_of", "NOTHING", "are_numbers"] : List PySem.Str)
def names1 : List PySem.Str := (["is_block", "are_blocks", "shortest_round", "block_in", "table_in", "is_table", "check_table", "block_number", "block_at", "number_in", "number_at", "plus_number"] : List PySem.Str)
def names2 : List PySem.Str := (["spans_of", "unlike_in", "unlike_at", "shifted", "tail_in", "tail_of", "is_term", "is_forest", "check_forest", "top_in", "top_height", "times_number"] : List PySem.Str)
def names3 : List PySem.Str := (["size_in", "size_of", "first_strands", "without_one", "kid_strands", "upper_strands", "strand_number", "strands_block", "table_of_in", "table_of", "line_nodes", "nodes_at_in"] : List PySem.Str)
def names4 : List PySem.Str := (["nodes_at", "upper_term", "upper_terms", "upper_in", "upper", "_law_begin", "_law_draw", "_law_terms", "_law_forest", "_law_deep", "_law_top", "_law_cut"] : List PySem.Str)
def names5 : List PySem.Str := (["_law_right"] : List PySem.Str)
def names : List PySem.Str := names0 ++ names1 ++ names2 ++ names3 ++ names4 ++ names5
abbrev qv : Program := PySem.W.view R.prog [0, 69]
theorem run (w : World) : HandSHeadRun.RunEqI R qv hk ob 4000 names w := by
  unfold HandSHeadRun.RunEqI
  kernel_rfl
end Wk
set_option Elab.async false
set_option linter.all false
set_option maxRecDepth 100000
set_option maxHeartbeats 0
namespace Wk
open PySem PySem.Spec PyProof.Rows L2 Eng
noncomputable section
variable {P : Program} {w : World} {K : PySem.W.Frag} {mg : Str → Option Value} {base : Heap}
def S_is_integer : FF := fnOf 1 1 (retS ((bE (andB (vB (isiE "int" (var 0))) (vB (bE (notB (vB (isiE "bool" (var 0))))))))))
theorem sc_is_integer : FnScope ["value"] ["value"] (defScope (top 7)) := ⟨rfl, rfl, rfl, by decide +kernel, rfl, by decide +kernel, by decide +kernel⟩
theorem ok_is_integer {k : Nat} {dvs0 : List V} {dds : List D} (T : DefT K mg "is_integer" ["value"] (defArgs (top 7)) (defBody (top 7)) (defScope (top 7)) dvs0 dds) (fr_bool : mg "bool" = none) (fr_int : mg "int" = none) (fr_isinstance : mg "isinstance" = none) : OkF P w K mg base "is_integer" (k + 1) ["value"] dds (S_is_integer) := by
  refine T.ok sc_is_integer rfl (by decide) (fun f cdv A outer s H E hr => ?_)
  have nd := sc_is_integer.nd
  exact (ss_one (ss_ret ((pe_andV (pe_isi rfl fr_isinstance (pe_v (pv 0)) (pe_bltn rfl fr_int (by decide +kernel) rfl)) (pe_one (pe_notV (pe_isi rfl fr_isinstance (pe_v (pv 0)) (pe_bltn rfl fr_bool (by decide +kernel) rfl))))))))
def S_is_natural (g_is_integer : FF) : FF := fnOf 2 2 (retS ((bE (andB (vB (callE g_is_integer [] [.v (var 0)])) (vB (op2 gGe (var 0) (var 1)))))))
theorem sc_is_natural : FnScope ["value", "least"] ["value", "least"] (defScope (top 8)) := ⟨rfl, rfl, rfl, by decide +kernel, rfl, by decide +kernel, by decide +kernel⟩
theorem ok_is_natural {k : Nat} {dvs0 : List V} {dds : List D} {g_is_integer : FF} (T : DefT K mg "is_natural" ["value", "least"] (defArgs (top 8)) (defBody (top 8)) (defScope (top 8)) dvs0 dds) (c_is_integer : OkF P w K mg base "is_integer" k ["value"] [] g_is_integer) : OkF P w K mg base "is_natural" (k + 1) ["value", "least"] dds (S_is_natural g_is_integer) := by
  refine T.ok sc_is_natural rfl (by decide) (fun f cdv A outer s H E hr => ?_)
  have nd := sc_is_natural.nd
  exact (ss_one (ss_ret ((pe_andV (pe_cf c_is_integer hr rfl (L2.takes_of rfl rfl rfl rfl) (pa_consV (pe_v (pv 0)) pa_nilA)) (pe_one (pe_cmp2 (op_geD hr.units) rs_ord (pe_v (pv 0)) (pe_v (pv 1)) (nomark _)))))))
def S_is_height (g_is_natural_d1 : FF) : FF := fnOf 1 1 (retS ((bE (andB (vB (isiE "tuple" (var 0))) (vB (bE (andB (vB (op2 gEq (cb1 gLen (var 0)) (cst (.int 2)))) (vB (bE (andB (vB (callE g_is_natural_d1 [.int 0] [.v (ixE (var 0) (cst (.int 0)))])) (vB (callE g_is_natural_d1 [.int 0] [.v (ixE (var 0) (cst (.int 1)))]))))))))))))
theorem sc_is_height : FnScope ["value"] ["value"] (defScope (top 10)) := ⟨rfl, rfl, rfl, by decide +kernel, rfl, by decide +kernel, by decide +kernel⟩
theorem ok_is_height {k : Nat} {dvs0 : List V} {dds : List D} {g_is_natural_d1 : FF} (T : DefT K mg "is_height" ["value"] (defArgs (top 10)) (defBody (top 10)) (defScope (top 10)) dvs0 dds) (fr_isinstance : mg "isinstance" = none) (fr_len : mg "len" = none) (fr_tuple : mg "tuple" = none) (c_is_natural_d1 : OkF P w K mg base "is_natural" k ["value", "least"] [.int 0] g_is_natural_d1) : OkF P w K mg base "is_height" (k + 1) ["value"] dds (S_is_height g_is_natural_d1) := by
  refine T.ok sc_is_height rfl (by decide) (fun f cdv A outer s H E hr => ?_)
  have nd := sc_is_height.nd
  exact (ss_one (ss_ret ((pe_andV (pe_isi rfl fr_isinstance (pe_v (pv 0)) (pe_bltn rfl fr_tuple (by decide +kernel) rfl)) (pe_andV (pe_cmp2 (op_eqD hr.units) rs_eq (pe_cb1 call_lenA rc_len rfl fr_len (by decide +kernel) (pe_v (pv 0))) (pe_cst pe_int (fun _ => den_int _)) (nomark _)) (pe_andV (pe_cf c_is_natural_d1 hr rfl (L2.takes_of rfl rfl rfl rfl) (pa_consV (pe_ixE (pe_v (pv 0)) (pe_cst pe_int (fun _ => den_int _)) (fun _ _ => rfl)) pa_nilA)) (pe_one (pe_cf c_is_natural_d1 hr rfl (L2.takes_of rfl rfl rfl rfl) (pa_consV (pe_ixE (pe_v (pv 0)) (pe_cst pe_int (fun _ => den_int _)) (fun _ _ => rfl)) pa_nilA)))))))))
def S_check_height (g_is_height : FF) : FF := fnOf 1 1 (ifS (notB (truB (callE g_is_height [] [.v (var 0)]))) (stuS) nxS)
theorem sc_check_height : FnScope ["value"] ["value"] (defScope (top 11)) := ⟨rfl, rfl, rfl, by decide +kernel, rfl, by decide +kernel, by decide +kernel⟩
theorem ok_check_height {k : Nat} {dvs0 : List V} {dds : List D} {g_is_height : FF} (T : DefT K mg "check_height" ["value"] (defArgs (top 11)) (defBody (top 11)) (defScope (top 11)) dvs0 dds) (c_is_height : OkF P w K mg base "is_height" k ["value"] [] g_is_height) : OkF P w K mg base "check_height" (k + 1) ["value"] dds (S_check_height g_is_height) := by
  refine T.ok sc_check_height rfl (by decide) (fun f cdv A outer s H E hr => ?_)
  have nd := sc_check_height.nd
  exact (ss_one (ss_if (pt_notB (pt_tru (pe_cf c_is_height hr rfl (L2.takes_of rfl rfl rfl rfl) (pa_consV (pe_v (pv 0)) pa_nilA)) (fun _ => rfl))) (ss_one (ss_stu)) ss_nil))
def S_sum_in : FF := fnOf 2 2 (seqS (ifS (asB (op2 gEq (ixE (var 1) (cst (.int 0))) (cst (.int 0)))) (retS (tupE [(ixE (var 0) (cst (.int 0))), (op2 gAddA (ixE (var 0) (cst (.int 1))) (ixE (var 1) (cst (.int 1))))])) nxS) (retS (tupE [(op2 gAddA (ixE (var 0) (cst (.int 0))) (ixE (var 1) (cst (.int 0)))), (ixE (var 1) (cst (.int 1)))])))
theorem sc_sum_in : FnScope ["height", "other"] ["height", "other"] (defScope (top 12)) := ⟨rfl, rfl, rfl, by decide +kernel, rfl, by decide +kernel, by decide +kernel⟩
theorem ok_sum_in {k : Nat} {dvs0 : List V} {dds : List D} (T : DefT K mg "sum_in" ["height", "other"] (defArgs (top 12)) (defBody (top 12)) (defScope (top 12)) dvs0 dds)  : OkF P w K mg base "sum_in" (k + 1) ["height", "other"] dds (S_sum_in) := by
  refine T.ok sc_sum_in rfl (by decide) (fun f cdv A outer s H E hr => ?_)
  have nd := sc_sum_in.nd
  exact (ss_cons (ss_if (pt_cmp2 (op_eqD hr.units) rs_eq (pe_ixE (pe_v (pv 1)) (pe_cst pe_int (fun _ => den_int _)) (fun _ _ => rfl)) (pe_cst pe_int (fun _ => den_int _)) (nomark _)) (ss_one (ss_ret (pe_tupE (pa_consL (pe_ixE (pe_v (pv 0)) (pe_cst pe_int (fun _ => den_int _)) (fun _ _ => rfl)) (pa_consL (pe_op2 op_addB rs_add (pe_ixE (pe_v (pv 0)) (pe_cst pe_int (fun _ => den_int _)) (fun _ _ => rfl)) (pe_ixE (pe_v (pv 1)) (pe_cst pe_int (fun _ => den_int _)) (fun _ _ => rfl))) pa_nilL)) (Nat.le_of_ble_eq_true rfl)))) ss_nil)
    (ss_one (ss_ret (pe_tupE (pa_consL (pe_op2 op_addB rs_add (pe_ixE (pe_v (pv 0)) (pe_cst pe_int (fun _ => den_int _)) (fun _ _ => rfl)) (pe_ixE (pe_v (pv 1)) (pe_cst pe_int (fun _ => den_int _)) (fun _ _ => rfl))) (pa_consL (pe_ixE (pe_v (pv 1)) (pe_cst pe_int (fun _ => den_int _)) (fun _ _ => rfl)) pa_nilL)) (Nat.le_of_ble_eq_true rfl)))))
def S_sum_of (g_sum_in g_check_height : FF) : FF := fnOf 2 2 (seqS (drpS (callE g_check_height [] [.v (var 0)])) (seqS (drpS (callE g_check_height [] [.v (var 1)])) (retS (callE g_sum_in [] [.v (var 0), .v (var 1)]))))
theorem sc_sum_of : FnScope ["height", "other"] ["height", "other"] (defScope (top 13)) := ⟨rfl, rfl, rfl, by decide +kernel, rfl, by decide +kernel, by decide +kernel⟩
theorem ok_sum_of {k : Nat} {dvs0 : List V} {dds : List D} {g_sum_in g_check_height : FF} (T : DefT K mg "sum_of" ["height", "other"] (defArgs (top 13)) (defBody (top 13)) (defScope (top 13)) dvs0 dds) (c_sum_in : OkF P w K mg base "sum_in" k ["height", "other"] [] g_sum_in) (c_check_height : OkF P w K mg base "check_height" k ["value"] [] g_check_height) : OkF P w K mg base "sum_of" (k + 1) ["height", "other"] dds (S_sum_of g_sum_in g_check_height) := by
  refine T.ok sc_sum_of rfl (by decide) (fun f cdv A outer s H E hr => ?_)
  have nd := sc_sum_of.nd
  exact (ss_cons (ss_expr (pe_cf c_check_height hr rfl (L2.takes_of rfl rfl rfl rfl) (pa_consV (pe_v (pv 0)) pa_nilA)))
    (ss_cons (ss_expr (pe_cf c_check_height hr rfl (L2.takes_of rfl rfl rfl rfl) (pa_consV (pe_v (pv 1)) pa_nilA)))
    (ss_one (ss_ret (pe_cf c_sum_in hr rfl (L2.takes_of rfl rfl rfl rfl) (pa_consV (pe_v (pv 0)) (pa_consV (pe_v (pv 1)) pa_nilA)))))))
def S_are_numbers (g_is_integer : FF) : FF := fnOf 1 2 (retS ((bE (andB (vB (isiE "tuple" (var 0))) (vB (cb1 gAll (lcE (seqI (var 0)) [1] (tgN 1) yesB ((bE (andB (vB (callE g_is_integer [] [.v (var 1)])) (vB (op2 gGe (var 1) (op1 gNeg (cst (.int 1)))))))))))))))
theorem sc_are_numbers : FnScope ["value", "part"] ["value"] (defScope (top 16)) := ⟨rfl, rfl, rfl, by decide +kernel, rfl, by decide +kernel, by decide +kernel⟩
theorem ok_are_numbers {k : Nat} {dvs0 : List V} {dds : List D} {g_is_integer : FF} (T : DefT K mg "are_numbers" ["value"] (defArgs (top 16)) (defBody (top 16)) (defScope (top 16)) dvs0 dds) (fr_all : mg "all" = none) (fr_isinstance : mg "isinstance" = none) (fr_tuple : mg "tuple" = none) (c_is_integer : OkF P w K mg base "is_integer" k ["value"] [] g_is_integer) : OkF P w K mg base "are_numbers" (k + 1) ["value"] dds (S_are_numbers g_is_integer) := by
  refine T.ok sc_are_numbers rfl (by decide) (fun f cdv A outer s H E hr => ?_)
  have nd := sc_are_numbers.nd
  exact (ss_one (ss_ret ((pe_andV (pe_isi rfl fr_isinstance (pe_v (pv 0)) (pe_bltn rfl fr_tuple (by decide +kernel) rfl)) (pe_one (pe_cb1 (cr_all rfl) rc_all rfl fr_all (by decide +kernel) (pe_lcV rfl nd (pi_seqI (pe_v (pv 0))) (blkOk_by (own := [("part", 1)]) (by show blkC ["value", "part"] (defScope (top 16)) _ _ = true; decide +kernel)) (fun _ _ _ _ _ => (pg_n (pg_name nd rfl (by first | exact .inl rfl | exact .inr rfl)))) (fun _ _ _ _ _ => pts_yes) (fun _ _ _ _ _ => ((pe_andV (pe_cf c_is_integer hr rfl takes0 (pa_consV (pe_v (pv 1)) pa_nilA)) (pe_one (pe_cmp2 (op_geD hr.units) rs_ord (pe_v (pv 1)) (pe_un1 un_neg rs_neg (pe_cst pe_int (fun _ => den_int _))) (nomark _)))))) (by decide))))))))
def S_is_block (g_are_numbers : FF) : FF := fnOf 1 1 (seqS (ifS (orB (notB (truB (isiE "tuple" (var 0)))) (asB (op2 gNe (cb1 gLen (var 0)) (cst (.int 2))))) (retS (cst (.bool false))) nxS) (retS ((bE (andB (vB (callE g_are_numbers [] [.v (ixE (var 0) (cst (.int 0)))])) (vB (bE (andB (vB (callE g_are_numbers [] [.v (ixE (var 0) (cst (.int 1)))])) (vB (op2 gGt (cb1 gLen (ixE (var 0) (cst (.int 1)))) (cst (.int 0))))))))))))
theorem sc_is_block : FnScope ["value"] ["value"] (defScope (top 17)) := ⟨rfl, rfl, rfl, by decide +kernel, rfl, by decide +kernel, by decide +kernel⟩
theorem ok_is_block {k : Nat} {dvs0 : List V} {dds : List D} {g_are_numbers : FF} (T : DefT K mg "is_block" ["value"] (defArgs (top 17)) (defBody (top 17)) (defScope (top 17)) dvs0 dds) (fr_isinstance : mg "isinstance" = none) (fr_len : mg "len" = none) (fr_tuple : mg "tuple" = none) (c_are_numbers : OkF P w K mg base "are_numbers" k ["value"] [] g_are_numbers) : OkF P w K mg base "is_block" (k + 1) ["value"] dds (S_is_block g_are_numbers) := by
  refine T.ok sc_is_block rfl (by decide) (fun f cdv A outer s H E hr => ?_)
  have nd := sc_is_block.nd
  exact (ss_cons (ss_if (PW.pt (pw_orB (pt_notB (pt_tru (pe_isi rfl fr_isinstance (pe_v (pv 0)) (pe_bltn rfl fr_tuple (by decide +kernel) rfl)) (fun _ => rfl))) (pw_or1 (pt_cmp2 (op_neD hr.units) rs_ne (pe_cb1 call_lenA rc_len rfl fr_len (by decide +kernel) (pe_v (pv 0))) (pe_cst pe_int (fun _ => den_int _)) (nomark _))))) (ss_one (ss_ret (pe_cst pe_bl (fun _ => den_bl _)))) ss_nil)
    (ss_one (ss_ret ((pe_andV (pe_cf c_are_numbers hr rfl (L2.takes_of rfl rfl rfl rfl) (pa_consV (pe_ixE (pe_v (pv 0)) (pe_cst pe_int (fun _ => den_int _)) (fun _ _ => rfl)) pa_nilA)) (pe_andV (pe_cf c_are_numbers hr rfl (L2.takes_of rfl rfl rfl rfl) (pa_consV (pe_ixE (pe_v (pv 0)) (pe_cst pe_int (fun _ => den_int _)) (fun _ _ => rfl)) pa_nilA)) (pe_one (pe_cmp2 (op_gtD hr.units) rs_ord (pe_cb1 call_lenA rc_len rfl fr_len (by decide +kernel) (pe_ixE (pe_v (pv 0)) (pe_cst pe_int (fun _ => den_int _)) (fun _ _ => rfl))) (pe_cst pe_int (fun _ => den_int _)) (nomark _)))))))))
def S_are_blocks (g_is_block : FF) : FF := fnOf 1 2 (retS ((bE (andB (vB (isiE "tuple" (var 0))) (vB (cb1 gAll (lcE (seqI (var 0)) [1] (tgN 1) yesB (callE g_is_block [] [.v (var 1)]))))))))
theorem sc_are_blocks : FnScope ["value", "block"] ["value"] (defScope (top 18)) := ⟨rfl, rfl, rfl, by decide +kernel, rfl, by decide +kernel, by decide +kernel⟩
theorem ok_are_blocks {k : Nat} {dvs0 : List V} {dds : List D} {g_is_block : FF} (T : DefT K mg "are_blocks" ["value"] (defArgs (top 18)) (defBody (top 18)) (defScope (top 18)) dvs0 dds) (fr_all : mg "all" = none) (fr_isinstance : mg "isinstance" = none) (fr_tuple : mg "tuple" = none) (c_is_block : OkF P w K mg base "is_block" k ["value"] [] g_is_block) : OkF P w K mg base "are_blocks" (k + 1) ["value"] dds (S_are_blocks g_is_block) := by
  refine T.ok sc_are_blocks rfl (by decide) (fun f cdv A outer s H E hr => ?_)
  have nd := sc_are_blocks.nd
  exact (ss_one (ss_ret ((pe_andV (pe_isi rfl fr_isinstance (pe_v (pv 0)) (pe_bltn rfl fr_tuple (by decide +kernel) rfl)) (pe_one (pe_cb1 (cr_all rfl) rc_all rfl fr_all (by decide +kernel) (pe_lcV rfl nd (pi_seqI (pe_v (pv 0))) (blkOk_by (own := [("block", 1)]) (by show blkC ["value", "block"] (defScope (top 18)) _ _ = true; decide +kernel)) (fun _ _ _ _ _ => (pg_n (pg_name nd rfl (by first | exact .inl rfl | exact .inr rfl)))) (fun _ _ _ _ _ => pts_yes) (fun _ _ _ _ _ => (pe_cf c_is_block hr rfl takes0 (pa_consV (pe_v (pv 1)) pa_nilA))) (by decide))))))))
def S_shortest_round : FF := fnOf 1 2 (seqS (forS (rngI2 (cst (.int 1)) (op2 gAddA (cb1 gLen (var 0)) (cst (.int 1)))) (tgN 1) (ifS (andB (asB (op2 gEq (op2 gMod (cb1 gLen (var 0)) (var 1)) (cst (.int 0)))) (asB (op2 gEq (var 0) (op2 gMul (slE (var 0) none (some (var 1))) (op2 gFdiv (cb1 gLen (var 0)) (var 1)))))) (retS (slE (var 0) none (some (var 1)))) nxS)) (retS (var 0)))
theorem sc_shortest_round : FnScope ["numbers", "size"] ["numbers"] (defScope (top 19)) := ⟨rfl, rfl, rfl, by decide +kernel, rfl, by decide +kernel, by decide +kernel⟩
theorem ok_shortest_round {k : Nat} {dvs0 : List V} {dds : List D} (T : DefT K mg "shortest_round" ["numbers"] (defArgs (top 19)) (defBody (top 19)) (defScope (top 19)) dvs0 dds) (fr_len : mg "len" = none) (fr_range : mg "range" = none) : OkF P w K mg base "shortest_round" (k + 1) ["numbers"] dds (S_shortest_round) := by
  refine T.ok sc_shortest_round rfl (by decide) (fun f cdv A outer s H E hr => ?_)
  have nd := sc_shortest_round.nd
  exact (ss_cons (ss_for (passes_of rfl) rfl (pi_rng2 rfl fr_range (pe_cst pe_int (fun _ => den_int _)) (pe_op2 op_addB rs_add (pe_cb1 call_lenA rc_len rfl fr_len (by decide +kernel) (pe_v (pv 0))) (pe_cst pe_int (fun _ => den_int _)))) (pg_n (pg_name nd rfl (by first | exact .inl rfl | exact .inr rfl))) (ss_one (ss_if (PW.pt (pw_andB (pt_cmp2 (op_eqD hr.units) rs_eq (pe_op2 op_mod rs_mod (pe_cb1 call_lenA rc_len rfl fr_len (by decide +kernel) (pe_v (pv 0))) (pe_v (pv 1))) (pe_cst pe_int (fun _ => den_int _)) (nomark _)) (pw_and1 (pt_cmp2 (op_eqD hr.units) rs_eq (pe_v (pv 0)) (pe_op2 op_mulA rs_mul (pe_slE (pe_v (pv 0)) po_no (po_so (pe_v (pv 1)))) (pe_op2 op_fdiv rs_fdiv (pe_cb1 call_lenA rc_len rfl fr_len (by decide +kernel) (pe_v (pv 0))) (pe_v (pv 1)))) (nomark _))))) (ss_one (ss_ret (pe_slE (pe_v (pv 0)) po_no (po_so (pe_v (pv 1)))))) ss_nil)))
    (ss_one (ss_ret (pe_v (pv 0)))))
def S_block_in (g_shortest_round : FF) : FF := fnOf 2 2 (seqS (asgS 1 (callE g_shortest_round [] [.v (var 1)])) (seqS (whS (andB (truB (var 0)) (asB (op2 gEq (ixE (var 0) (op1 gNeg (cst (.int 1)))) (ixE (var 1) (op1 gNeg (cst (.int 1))))))) (parV [0, 1] [(slE (var 0) none (some (op1 gNeg (cst (.int 1))))), (op2 gAddA (slE (var 1) (some (op1 gNeg (cst (.int 1)))) none) (slE (var 1) none (some (op1 gNeg (cst (.int 1))))))])) (retS (tupE [(var 0), (var 1)]))))
theorem sc_block_in : FnScope ["first", "numbers"] ["first", "numbers"] (defScope (top 20)) := ⟨rfl, rfl, rfl, by decide +kernel, rfl, by decide +kernel, by decide +kernel⟩
theorem ok_block_in {k : Nat} {dvs0 : List V} {dds : List D} {g_shortest_round : FF} (T : DefT K mg "block_in" ["first", "numbers"] (defArgs (top 20)) (defBody (top 20)) (defScope (top 20)) dvs0 dds) (c_shortest_round : OkF P w K mg base "shortest_round" k ["numbers"] [] g_shortest_round) : OkF P w K mg base "block_in" (k + 1) ["first", "numbers"] dds (S_block_in g_shortest_round) := by
  refine T.ok sc_block_in rfl (by decide) (fun f cdv A outer s H E hr => ?_)
  have nd := sc_block_in.nd
  exact (ss_cons (ss_set nd rfl (by first | exact .inl rfl | exact .inr rfl) (pe_cf c_shortest_round hr rfl (L2.takes_of rfl rfl rfl rfl) (pa_consV (pe_v (pv 1)) pa_nilA)))
    (ss_cons (ss_while (passes_of rfl) (PW.pt (pw_andB (pt_tru (pe_v (pv 0)) (fun _ => rfl)) (pw_and1 (pt_cmp2 (op_eqD hr.units) rs_eq (pe_ixE (pe_v (pv 0)) (pe_un1 un_neg rs_neg (pe_cst pe_int (fun _ => den_int _))) (fun _ _ => rfl)) (pe_ixE (pe_v (pv 1)) (pe_un1 un_neg rs_neg (pe_cst pe_int (fun _ => den_int _))) (fun _ _ => rfl)) (nomark _))))) (ss_one (ss_parV rfl nd rfl rfl (by decide) rfl rfl (pa_consL (pe_slE (pe_v (pv 0)) po_no (po_so (pe_un1 un_neg rs_neg (pe_cst pe_int (fun _ => den_int _))))) (pa_consL (pe_op2 op_addB rs_add (pe_slE (pe_v (pv 1)) (po_so (pe_un1 un_neg rs_neg (pe_cst pe_int (fun _ => den_int _)))) po_no) (pe_slE (pe_v (pv 1)) po_no (po_so (pe_un1 un_neg rs_neg (pe_cst pe_int (fun _ => den_int _)))))) pa_nilL)) rfl)))
    (ss_one (ss_ret (pe_tupE (pa_consL (pe_v (pv 0)) (pa_consL (pe_v (pv 1)) pa_nilL)) (Nat.le_of_ble_eq_true rfl))))))
def S_table_in (g_block_in : FF) : FF := fnOf 1 4 (seqS (asgS 1 (lcE (seqI (var 0)) [2, 3] (tgT [(tgN 2), (tgN 3)]) yesB (callE g_block_in [] [.v (var 2), .v (var 3)]))) (seqS (whS (andB (truB (var 1)) (asB (op2 gEq (ixE (var 1) (op1 gNeg (cst (.int 1)))) (cst (.tuple [.tuple [], .tuple [.int 0]]))))) (drpS (popE (var 1)))) (retS (cb1 gTuple (var 1)))))
theorem sc_table_in : FnScope ["blocks", "found", "first", "numbers"] ["blocks"] (defScope (top 21)) := ⟨rfl, rfl, rfl, by decide +kernel, rfl, by decide +kernel, by decide +kernel⟩
theorem ok_table_in {k : Nat} {dvs0 : List V} {dds : List D} {g_block_in : FF} (T : DefT K mg "table_in" ["blocks"] (defArgs (top 21)) (defBody (top 21)) (defScope (top 21)) dvs0 dds) (cg_NOTHING : CstG K mg "NOTHING" (.tuple [.tuple [], .tuple [.int 0]])) (fr_tuple : mg "tuple" = none) (c_block_in : OkF P w K mg base "block_in" k ["first", "numbers"] [] g_block_in) : OkF P w K mg base "table_in" (k + 1) ["blocks"] dds (S_table_in g_block_in) := by
  refine T.ok sc_table_in rfl (by decide) (fun f cdv A outer s H E hr => ?_)
  have nd := sc_table_in.nd
  exact (ss_cons (ss_setLcV rfl nd rfl rfl (sw_true rfl rfl rfl (by decide +kernel)) (pi_seqI (pe_v (pv 0))) (blkOk_by (own := [("first", 2), ("numbers", 3)]) (by show blkC ["blocks", "found", "first", "numbers"] (defScope (top 21)) _ _ = true; decide +kernel)) (fun _ _ _ _ _ => (pg_t rfl (pgs_c (pg_n (pg_name nd rfl (by first | exact .inl rfl | exact .inr rfl))) (pgs_c (pg_n (pg_name nd rfl (by first | exact .inl rfl | exact .inr rfl))) pgs_n)) rfl)) (fun _ _ _ _ _ => pts_yes) (fun _ _ _ _ _ => (pe_cf c_block_in hr rfl takes0 (pa_consV (pe_v (pv 2)) (pa_consV (pe_v (pv 3)) pa_nilA)))) (by decide))
    (ss_cons (ss_while (passes_of rfl) (PW.pt (pw_andB (pt_tru (pe_v (pv 1)) (fun _ => rfl)) (pw_and1 (pt_cmp2 (op_eqD hr.units) rs_eq (pe_ixE (pe_v (pv 1)) (pe_un1 un_neg rs_neg (pe_cst pe_int (fun _ => den_int _))) (fun _ _ => rfl)) (pe_cg cg_NOTHING rfl) (nomark _))))) (ss_one (ss_expr (pe_popE rfl (pe_v (pv 1))))))
    (ss_one (ss_ret (pe_ct1 call_tuple_of rc_tuple rfl fr_tuple (by decide +kernel) (pe_v (pv 1)))))))
def S_is_table (g_table_in g_are_blocks : FF) : FF := fnOf 1 1 (retS ((bE (andB (vB (callE g_are_blocks [] [.v (var 0)])) (vB (op2 gEq (callE g_table_in [] [.v (var 0)]) (var 0)))))))
theorem sc_is_table : FnScope ["value"] ["value"] (defScope (top 22)) := ⟨rfl, rfl, rfl, by decide +kernel, rfl, by decide +kernel, by decide +kernel⟩
theorem ok_is_table {k : Nat} {dvs0 : List V} {dds : List D} {g_table_in g_are_blocks : FF} (T : DefT K mg "is_table" ["value"] (defArgs (top 22)) (defBody (top 22)) (defScope (top 22)) dvs0 dds) (c_table_in : OkF P w K mg base "table_in" k ["blocks"] [] g_table_in) (c_are_blocks : OkF P w K mg base "are_blocks" k ["value"] [] g_are_blocks) : OkF P w K mg base "is_table" (k + 1) ["value"] dds (S_is_table g_table_in g_are_blocks) := by
  refine T.ok sc_is_table rfl (by decide) (fun f cdv A outer s H E hr => ?_)
  have nd := sc_is_table.nd
  exact (ss_one (ss_ret ((pe_andV (pe_cf c_are_blocks hr rfl (L2.takes_of rfl rfl rfl rfl) (pa_consV (pe_v (pv 0)) pa_nilA)) (pe_one (pe_cmp2 (op_eqD hr.units) rs_eq (pe_cf c_table_in hr rfl (L2.takes_of rfl rfl rfl rfl) (pa_consV (pe_v (pv 0)) pa_nilA)) (pe_v (pv 0)) (nomark _)))))))
def S_check_table (g_is_table : FF) : FF := fnOf 1 1 (ifS (notB (truB (callE g_is_table [] [.v (var 0)]))) (stuS) nxS)
theorem sc_check_table : FnScope ["value"] ["value"] (defScope (top 23)) := ⟨rfl, rfl, rfl, by decide +kernel, rfl, by decide +kernel, by decide +kernel⟩
theorem ok_check_table {k : Nat} {dvs0 : List V} {dds : List D} {g_is_table : FF} (T : DefT K mg "check_table" ["value"] (defArgs (top 23)) (defBody (top 23)) (defScope (top 23)) dvs0 dds) (c_is_table : OkF P w K mg base "is_table" k ["value"] [] g_is_table) : OkF P w K mg base "check_table" (k + 1) ["value"] dds (S_check_table g_is_table) := by
  refine T.ok sc_check_table rfl (by decide) (fun f cdv A outer s H E hr => ?_)
  have nd := sc_check_table.nd
  exact (ss_one (ss_if (pt_notB (pt_tru (pe_cf c_is_table hr rfl (L2.takes_of rfl rfl rfl rfl) (pa_consV (pe_v (pv 0)) pa_nilA)) (fun _ => rfl))) (ss_one (ss_stu)) ss_nil))
def S_block_number : FF := fnOf 2 4 (seqS (asgT (tgT [(tgN 2), (tgN 3)]) (var 0)) (seqS (ifS (asB (op2 gLt (var 1) (cb1 gLen (var 2)))) (retS (ixE (var 2) (var 1))) nxS) (retS (ixE (var 3) (op2 gMod (op2 gSub (var 1) (cb1 gLen (var 2))) (cb1 gLen (var 3)))))))
theorem sc_block_number : FnScope ["block", "n", "first", "numbers"] ["block", "n"] (defScope (top 24)) := ⟨rfl, rfl, rfl, by decide +kernel, rfl, by decide +kernel, by decide +kernel⟩
theorem ok_block_number {k : Nat} {dvs0 : List V} {dds : List D} (T : DefT K mg "block_number" ["block", "n"] (defArgs (top 24)) (defBody (top 24)) (defScope (top 24)) dvs0 dds) (fr_len : mg "len" = none) : OkF P w K mg base "block_number" (k + 1) ["block", "n"] dds (S_block_number) := by
  refine T.ok sc_block_number rfl (by decide) (fun f cdv A outer s H E hr => ?_)
  have nd := sc_block_number.nd
  exact (ss_cons (ss_asg (pe_v (pv 0)) (pg_t rfl (pgs_c (pg_n (pg_name nd rfl (by first | exact .inl rfl | exact .inr rfl))) (pgs_c (pg_n (pg_name nd rfl (by first | exact .inl rfl | exact .inr rfl))) pgs_n)) rfl))
    (ss_cons (ss_if (pt_cmp2 (op_ltD hr.units) rs_ord (pe_v (pv 1)) (pe_cb1 call_lenA rc_len rfl fr_len (by decide +kernel) (pe_v (pv 2))) (nomark _)) (ss_one (ss_ret (pe_ixE (pe_v (pv 2)) (pe_v (pv 1)) (fun _ _ => rfl)))) ss_nil)
    (ss_one (ss_ret (pe_ixE (pe_v (pv 3)) (pe_op2 op_mod rs_mod (pe_op2 op_sub rs_sub (pe_v (pv 1)) (pe_cb1 call_lenA rc_len rfl fr_len (by decide +kernel) (pe_v (pv 2)))) (pe_cb1 call_lenA rc_len rfl fr_len (by decide +kernel) (pe_v (pv 3)))) (fun _ _ => rfl))))))
def S_block_at : FF := fnOf 2 2 (retS (ifE (asB (op2 gLt (var 1) (cb1 gLen (var 0)))) (ixE (var 0) (var 1)) (cst (.tuple [.tuple [], .tuple [.int 0]]))))
theorem sc_block_at : FnScope ["table", "k"] ["table", "k"] (defScope (top 25)) := ⟨rfl, rfl, rfl, by decide +kernel, rfl, by decide +kernel, by decide +kernel⟩
theorem ok_block_at {k : Nat} {dvs0 : List V} {dds : List D} (T : DefT K mg "block_at" ["table", "k"] (defArgs (top 25)) (defBody (top 25)) (defScope (top 25)) dvs0 dds) (cg_NOTHING : CstG K mg "NOTHING" (.tuple [.tuple [], .tuple [.int 0]])) (fr_len : mg "len" = none) : OkF P w K mg base "block_at" (k + 1) ["table", "k"] dds (S_block_at) := by
  refine T.ok sc_block_at rfl (by decide) (fun f cdv A outer s H E hr => ?_)
  have nd := sc_block_at.nd
  exact (ss_one (ss_ret (pe_ifE (pt_cmp2 (op_ltD hr.units) rs_ord (pe_v (pv 1)) (pe_cb1 call_lenA rc_len rfl fr_len (by decide +kernel) (pe_v (pv 0))) (nomark _)) (pe_ixE (pe_v (pv 0)) (pe_v (pv 1)) (fun _ _ => rfl)) (pe_cg cg_NOTHING rfl))))
def S_number_in (g_block_number g_block_at : FF) : FF := fnOf 2 2 (retS (callE g_block_number [] [.v (callE g_block_at [] [.v (var 0), .v (ixE (var 1) (cst (.int 0)))]), .v (ixE (var 1) (cst (.int 1)))]))
theorem sc_number_in : FnScope ["table", "height"] ["table", "height"] (defScope (top 26)) := ⟨rfl, rfl, rfl, by decide +kernel, rfl, by decide +kernel, by decide +kernel⟩
theorem ok_number_in {k : Nat} {dvs0 : List V} {dds : List D} {g_block_number g_block_at : FF} (T : DefT K mg "number_in" ["table", "height"] (defArgs (top 26)) (defBody (top 26)) (defScope (top 26)) dvs0 dds) (c_block_number : OkF P w K mg base "block_number" k ["block", "n"] [] g_block_number) (c_block_at : OkF P w K mg base "block_at" k ["table", "k"] [] g_block_at) : OkF P w K mg base "number_in" (k + 1) ["table", "height"] dds (S_number_in g_block_number g_block_at) := by
  refine T.ok sc_number_in rfl (by decide) (fun f cdv A outer s H E hr => ?_)
  have nd := sc_number_in.nd
  exact (ss_one (ss_ret (pe_cf c_block_number hr rfl (L2.takes_of rfl rfl rfl rfl) (pa_consV (pe_cf c_block_at hr rfl (L2.takes_of rfl rfl rfl rfl) (pa_consV (pe_v (pv 0)) (pa_consV (pe_ixE (pe_v (pv 1)) (pe_cst pe_int (fun _ => den_int _)) (fun _ _ => rfl)) pa_nilA))) (pa_consV (pe_ixE (pe_v (pv 1)) (pe_cst pe_int (fun _ => den_int _)) (fun _ _ => rfl)) pa_nilA)))))
def S_number_at (g_number_in g_check_height g_check_table : FF) : FF := fnOf 2 2 (seqS (drpS (callE g_check_table [] [.v (var 0)])) (seqS (drpS (callE g_check_height [] [.v (var 1)])) (retS (callE g_number_in [] [.v (var 0), .v (var 1)]))))
theorem sc_number_at : FnScope ["table", "height"] ["table", "height"] (defScope (top 27)) := ⟨rfl, rfl, rfl, by decide +kernel, rfl, by decide +kernel, by decide +kernel⟩
theorem ok_number_at {k : Nat} {dvs0 : List V} {dds : List D} {g_number_in g_check_height g_check_table : FF} (T : DefT K mg "number_at" ["table", "height"] (defArgs (top 27)) (defBody (top 27)) (defScope (top 27)) dvs0 dds) (c_number_in : OkF P w K mg base "number_in" k ["table", "height"] [] g_number_in) (c_check_height : OkF P w K mg base "check_height" k ["value"] [] g_check_height) (c_check_table : OkF P w K mg base "check_table" k ["value"] [] g_check_table) : OkF P w K mg base "number_at" (k + 1) ["table", "height"] dds (S_number_at g_number_in g_check_height g_check_table) := by
  refine T.ok sc_number_at rfl (by decide) (fun f cdv A outer s H E hr => ?_)
  have nd := sc_number_at.nd
  exact (ss_cons (ss_expr (pe_cf c_check_table hr rfl (L2.takes_of rfl rfl rfl rfl) (pa_consV (pe_v (pv 0)) pa_nilA)))
    (ss_cons (ss_expr (pe_cf c_check_height hr rfl (L2.takes_of rfl rfl rfl rfl) (pa_consV (pe_v (pv 1)) pa_nilA)))
    (ss_one (ss_ret (pe_cf c_number_in hr rfl (L2.takes_of rfl rfl rfl rfl) (pa_consV (pe_v (pv 0)) (pa_consV (pe_v (pv 1)) pa_nilA)))))))
def S_plus_number : FF := fnOf 2 2 (retS (ifE (orB (asB (op2 gEq (var 0) (op1 gNeg (cst (.int 1))))) (asB (op2 gEq (var 1) (op1 gNeg (cst (.int 1)))))) (op1 gNeg (cst (.int 1))) (op2 gAddA (var 0) (var 1))))
theorem sc_plus_number : FnScope ["one", "other"] ["one", "other"] (defScope (top 28)) := ⟨rfl, rfl, rfl, by decide +kernel, rfl, by decide +kernel, by decide +kernel⟩
theorem ok_plus_number {k : Nat} {dvs0 : List V} {dds : List D} (T : DefT K mg "plus_number" ["one", "other"] (defArgs (top 28)) (defBody (top 28)) (defScope (top 28)) dvs0 dds)  : OkF P w K mg base "plus_number" (k + 1) ["one", "other"] dds (S_plus_number) := by
  refine T.ok sc_plus_number rfl (by decide) (fun f cdv A outer s H E hr => ?_)
  have nd := sc_plus_number.nd
  exact (ss_one (ss_ret (pe_ifE (PW.pt (pw_orB (pt_cmp2 (op_eqD hr.units) rs_eq (pe_v (pv 0)) (pe_un1 un_neg rs_neg (pe_cst pe_int (fun _ => den_int _))) (nomark _)) (pw_or1 (pt_cmp2 (op_eqD hr.units) rs_eq (pe_v (pv 1)) (pe_un1 un_neg rs_neg (pe_cst pe_int (fun _ => den_int _))) (nomark _))))) (pe_un1 un_neg rs_neg (pe_cst pe_int (fun _ => den_int _))) (pe_op2 op_addB rs_add (pe_v (pv 0)) (pe_v (pv 1))))))
def S_spans_of : FF := fnOf 2 2 (retS (tupE [(op2 gMax2 (cb1 gLen (ixE (var 0) (cst (.int 0)))) (cb1 gLen (ixE (var 1) (cst (.int 0))))), (op2 gLcm (cb1 gLen (ixE (var 0) (cst (.int 1)))) (cb1 gLen (ixE (var 1) (cst (.int 1)))))]))
theorem sc_spans_of : FnScope ["one", "other"] ["one", "other"] (defScope (top 29)) := ⟨rfl, rfl, rfl, by decide +kernel, rfl, by decide +kernel, by decide +kernel⟩
theorem ok_spans_of {k : Nat} {dvs0 : List V} {dds : List D} (T : DefT K mg "spans_of" ["one", "other"] (defArgs (top 29)) (defBody (top 29)) (defScope (top 29)) dvs0 dds) (fr_len : mg "len" = none) (fr_max : mg "max" = none) (im_lcm : mg "lcm" = some (.builtin "math.lcm")) : OkF P w K mg base "spans_of" (k + 1) ["one", "other"] dds (S_spans_of) := by
  refine T.ok sc_spans_of rfl (by decide) (fun f cdv A outer s H E hr => ?_)
  have nd := sc_spans_of.nd
  exact (ss_one (ss_ret (pe_tupE (pa_consL (pe_cb2 (call_max2D rfl hr.units) rc_max2 rfl fr_max (by decide +kernel) (pe_cb1 call_lenA rc_len rfl fr_len (by decide +kernel) (pe_ixE (pe_v (pv 0)) (pe_cst pe_int (fun _ => den_int _)) (fun _ _ => rfl))) (pe_cb1 call_lenA rc_len rfl fr_len (by decide +kernel) (pe_ixE (pe_v (pv 1)) (pe_cst pe_int (fun _ => den_int _)) (fun _ _ => rfl)))) (pa_consL (pe_cg2 call_lcm rc_lcm rfl im_lcm (pe_cb1 call_lenA rc_len rfl fr_len (by decide +kernel) (pe_ixE (pe_v (pv 0)) (pe_cst pe_int (fun _ => den_int _)) (fun _ _ => rfl))) (pe_cb1 call_lenA rc_len rfl fr_len (by decide +kernel) (pe_ixE (pe_v (pv 1)) (pe_cst pe_int (fun _ => den_int _)) (fun _ _ => rfl)))) pa_nilL)) (Nat.le_of_ble_eq_true rfl))))
def S_unlike_in (g_spans_of g_block_number g_block_at : FF) : FF := fnOf 2 6 (seqS (forS (rngI1 (op2 gMax2 (cb1 gLen (var 0)) (cb1 gLen (var 1)))) (tgN 2) (seqS (parV [4, 5] [(callE g_block_at [] [.v (var 0), .v (var 2)]), (callE g_block_at [] [.v (var 1), .v (var 2)])]) (forS (rngI1 (cb1 gSum (callE g_spans_of [] [.v (var 4), .v (var 5)]))) (tgN 3) (ifS (asB (op2 gNe (callE g_block_number [] [.v (var 4), .v (var 3)]) (callE g_block_number [] [.v (var 5), .v (var 3)]))) (retS (tupE [(var 2), (var 3)])) nxS)))) (retS (cst .none)))
theorem sc_unlike_in : FnScope ["table", "other", "k", "n", "one", "two"] ["table", "other"] (defScope (top 30)) := ⟨rfl, rfl, rfl, by decide +kernel, rfl, by decide +kernel, by decide +kernel⟩
theorem ok_unlike_in {k : Nat} {dvs0 : List V} {dds : List D} {g_spans_of g_block_number g_block_at : FF} (T : DefT K mg "unlike_in" ["table", "other"] (defArgs (top 30)) (defBody (top 30)) (defScope (top 30)) dvs0 dds) (fr_len : mg "len" = none) (fr_max : mg "max" = none) (fr_range : mg "range" = none) (fr_sum : mg "sum" = none) (c_spans_of : OkF P w K mg base "spans_of" k ["one", "other"] [] g_spans_of) (c_block_number : OkF P w K mg base "block_number" k ["block", "n"] [] g_block_number) (c_block_at : OkF P w K mg base "block_at" k ["table", "k"] [] g_block_at) : OkF P w K mg base "unlike_in" (k + 1) ["table", "other"] dds (S_unlike_in g_spans_of g_block_number g_block_at) := by
  refine T.ok sc_unlike_in rfl (by decide) (fun f cdv A outer s H E hr => ?_)
  have nd := sc_unlike_in.nd
  exact (ss_cons (ss_for (passes_of rfl) rfl (pi_rng1 rfl fr_range (pe_cb2 (call_max2D rfl hr.units) rc_max2 rfl fr_max (by decide +kernel) (pe_cb1 call_lenA rc_len rfl fr_len (by decide +kernel) (pe_v (pv 0))) (pe_cb1 call_lenA rc_len rfl fr_len (by decide +kernel) (pe_v (pv 1))))) (pg_n (pg_name nd rfl (by first | exact .inl rfl | exact .inr rfl))) (ss_cons (ss_parV rfl nd rfl rfl (by decide) rfl rfl (pa_consL (pe_cf c_block_at hr rfl (L2.takes_of rfl rfl rfl rfl) (pa_consV (pe_v (pv 0)) (pa_consV (pe_v (pv 2)) pa_nilA))) (pa_consL (pe_cf c_block_at hr rfl (L2.takes_of rfl rfl rfl rfl) (pa_consV (pe_v (pv 1)) (pa_consV (pe_v (pv 2)) pa_nilA))) pa_nilL)) rfl)
    (ss_one (ss_for (passes_of rfl) rfl (pi_rng1 rfl fr_range (pe_cb1 (call_sumA rfl) rc_sum rfl fr_sum (by decide +kernel) (pe_cf c_spans_of hr rfl (L2.takes_of rfl rfl rfl rfl) (pa_consV (pe_v (pv 4)) (pa_consV (pe_v (pv 5)) pa_nilA))))) (pg_n (pg_name nd rfl (by first | exact .inl rfl | exact .inr rfl))) (ss_one (ss_if (pt_cmp2 (op_neD hr.units) rs_ne (pe_cf c_block_number hr rfl (L2.takes_of rfl rfl rfl rfl) (pa_consV (pe_v (pv 4)) (pa_consV (pe_v (pv 3)) pa_nilA))) (pe_cf c_block_number hr rfl (L2.takes_of rfl rfl rfl rfl) (pa_consV (pe_v (pv 5)) (pa_consV (pe_v (pv 3)) pa_nilA))) (nomark _)) (ss_one (ss_ret (pe_tupE (pa_consL (pe_v (pv 2)) (pa_consL (pe_v (pv 3)) pa_nilL)) (Nat.le_of_ble_eq_true rfl)))) ss_nil))))))
    (ss_one (ss_ret (pe_cst pe_non (fun _ => den_non)))))
def S_unlike_at (g_unlike_in g_check_table : FF) : FF := fnOf 2 2 (seqS (drpS (callE g_check_table [] [.v (var 0)])) (seqS (drpS (callE g_check_table [] [.v (var 1)])) (retS (callE g_unlike_in [] [.v (var 0), .v (var 1)]))))
theorem sc_unlike_at : FnScope ["table", "other"] ["table", "other"] (defScope (top 31)) := ⟨rfl, rfl, rfl, by decide +kernel, rfl, by decide +kernel, by decide +kernel⟩
theorem ok_unlike_at {k : Nat} {dvs0 : List V} {dds : List D} {g_unlike_in g_check_table : FF} (T : DefT K mg "unlike_at" ["table", "other"] (defArgs (top 31)) (defBody (top 31)) (defScope (top 31)) dvs0 dds) (c_unlike_in : OkF P w K mg base "unlike_in" k ["table", "other"] [] g_unlike_in) (c_check_table : OkF P w K mg base "check_table" k ["value"] [] g_check_table) : OkF P w K mg base "unlike_at" (k + 1) ["table", "other"] dds (S_unlike_at g_unlike_in g_check_table) := by
  refine T.ok sc_unlike_at rfl (by decide) (fun f cdv A outer s H E hr => ?_)
  have nd := sc_unlike_at.nd
  exact (ss_cons (ss_expr (pe_cf c_check_table hr rfl (L2.takes_of rfl rfl rfl rfl) (pa_consV (pe_v (pv 0)) pa_nilA)))
    (ss_cons (ss_expr (pe_cf c_check_table hr rfl (L2.takes_of rfl rfl rfl rfl) (pa_consV (pe_v (pv 1)) pa_nilA)))
    (ss_one (ss_ret (pe_cf c_unlike_in hr rfl (L2.takes_of rfl rfl rfl rfl) (pa_consV (pe_v (pv 0)) (pa_consV (pe_v (pv 1)) pa_nilA)))))))
def S_shifted (g_block_in : FF) : FF := fnOf 2 5 (seqS (asgT (tgT [(tgN 3), (tgN 4)]) (var 0)) (seqS (ifS (asB (op2 gLe (var 1) (cb1 gLen (var 3)))) (retS (callE g_block_in [] [.v (slE (var 3) (some (var 1)) none), .v (var 4)])) nxS) (seqS (asgS 2 (op2 gMod (op2 gSub (var 1) (cb1 gLen (var 3))) (cb1 gLen (var 4)))) (retS (callE g_block_in [] [.v (tupE []), .v (op2 gAddA (slE (var 4) (some (var 2)) none) (slE (var 4) none (some (var 2))))])))))
theorem sc_shifted : FnScope ["block", "n", "turned", "first", "numbers"] ["block", "n"] (defScope (top 32)) := ⟨rfl, rfl, rfl, by decide +kernel, rfl, by decide +kernel, by decide +kernel⟩
theorem ok_shifted {k : Nat} {dvs0 : List V} {dds : List D} {g_block_in : FF} (T : DefT K mg "shifted" ["block", "n"] (defArgs (top 32)) (defBody (top 32)) (defScope (top 32)) dvs0 dds) (fr_len : mg "len" = none) (c_block_in : OkF P w K mg base "block_in" k ["first", "numbers"] [] g_block_in) : OkF P w K mg base "shifted" (k + 1) ["block", "n"] dds (S_shifted g_block_in) := by
  refine T.ok sc_shifted rfl (by decide) (fun f cdv A outer s H E hr => ?_)
  have nd := sc_shifted.nd
  exact (ss_cons (ss_asg (pe_v (pv 0)) (pg_t rfl (pgs_c (pg_n (pg_name nd rfl (by first | exact .inl rfl | exact .inr rfl))) (pgs_c (pg_n (pg_name nd rfl (by first | exact .inl rfl | exact .inr rfl))) pgs_n)) rfl))
    (ss_cons (ss_if (pt_cmp2 (op_leD hr.units) rs_ord (pe_v (pv 1)) (pe_cb1 call_lenA rc_len rfl fr_len (by decide +kernel) (pe_v (pv 3))) (nomark _)) (ss_one (ss_ret (pe_cf c_block_in hr rfl (L2.takes_of rfl rfl rfl rfl) (pa_consV (pe_slE (pe_v (pv 3)) (po_so (pe_v (pv 1))) po_no) (pa_consV (pe_v (pv 4)) pa_nilA))))) ss_nil)
    (ss_cons (ss_set nd rfl (by first | exact .inl rfl | exact .inr rfl) (pe_op2 op_mod rs_mod (pe_op2 op_sub rs_sub (pe_v (pv 1)) (pe_cb1 call_lenA rc_len rfl fr_len (by decide +kernel) (pe_v (pv 3)))) (pe_cb1 call_lenA rc_len rfl fr_len (by decide +kernel) (pe_v (pv 4)))))
    (ss_one (ss_ret (pe_cf c_block_in hr rfl (L2.takes_of rfl rfl rfl rfl) (pa_consV (pe_tupE pa_nilL (Nat.le_of_ble_eq_true rfl)) (pa_consV (pe_op2 op_addB rs_add (pe_slE (pe_v (pv 4)) (po_so (pe_v (pv 2))) po_no) (pe_slE (pe_v (pv 4)) po_no (po_so (pe_v (pv 2))))) pa_nilA))))))))
def S_tail_in (g_table_in g_shifted g_block_at : FF) : FF := fnOf 2 4 (seqS (asgT (tgT [(tgN 2), (tgN 3)]) (var 1)) (retS (callE g_table_in [] [.v (op2 gAddA (tupE [(callE g_shifted [] [.v (callE g_block_at [] [.v (var 0), .v (var 2)]), .v (var 3)])]) (slE (var 0) (some (op2 gAddA (var 2) (cst (.int 1)))) none))])))
theorem sc_tail_in : FnScope ["table", "height", "k", "n"] ["table", "height"] (defScope (top 33)) := ⟨rfl, rfl, rfl, by decide +kernel, rfl, by decide +kernel, by decide +kernel⟩
theorem ok_tail_in {k : Nat} {dvs0 : List V} {dds : List D} {g_table_in g_shifted g_block_at : FF} (T : DefT K mg "tail_in" ["table", "height"] (defArgs (top 33)) (defBody (top 33)) (defScope (top 33)) dvs0 dds) (c_table_in : OkF P w K mg base "table_in" k ["blocks"] [] g_table_in) (c_shifted : OkF P w K mg base "shifted" k ["block", "n"] [] g_shifted) (c_block_at : OkF P w K mg base "block_at" k ["table", "k"] [] g_block_at) : OkF P w K mg base "tail_in" (k + 1) ["table", "height"] dds (S_tail_in g_table_in g_shifted g_block_at) := by
  refine T.ok sc_tail_in rfl (by decide) (fun f cdv A outer s H E hr => ?_)
  have nd := sc_tail_in.nd
  exact (ss_cons (ss_asg (pe_v (pv 1)) (pg_t rfl (pgs_c (pg_n (pg_name nd rfl (by first | exact .inl rfl | exact .inr rfl))) (pgs_c (pg_n (pg_name nd rfl (by first | exact .inl rfl | exact .inr rfl))) pgs_n)) rfl))
    (ss_one (ss_ret (pe_cf c_table_in hr rfl (L2.takes_of rfl rfl rfl rfl) (pa_consV (pe_op2 op_addB rs_add (pe_tupE (pa_consL (pe_cf c_shifted hr rfl (L2.takes_of rfl rfl rfl rfl) (pa_consV (pe_cf c_block_at hr rfl (L2.takes_of rfl rfl rfl rfl) (pa_consV (pe_v (pv 0)) (pa_consV (pe_v (pv 2)) pa_nilA))) (pa_consV (pe_v (pv 3)) pa_nilA))) pa_nilL) (Nat.le_of_ble_eq_true rfl)) (pe_slE (pe_v (pv 0)) (po_so (pe_op2 op_addB rs_add (pe_v (pv 2)) (pe_cst pe_int (fun _ => den_int _)))) po_no)) pa_nilA)))))
def S_tail_of (g_tail_in g_check_height g_check_table : FF) : FF := fnOf 2 2 (seqS (drpS (callE g_check_table [] [.v (var 0)])) (seqS (drpS (callE g_check_height [] [.v (var 1)])) (retS (callE g_tail_in [] [.v (var 0), .v (var 1)]))))
theorem sc_tail_of : FnScope ["table", "height"] ["table", "height"] (defScope (top 34)) := ⟨rfl, rfl, rfl, by decide +kernel, rfl, by decide +kernel, by decide +kernel⟩
theorem ok_tail_of {k : Nat} {dvs0 : List V} {dds : List D} {g_tail_in g_check_height g_check_table : FF} (T : DefT K mg "tail_of" ["table", "height"] (defArgs (top 34)) (defBody (top 34)) (defScope (top 34)) dvs0 dds) (c_tail_in : OkF P w K mg base "tail_in" k ["table", "height"] [] g_tail_in) (c_check_height : OkF P w K mg base "check_height" k ["value"] [] g_check_height) (c_check_table : OkF P w K mg base "check_table" k ["value"] [] g_check_table) : OkF P w K mg base "tail_of" (k + 1) ["table", "height"] dds (S_tail_of g_tail_in g_check_height g_check_table) := by
  refine T.ok sc_tail_of rfl (by decide) (fun f cdv A outer s H E hr => ?_)
  have nd := sc_tail_of.nd
  exact (ss_cons (ss_expr (pe_cf c_check_table hr rfl (L2.takes_of rfl rfl rfl rfl) (pa_consV (pe_v (pv 0)) pa_nilA)))
    (ss_cons (ss_expr (pe_cf c_check_height hr rfl (L2.takes_of rfl rfl rfl rfl) (pa_consV (pe_v (pv 1)) pa_nilA)))
    (ss_one (ss_ret (pe_cf c_tail_in hr rfl (L2.takes_of rfl rfl rfl rfl) (pa_consV (pe_v (pv 0)) (pa_consV (pe_v (pv 1)) pa_nilA)))))))
def S_is_term (g_is_integer g_is_natural_d1 : FF) : FF := fnOf 1 1 (seqS (ifS (orB (notB (truB (isiE "tuple" (var 0)))) (asB (op2 gNe (cb1 gLen (var 0)) (cst (.int 4))))) (retS (cst (.bool false))) nxS) (seqS (ifS (orB (notB (truB (callE g_is_natural_d1 [.int 0] [.v (ixE (var 0) (cst (.int 0)))]))) (orB (notB (truB (callE g_is_natural_d1 [.int 0] [.v (ixE (var 0) (cst (.int 1)))]))) (notB (truB (callE g_is_integer [] [.v (ixE (var 0) (cst (.int 2)))]))))) (retS (cst (.bool false))) nxS) (retS ((bE (orB (vB (op2 gEq (ixE (var 0) (cst (.int 2))) (op1 gNeg (cst (.int 1))))) (vB (op2 gGt (ixE (var 0) (cst (.int 2))) (cst (.int 0))))))))))
theorem sc_is_term : FnScope ["value"] ["value"] (defScope (top 36)) := ⟨rfl, rfl, rfl, by decide +kernel, rfl, by decide +kernel, by decide +kernel⟩
theorem ok_is_term {k : Nat} {dvs0 : List V} {dds : List D} {g_is_integer g_is_natural_d1 : FF} (T : DefT K mg "is_term" ["value"] (defArgs (top 36)) (defBody (top 36)) (defScope (top 36)) dvs0 dds) (fr_isinstance : mg "isinstance" = none) (fr_len : mg "len" = none) (fr_tuple : mg "tuple" = none) (c_is_integer : OkF P w K mg base "is_integer" k ["value"] [] g_is_integer) (c_is_natural_d1 : OkF P w K mg base "is_natural" k ["value", "least"] [.int 0] g_is_natural_d1) : OkF P w K mg base "is_term" (k + 1) ["value"] dds (S_is_term g_is_integer g_is_natural_d1) := by
  refine T.ok sc_is_term rfl (by decide) (fun f cdv A outer s H E hr => ?_)
  have nd := sc_is_term.nd
  exact (ss_cons (ss_if (PW.pt (pw_orB (pt_notB (pt_tru (pe_isi rfl fr_isinstance (pe_v (pv 0)) (pe_bltn rfl fr_tuple (by decide +kernel) rfl)) (fun _ => rfl))) (pw_or1 (pt_cmp2 (op_neD hr.units) rs_ne (pe_cb1 call_lenA rc_len rfl fr_len (by decide +kernel) (pe_v (pv 0))) (pe_cst pe_int (fun _ => den_int _)) (nomark _))))) (ss_one (ss_ret (pe_cst pe_bl (fun _ => den_bl _)))) ss_nil)
    (ss_cons (ss_if (PW.pt (pw_orB (pt_notB (pt_tru (pe_cf c_is_natural_d1 hr rfl (L2.takes_of rfl rfl rfl rfl) (pa_consV (pe_ixE (pe_v (pv 0)) (pe_cst pe_int (fun _ => den_int _)) (fun _ _ => rfl)) pa_nilA)) (fun _ => rfl))) (pw_orB (pt_notB (pt_tru (pe_cf c_is_natural_d1 hr rfl (L2.takes_of rfl rfl rfl rfl) (pa_consV (pe_ixE (pe_v (pv 0)) (pe_cst pe_int (fun _ => den_int _)) (fun _ _ => rfl)) pa_nilA)) (fun _ => rfl))) (pw_or1 (pt_notB (pt_tru (pe_cf c_is_integer hr rfl (L2.takes_of rfl rfl rfl rfl) (pa_consV (pe_ixE (pe_v (pv 0)) (pe_cst pe_int (fun _ => den_int _)) (fun _ _ => rfl)) pa_nilA)) (fun _ => rfl))))))) (ss_one (ss_ret (pe_cst pe_bl (fun _ => den_bl _)))) ss_nil)
    (ss_one (ss_ret ((pe_orV (pe_cmp2 (op_eqD hr.units) rs_eq (pe_ixE (pe_v (pv 0)) (pe_cst pe_int (fun _ => den_int _)) (fun _ _ => rfl)) (pe_un1 un_neg rs_neg (pe_cst pe_int (fun _ => den_int _))) (nomark _)) (pe_one (pe_cmp2 (op_gtD hr.units) rs_ord (pe_ixE (pe_v (pv 0)) (pe_cst pe_int (fun _ => den_int _)) (fun _ _ => rfl)) (pe_cst pe_int (fun _ => den_int _)) (nomark _)))))))))
def S_is_forest (g_is_term : FF) : FF := fnOf 1 4 (seqS (asgS 1 (lstE [(var 0)])) (seqS (whS (truB (var 1)) (seqS (asgS 2 (popE (var 1))) (seqS (ifS (orB (notB (truB (isiE "tuple" (var 2)))) (notB (truB (cb1 gAll (lcE (seqI (var 2)) [3] (tgN 3) yesB (callE g_is_term [] [.v (var 3)])))))) (retS (cst (.bool false))) nxS) (drpS (extE (var 1) (lcE (seqI (var 2)) [3] (tgN 3) yesB (ixE (var 3) (cst (.int 3))))))))) (retS (cst (.bool true)))))
theorem sc_is_forest : FnScope ["value", "waiting", "forest", "term"] ["value"] (defScope (top 37)) := ⟨rfl, rfl, rfl, by decide +kernel, rfl, by decide +kernel, by decide +kernel⟩
theorem ok_is_forest {k : Nat} {dvs0 : List V} {dds : List D} {g_is_term : FF} (T : DefT K mg "is_forest" ["value"] (defArgs (top 37)) (defBody (top 37)) (defScope (top 37)) dvs0 dds) (fr_all : mg "all" = none) (fr_isinstance : mg "isinstance" = none) (fr_tuple : mg "tuple" = none) (c_is_term : OkF P w K mg base "is_term" k ["value"] [] g_is_term) : OkF P w K mg base "is_forest" (k + 1) ["value"] dds (S_is_forest g_is_term) := by
  refine T.ok sc_is_forest rfl (by decide) (fun f cdv A outer s H E hr => ?_)
  have nd := sc_is_forest.nd
  exact (ss_cons (ss_set nd rfl (by first | exact .inl rfl | exact .inr rfl) (pe_lstE (pa_consL (pe_v (pv 0)) pa_nilL) (Nat.le_of_ble_eq_true rfl)))
    (ss_cons (ss_while (passes_of rfl) (pt_tru (pe_v (pv 1)) (fun _ => rfl)) (ss_cons (ss_set nd rfl (by first | exact .inl rfl | exact .inr rfl) (pe_popE rfl (pe_v (pv 1))))
    (ss_cons (ss_if (PW.pt (pw_orB (pt_notB (pt_tru (pe_isi rfl fr_isinstance (pe_v (pv 2)) (pe_bltn rfl fr_tuple (by decide +kernel) rfl)) (fun _ => rfl))) (pw_or1 (pt_notB (pt_tru (pe_cb1 (cr_all rfl) rc_all rfl fr_all (by decide +kernel) (pe_lcV rfl nd (pi_seqI (pe_v (pv 2))) (blkOk_by (own := [("term", 3)]) (by show blkC ["value", "waiting", "forest", "term"] (defScope (top 37)) _ _ = true; decide +kernel)) (fun _ _ _ _ _ => (pg_n (pg_name nd rfl (by first | exact .inl rfl | exact .inr rfl)))) (fun _ _ _ _ _ => pts_yes) (fun _ _ _ _ _ => (pe_cf c_is_term hr rfl takes0 (pa_consV (pe_v (pv 3)) pa_nilA))) (by decide))) (fun _ => rfl)))))) (ss_one (ss_ret (pe_cst pe_bl (fun _ => den_bl _)))) ss_nil)
    (ss_one (ss_expr (pe_extE rfl (pe_v (pv 1)) (pe_lcV rfl nd (pi_seqI (pe_v (pv 2))) (blkOk_by (own := [("term", 3)]) (by show blkC ["value", "waiting", "forest", "term"] (defScope (top 37)) _ _ = true; decide +kernel)) (fun _ _ _ _ _ => (pg_n (pg_name nd rfl (by first | exact .inl rfl | exact .inr rfl)))) (fun _ _ _ _ _ => pts_yes) (fun _ _ _ _ _ => (pe_ixE (pe_v (pv 3)) (pe_cst pe_int (fun _ => den_int _)) (fun _ _ => rfl))) (by decide))))))))
    (ss_one (ss_ret (pe_cst pe_bl (fun _ => den_bl _))))))
def S_check_forest (g_is_forest : FF) : FF := fnOf 1 1 (ifS (notB (truB (callE g_is_forest [] [.v (var 0)]))) (stuS) nxS)
theorem sc_check_forest : FnScope ["value"] ["value"] (defScope (top 38)) := ⟨rfl, rfl, rfl, by decide +kernel, rfl, by decide +kernel, by decide +kernel⟩
theorem ok_check_forest {k : Nat} {dvs0 : List V} {dds : List D} {g_is_forest : FF} (T : DefT K mg "check_forest" ["value"] (defArgs (top 38)) (defBody (top 38)) (defScope (top 38)) dvs0 dds) (c_is_forest : OkF P w K mg base "is_forest" k ["value"] [] g_is_forest) : OkF P w K mg base "check_forest" (k + 1) ["value"] dds (S_check_forest g_is_forest) := by
  refine T.ok sc_check_forest rfl (by decide) (fun f cdv A outer s H E hr => ?_)
  have nd := sc_check_forest.nd
  exact (ss_one (ss_if (pt_notB (pt_tru (pe_cf c_is_forest hr rfl (L2.takes_of rfl rfl rfl rfl) (pa_consV (pe_v (pv 0)) pa_nilA)) (fun _ => rfl))) (ss_one (ss_stu)) ss_nil))
def S_top_in (g_top_in : FF) : FF := fnOf 1 8 (seqS (asgS 1 (tupE [(cst (.int 0)), (cst (.int 0))])) (seqS (forS (seqI (var 0)) (tgT [(tgN 2), (tgN 3), (tgN 4), (tgN 5)]) (seqS (asgT (tgT [(tgN 6), (tgN 7)]) (callE g_top_in [] [.v (var 5)])) (asgS 1 (op2 gMax2 (var 1) (ifE (asB (op2 gGt (var 3) (cst (.int 0)))) (tupE [(op2 gAddA (var 6) (cst (.int 1))), (cst (.int 0))]) (tupE [(var 6), (op2 gAddA (op2 gAddA (var 7) (var 2)) (cst (.int 1)))])))))) (retS (var 1))))
theorem sc_top_in : FnScope ["forest", "found", "a", "d", "_", "inner", "k", "n"] ["forest"] (defScope (top 39)) := ⟨rfl, rfl, rfl, by decide +kernel, rfl, by decide +kernel, by decide +kernel⟩
theorem ok_top_in {k : Nat} {dvs0 : List V} {dds : List D} {g_top_in : FF} (T : DefT K mg "top_in" ["forest"] (defArgs (top 39)) (defBody (top 39)) (defScope (top 39)) dvs0 dds) (fr_max : mg "max" = none) (c_top_in : OkF P w K mg base "top_in" k ["forest"] [] g_top_in) : OkF P w K mg base "top_in" (k + 1) ["forest"] dds (S_top_in g_top_in) := by
  refine T.ok sc_top_in rfl (by decide) (fun f cdv A outer s H E hr => ?_)
  have nd := sc_top_in.nd
  exact (ss_cons (ss_set nd rfl (by first | exact .inl rfl | exact .inr rfl) (pe_tupE (pa_consL (pe_cst pe_int (fun _ => den_int _)) (pa_consL (pe_cst pe_int (fun _ => den_int _)) pa_nilL)) (Nat.le_of_ble_eq_true rfl)))
    (ss_cons (ss_for (passes_of rfl) rfl (pi_seqI (pe_v (pv 0))) (pg_t rfl (pgs_c (pg_n (pg_name nd rfl (by first | exact .inl rfl | exact .inr rfl))) (pgs_c (pg_n (pg_name nd rfl (by first | exact .inl rfl | exact .inr rfl))) (pgs_c (pg_n (pg_name nd rfl (by first | exact .inl rfl | exact .inr rfl))) (pgs_c (pg_n (pg_name nd rfl (by first | exact .inl rfl | exact .inr rfl))) pgs_n)))) rfl) (ss_cons (ss_asg (pe_cf c_top_in hr rfl (L2.takes_of rfl rfl rfl rfl) (pa_consV (pe_v (pv 5)) pa_nilA)) (pg_t rfl (pgs_c (pg_n (pg_name nd rfl (by first | exact .inl rfl | exact .inr rfl))) (pgs_c (pg_n (pg_name nd rfl (by first | exact .inl rfl | exact .inr rfl))) pgs_n)) rfl))
    (ss_one (ss_set nd rfl (by first | exact .inl rfl | exact .inr rfl) (pe_cb2 (call_max2D rfl hr.units) rc_max2 rfl fr_max (by decide +kernel) (pe_v (pv 1)) (pe_ifE (pt_cmp2 (op_gtD hr.units) rs_ord (pe_v (pv 3)) (pe_cst pe_int (fun _ => den_int _)) (nomark _)) (pe_tupE (pa_consL (pe_op2 op_addB rs_add (pe_v (pv 6)) (pe_cst pe_int (fun _ => den_int _))) (pa_consL (pe_cst pe_int (fun _ => den_int _)) pa_nilL)) (Nat.le_of_ble_eq_true rfl)) (pe_tupE (pa_consL (pe_v (pv 6)) (pa_consL (pe_op2 op_addB rs_add (pe_op2 op_addB rs_add (pe_v (pv 7)) (pe_v (pv 2))) (pe_cst pe_int (fun _ => den_int _))) pa_nilL)) (Nat.le_of_ble_eq_true rfl))))))))
    (ss_one (ss_ret (pe_v (pv 1))))))
def S_top_height (g_top_in g_check_forest : FF) : FF := fnOf 1 1 (seqS (drpS (callE g_check_forest [] [.v (var 0)])) (retS (callE g_top_in [] [.v (var 0)])))
theorem sc_top_height : FnScope ["forest"] ["forest"] (defScope (top 40)) := ⟨rfl, rfl, rfl, by decide +kernel, rfl, by decide +kernel, by decide +kernel⟩
theorem ok_top_height {k : Nat} {dvs0 : List V} {dds : List D} {g_top_in g_check_forest : FF} (T : DefT K mg "top_height" ["forest"] (defArgs (top 40)) (defBody (top 40)) (defScope (top 40)) dvs0 dds) (c_top_in : OkF P w K mg base "top_in" k ["forest"] [] g_top_in) (c_check_forest : OkF P w K mg base "check_forest" k ["value"] [] g_check_forest) : OkF P w K mg base "top_height" (k + 1) ["forest"] dds (S_top_height g_top_in g_check_forest) := by
  refine T.ok sc_top_height rfl (by decide) (fun f cdv A outer s H E hr => ?_)
  have nd := sc_top_height.nd
  exact (ss_cons (ss_expr (pe_cf c_check_forest hr rfl (L2.takes_of rfl rfl rfl rfl) (pa_consV (pe_v (pv 0)) pa_nilA)))
    (ss_one (ss_ret (pe_cf c_top_in hr rfl (L2.takes_of rfl rfl rfl rfl) (pa_consV (pe_v (pv 0)) pa_nilA)))))
def S_times_number : FF := fnOf 2 2 (seqS (ifS (orB (asB (op2 gEq (var 0) (cst (.int 0)))) (asB (op2 gEq (var 1) (cst (.int 0))))) (retS (cst (.int 0))) nxS) (retS (ifE (orB (asB (op2 gEq (var 0) (op1 gNeg (cst (.int 1))))) (asB (op2 gEq (var 1) (op1 gNeg (cst (.int 1)))))) (op1 gNeg (cst (.int 1))) (op2 gMul (var 0) (var 1)))))
theorem sc_times_number : FnScope ["many", "number"] ["many", "number"] (defScope (top 41)) := ⟨rfl, rfl, rfl, by decide +kernel, rfl, by decide +kernel, by decide +kernel⟩
theorem ok_times_number {k : Nat} {dvs0 : List V} {dds : List D} (T : DefT K mg "times_number" ["many", "number"] (defArgs (top 41)) (defBody (top 41)) (defScope (top 41)) dvs0 dds)  : OkF P w K mg base "times_number" (k + 1) ["many", "number"] dds (S_times_number) := by
  refine T.ok sc_times_number rfl (by decide) (fun f cdv A outer s H E hr => ?_)
  have nd := sc_times_number.nd
  exact (ss_cons (ss_if (PW.pt (pw_orB (pt_cmp2 (op_eqD hr.units) rs_eq (pe_v (pv 0)) (pe_cst pe_int (fun _ => den_int _)) (nomark _)) (pw_or1 (pt_cmp2 (op_eqD hr.units) rs_eq (pe_v (pv 1)) (pe_cst pe_int (fun _ => den_int _)) (nomark _))))) (ss_one (ss_ret (pe_cst pe_int (fun _ => den_int _)))) ss_nil)
    (ss_one (ss_ret (pe_ifE (PW.pt (pw_orB (pt_cmp2 (op_eqD hr.units) rs_eq (pe_v (pv 0)) (pe_un1 un_neg rs_neg (pe_cst pe_int (fun _ => den_int _))) (nomark _)) (pw_or1 (pt_cmp2 (op_eqD hr.units) rs_eq (pe_v (pv 1)) (pe_un1 un_neg rs_neg (pe_cst pe_int (fun _ => den_int _))) (nomark _))))) (pe_un1 un_neg rs_neg (pe_cst pe_int (fun _ => den_int _))) (pe_op2 op_mulA rs_mul (pe_v (pv 0)) (pe_v (pv 1)))))))
def S_size_in (g_size_in : FF) : FF := fnOf 1 7 (seqS (asgS 1 (cst (.int 0))) (seqS (forS (seqI (var 0)) (tgT [(tgN 2), (tgN 3), (tgN 4), (tgN 5)]) (seqS (asgS 6 (callE g_size_in [] [.v (var 5)])) (seqS (ifS (orB (asB (op2 gGt (var 3) (cst (.int 0)))) (orB (asB (op2 gEq (var 4) (op1 gNeg (cst (.int 1))))) (asB (op2 gIsN (var 6) (cst .none))))) (retS (cst .none)) nxS) (augS 1 (fun i j => i + j) (op2 gMul (var 4) (op2 gAddA (op2 gAddA (var 2) (cst (.int 1))) (var 6))))))) (retS (var 1))))
theorem sc_size_in : FnScope ["forest", "total", "a", "d", "m", "inner", "size"] ["forest"] (defScope (top 42)) := ⟨rfl, rfl, rfl, by decide +kernel, rfl, by decide +kernel, by decide +kernel⟩
theorem ok_size_in {k : Nat} {dvs0 : List V} {dds : List D} {g_size_in : FF} (T : DefT K mg "size_in" ["forest"] (defArgs (top 42)) (defBody (top 42)) (defScope (top 42)) dvs0 dds) (c_size_in : OkF P w K mg base "size_in" k ["forest"] [] g_size_in) : OkF P w K mg base "size_in" (k + 1) ["forest"] dds (S_size_in g_size_in) := by
  refine T.ok sc_size_in rfl (by decide) (fun f cdv A outer s H E hr => ?_)
  have nd := sc_size_in.nd
  exact (ss_cons (ss_set nd rfl (by first | exact .inl rfl | exact .inr rfl) (pe_cst pe_int (fun _ => den_int _)))
    (ss_cons (ss_for (passes_of rfl) rfl (pi_seqI (pe_v (pv 0))) (pg_t rfl (pgs_c (pg_n (pg_name nd rfl (by first | exact .inl rfl | exact .inr rfl))) (pgs_c (pg_n (pg_name nd rfl (by first | exact .inl rfl | exact .inr rfl))) (pgs_c (pg_n (pg_name nd rfl (by first | exact .inl rfl | exact .inr rfl))) (pgs_c (pg_n (pg_name nd rfl (by first | exact .inl rfl | exact .inr rfl))) pgs_n)))) rfl) (ss_cons (ss_set nd rfl (by first | exact .inl rfl | exact .inr rfl) (pe_cf c_size_in hr rfl (L2.takes_of rfl rfl rfl rfl) (pa_consV (pe_v (pv 5)) pa_nilA)))
    (ss_cons (ss_if (PW.pt (pw_orB (pt_cmp2 (op_gtD hr.units) rs_ord (pe_v (pv 3)) (pe_cst pe_int (fun _ => den_int _)) (nomark _)) (pw_orB (pt_cmp2 (op_eqD hr.units) rs_eq (pe_v (pv 4)) (pe_un1 un_neg rs_neg (pe_cst pe_int (fun _ => den_int _))) (nomark _)) (pw_or1 (pt_cmp2 op_isN rs_isN (pe_v (pv 6)) (pe_cst pe_non (fun _ => den_non)) (nomark _)))))) (ss_one (ss_ret (pe_cst pe_non (fun _ => den_non)))) ss_nil)
    (ss_one (ss_aug ip_add nd rfl (by first | exact .inl rfl | exact .inr rfl) (pe_op2 op_mulA rs_mul (pe_v (pv 4)) (pe_op2 op_addB rs_add (pe_op2 op_addB rs_add (pe_v (pv 2)) (pe_cst pe_int (fun _ => den_int _))) (pe_v (pv 6)))))))))
    (ss_one (ss_ret (pe_v (pv 1))))))
def S_size_of (g_size_in g_check_forest : FF) : FF := fnOf 1 1 (seqS (drpS (callE g_check_forest [] [.v (var 0)])) (retS (callE g_size_in [] [.v (var 0)])))
theorem sc_size_of : FnScope ["forest"] ["forest"] (defScope (top 43)) := ⟨rfl, rfl, rfl, by decide +kernel, rfl, by decide +kernel, by decide +kernel⟩
theorem ok_size_of {k : Nat} {dvs0 : List V} {dds : List D} {g_size_in g_check_forest : FF} (T : DefT K mg "size_of" ["forest"] (defArgs (top 43)) (defBody (top 43)) (defScope (top 43)) dvs0 dds) (c_size_in : OkF P w K mg base "size_in" k ["forest"] [] g_size_in) (c_check_forest : OkF P w K mg base "check_forest" k ["value"] [] g_check_forest) : OkF P w K mg base "size_of" (k + 1) ["forest"] dds (S_size_of g_size_in g_check_forest) := by
  refine T.ok sc_size_of rfl (by decide) (fun f cdv A outer s H E hr => ?_)
  have nd := sc_size_of.nd
  exact (ss_cons (ss_expr (pe_cf c_check_forest hr rfl (L2.takes_of rfl rfl rfl rfl) (pa_consV (pe_v (pv 0)) pa_nilA)))
    (ss_one (ss_ret (pe_cf c_size_in hr rfl (L2.takes_of rfl rfl rfl rfl) (pa_consV (pe_v (pv 0)) pa_nilA)))))
def S_first_strands (g_top_in : FF) : FF := fnOf 1 8 (seqS (asgS 1 (lstE [])) (seqS (forS (seqI (var 0)) (tgT [(tgN 2), (tgN 3), (tgN 4), (tgN 5)]) (seqS (asgT (tgT [(tgN 6), (tgN 7)]) (callE g_top_in [] [.v (var 5)])) (drpS (appE (var 1) (tupE [(var 6), (op2 gAddA (var 7) (var 2)), (var 3), (var 4)]))))) (retS (var 1))))
theorem sc_first_strands : FnScope ["forest", "found", "a", "d", "m", "inner", "k", "n"] ["forest"] (defScope (top 44)) := ⟨rfl, rfl, rfl, by decide +kernel, rfl, by decide +kernel, by decide +kernel⟩
theorem ok_first_strands {k : Nat} {dvs0 : List V} {dds : List D} {g_top_in : FF} (T : DefT K mg "first_strands" ["forest"] (defArgs (top 44)) (defBody (top 44)) (defScope (top 44)) dvs0 dds) (c_top_in : OkF P w K mg base "top_in" k ["forest"] [] g_top_in) : OkF P w K mg base "first_strands" (k + 1) ["forest"] dds (S_first_strands g_top_in) := by
  refine T.ok sc_first_strands rfl (by decide) (fun f cdv A outer s H E hr => ?_)
  have nd := sc_first_strands.nd
  exact (ss_cons (ss_set nd rfl (by first | exact .inl rfl | exact .inr rfl) (pe_lstE pa_nilL (Nat.le_of_ble_eq_true rfl)))
    (ss_cons (ss_for (passes_of rfl) rfl (pi_seqI (pe_v (pv 0))) (pg_t rfl (pgs_c (pg_n (pg_name nd rfl (by first | exact .inl rfl | exact .inr rfl))) (pgs_c (pg_n (pg_name nd rfl (by first | exact .inl rfl | exact .inr rfl))) (pgs_c (pg_n (pg_name nd rfl (by first | exact .inl rfl | exact .inr rfl))) (pgs_c (pg_n (pg_name nd rfl (by first | exact .inl rfl | exact .inr rfl))) pgs_n)))) rfl) (ss_cons (ss_asg (pe_cf c_top_in hr rfl (L2.takes_of rfl rfl rfl rfl) (pa_consV (pe_v (pv 5)) pa_nilA)) (pg_t rfl (pgs_c (pg_n (pg_name nd rfl (by first | exact .inl rfl | exact .inr rfl))) (pgs_c (pg_n (pg_name nd rfl (by first | exact .inl rfl | exact .inr rfl))) pgs_n)) rfl))
    (ss_one (ss_expr (pe_app rfl (pe_v (pv 1)) (pe_tupE (pa_consL (pe_v (pv 6)) (pa_consL (pe_op2 op_addB rs_add (pe_v (pv 7)) (pe_v (pv 2))) (pa_consL (pe_v (pv 3)) (pa_consL (pe_v (pv 4)) pa_nilL)))) (Nat.le_of_ble_eq_true rfl)))))))
    (ss_one (ss_ret (pe_v (pv 1))))))
def S_without_one : FF := fnOf 2 8 (seqS (parS 2 3 (lstE []) (cst (.int 1))) (seqS (forS (seqI (var 0)) (tgT [(tgN 4), (tgN 5), (tgN 6), (tgN 7)]) (seqS (ifS (andB (asB (op2 gEq (var 3) (cst (.int 1)))) (andB (asB (op2 gEq (var 6) (cst (.int 0)))) (asB (op2 gEq (tupE [(var 4), (var 5)]) (var 1))))) (seqS (asgS 3 (cst (.int 0))) (asgS 7 (ifE (asB (op2 gEq (var 7) (op1 gNeg (cst (.int 1))))) (var 7) (op2 gSub (var 7) (cst (.int 1)))))) nxS) (drpS (appE (var 2) (tupE [(var 4), (var 5), (var 6), (var 7)]))))) (retS (var 2))))
theorem sc_without_one : FnScope ["strands", "height", "found", "left", "k", "n", "d", "many"] ["strands", "height"] (defScope (top 45)) := ⟨rfl, rfl, rfl, by decide +kernel, rfl, by decide +kernel, by decide +kernel⟩
theorem ok_without_one {k : Nat} {dvs0 : List V} {dds : List D} (T : DefT K mg "without_one" ["strands", "height"] (defArgs (top 45)) (defBody (top 45)) (defScope (top 45)) dvs0 dds)  : OkF P w K mg base "without_one" (k + 1) ["strands", "height"] dds (S_without_one) := by
  refine T.ok sc_without_one rfl (by decide) (fun f cdv A outer s H E hr => ?_)
  have nd := sc_without_one.nd
  exact (ss_cons (ss_par rfl nd rfl rfl (by decide) rfl rfl (pe_lstE pa_nilL (Nat.le_of_ble_eq_true rfl)) (pe_cst pe_int (fun _ => den_int _)) rfl)
    (ss_cons (ss_for (passes_of rfl) rfl (pi_seqI (pe_v (pv 0))) (pg_t rfl (pgs_c (pg_n (pg_name nd rfl (by first | exact .inl rfl | exact .inr rfl))) (pgs_c (pg_n (pg_name nd rfl (by first | exact .inl rfl | exact .inr rfl))) (pgs_c (pg_n (pg_name nd rfl (by first | exact .inl rfl | exact .inr rfl))) (pgs_c (pg_n (pg_name nd rfl (by first | exact .inl rfl | exact .inr rfl))) pgs_n)))) rfl) (ss_cons (ss_if (PW.pt (pw_andB (pt_cmp2 (op_eqD hr.units) rs_eq (pe_v (pv 3)) (pe_cst pe_int (fun _ => den_int _)) (nomark _)) (pw_andB (pt_cmp2 (op_eqD hr.units) rs_eq (pe_v (pv 6)) (pe_cst pe_int (fun _ => den_int _)) (nomark _)) (pw_and1 (pt_cmp2 (op_eqD hr.units) rs_eq (pe_tupE (pa_consL (pe_v (pv 4)) (pa_consL (pe_v (pv 5)) pa_nilL)) (Nat.le_of_ble_eq_true rfl)) (pe_v (pv 1)) (nomark _)))))) (ss_cons (ss_set nd rfl (by first | exact .inl rfl | exact .inr rfl) (pe_cst pe_int (fun _ => den_int _)))
    (ss_one (ss_set nd rfl (by first | exact .inl rfl | exact .inr rfl) (pe_ifE (pt_cmp2 (op_eqD hr.units) rs_eq (pe_v (pv 7)) (pe_un1 un_neg rs_neg (pe_cst pe_int (fun _ => den_int _))) (nomark _)) (pe_v (pv 7)) (pe_op2 op_sub rs_sub (pe_v (pv 7)) (pe_cst pe_int (fun _ => den_int _))))))) ss_nil)
    (ss_one (ss_expr (pe_app rfl (pe_v (pv 2)) (pe_tupE (pa_consL (pe_v (pv 4)) (pa_consL (pe_v (pv 5)) (pa_consL (pe_v (pv 6)) (pa_consL (pe_v (pv 7)) pa_nilL)))) (Nat.le_of_ble_eq_true rfl)))))))
    (ss_one (ss_ret (pe_v (pv 2))))))
def S_kid_strands (g_without_one g_first_strands g_top_in : FF) : FF := fnOf 1 4 (seqS (asgT (tgT [(tgN 2), (tgN 3)]) (callE g_top_in [] [.v (var 0)])) (seqS (asgS 1 (callE g_first_strands [] [.v (var 0)])) (retS (ifE (asB (op2 gGt (var 3) (cst (.int 0)))) (callE g_without_one [] [.v (var 1), .v (tupE [(var 2), (op2 gSub (var 3) (cst (.int 1)))])]) (var 1)))))
theorem sc_kid_strands : FnScope ["forest", "strands", "k", "n"] ["forest"] (defScope (top 46)) := ⟨rfl, rfl, rfl, by decide +kernel, rfl, by decide +kernel, by decide +kernel⟩
theorem ok_kid_strands {k : Nat} {dvs0 : List V} {dds : List D} {g_without_one g_first_strands g_top_in : FF} (T : DefT K mg "kid_strands" ["forest"] (defArgs (top 46)) (defBody (top 46)) (defScope (top 46)) dvs0 dds) (c_without_one : OkF P w K mg base "without_one" k ["strands", "height"] [] g_without_one) (c_first_strands : OkF P w K mg base "first_strands" k ["forest"] [] g_first_strands) (c_top_in : OkF P w K mg base "top_in" k ["forest"] [] g_top_in) : OkF P w K mg base "kid_strands" (k + 1) ["forest"] dds (S_kid_strands g_without_one g_first_strands g_top_in) := by
  refine T.ok sc_kid_strands rfl (by decide) (fun f cdv A outer s H E hr => ?_)
  have nd := sc_kid_strands.nd
  exact (ss_cons (ss_asg (pe_cf c_top_in hr rfl (L2.takes_of rfl rfl rfl rfl) (pa_consV (pe_v (pv 0)) pa_nilA)) (pg_t rfl (pgs_c (pg_n (pg_name nd rfl (by first | exact .inl rfl | exact .inr rfl))) (pgs_c (pg_n (pg_name nd rfl (by first | exact .inl rfl | exact .inr rfl))) pgs_n)) rfl))
    (ss_cons (ss_set nd rfl (by first | exact .inl rfl | exact .inr rfl) (pe_cf c_first_strands hr rfl (L2.takes_of rfl rfl rfl rfl) (pa_consV (pe_v (pv 0)) pa_nilA)))
    (ss_one (ss_ret (pe_ifE (pt_cmp2 (op_gtD hr.units) rs_ord (pe_v (pv 3)) (pe_cst pe_int (fun _ => den_int _)) (nomark _)) (pe_cf c_without_one hr rfl (L2.takes_of rfl rfl rfl rfl) (pa_consV (pe_v (pv 1)) (pa_consV (pe_tupE (pa_consL (pe_v (pv 2)) (pa_consL (pe_op2 op_sub rs_sub (pe_v (pv 3)) (pe_cst pe_int (fun _ => den_int _))) pa_nilL)) (Nat.le_of_ble_eq_true rfl)) pa_nilA))) (pe_v (pv 1)))))))
def S_upper_strands (g_kid_strands g_upper_strands g_times_number : FF) : FF := fnOf 1 11 (seqS (asgS 1 (lstE [])) (seqS (forS (seqI (var 0)) (tgT [(tgN 2), (tgN 3), (tgN 4), (tgN 5)]) (seqS (asgS 6 (ifE (asB (op2 gGt (var 3) (cst (.int 0)))) (op1 gNeg (cst (.int 1))) (var 4))) (forS (seqI (op2 gAddA (callE g_kid_strands [] [.v (var 5)]) (callE g_upper_strands [] [.v (var 5)]))) (tgT [(tgN 7), (tgN 8), (tgN 9), (tgN 10)]) (drpS (appE (var 1) (tupE [(var 7), (var 8), (var 9), (callE g_times_number [] [.v (var 6), .v (var 10)])])))))) (retS (var 1))))
theorem sc_upper_strands : FnScope ["forest", "found", "_", "d", "m", "inner", "many", "k", "n", "step", "number"] ["forest"] (defScope (top 47)) := ⟨rfl, rfl, rfl, by decide +kernel, rfl, by decide +kernel, by decide +kernel⟩
theorem ok_upper_strands {k : Nat} {dvs0 : List V} {dds : List D} {g_kid_strands g_upper_strands g_times_number : FF} (T : DefT K mg "upper_strands" ["forest"] (defArgs (top 47)) (defBody (top 47)) (defScope (top 47)) dvs0 dds) (c_kid_strands : OkF P w K mg base "kid_strands" k ["forest"] [] g_kid_strands) (c_upper_strands : OkF P w K mg base "upper_strands" k ["forest"] [] g_upper_strands) (c_times_number : OkF P w K mg base "times_number" k ["many", "number"] [] g_times_number) : OkF P w K mg base "upper_strands" (k + 1) ["forest"] dds (S_upper_strands g_kid_strands g_upper_strands g_times_number) := by
  refine T.ok sc_upper_strands rfl (by decide) (fun f cdv A outer s H E hr => ?_)
  have nd := sc_upper_strands.nd
  exact (ss_cons (ss_set nd rfl (by first | exact .inl rfl | exact .inr rfl) (pe_lstE pa_nilL (Nat.le_of_ble_eq_true rfl)))
    (ss_cons (ss_for (passes_of rfl) rfl (pi_seqI (pe_v (pv 0))) (pg_t rfl (pgs_c (pg_n (pg_name nd rfl (by first | exact .inl rfl | exact .inr rfl))) (pgs_c (pg_n (pg_name nd rfl (by first | exact .inl rfl | exact .inr rfl))) (pgs_c (pg_n (pg_name nd rfl (by first | exact .inl rfl | exact .inr rfl))) (pgs_c (pg_n (pg_name nd rfl (by first | exact .inl rfl | exact .inr rfl))) pgs_n)))) rfl) (ss_cons (ss_set nd rfl (by first | exact .inl rfl | exact .inr rfl) (pe_ifE (pt_cmp2 (op_gtD hr.units) rs_ord (pe_v (pv 3)) (pe_cst pe_int (fun _ => den_int _)) (nomark _)) (pe_un1 un_neg rs_neg (pe_cst pe_int (fun _ => den_int _))) (pe_v (pv 4))))
    (ss_one (ss_for (passes_of rfl) rfl (pi_seqI (pe_op2 op_addB rs_add (pe_cf c_kid_strands hr rfl (L2.takes_of rfl rfl rfl rfl) (pa_consV (pe_v (pv 5)) pa_nilA)) (pe_cf c_upper_strands hr rfl (L2.takes_of rfl rfl rfl rfl) (pa_consV (pe_v (pv 5)) pa_nilA)))) (pg_t rfl (pgs_c (pg_n (pg_name nd rfl (by first | exact .inl rfl | exact .inr rfl))) (pgs_c (pg_n (pg_name nd rfl (by first | exact .inl rfl | exact .inr rfl))) (pgs_c (pg_n (pg_name nd rfl (by first | exact .inl rfl | exact .inr rfl))) (pgs_c (pg_n (pg_name nd rfl (by first | exact .inl rfl | exact .inr rfl))) pgs_n)))) rfl) (ss_one (ss_expr (pe_app rfl (pe_v (pv 1)) (pe_tupE (pa_consL (pe_v (pv 7)) (pa_consL (pe_v (pv 8)) (pa_consL (pe_v (pv 9)) (pa_consL (pe_cf c_times_number hr rfl (L2.takes_of rfl rfl rfl rfl) (pa_consV (pe_v (pv 6)) (pa_consV (pe_v (pv 10)) pa_nilA))) pa_nilL)))) (Nat.le_of_ble_eq_true rfl)))))))))
    (ss_one (ss_ret (pe_v (pv 1))))))
def S_strand_number : FF := fnOf 2 6 (seqS (asgT (tgT [(tgN 2), (tgN 3), (tgN 4), (tgN 5)]) (var 0)) (seqS (ifS (asB (op2 gEq (var 4) (cst (.int 0)))) (retS (ifE (asB (op2 gEq (var 1) (var 3))) (var 5) (cst (.int 0)))) nxS) (retS (ifE (andB (asB (op2 gGe (var 1) (var 3))) (asB (op2 gEq (op2 gMod (op2 gSub (var 1) (var 3)) (var 4)) (cst (.int 0))))) (var 5) (cst (.int 0))))))
theorem sc_strand_number : FnScope ["strand", "n", "_", "start", "d", "many"] ["strand", "n"] (defScope (top 48)) := ⟨rfl, rfl, rfl, by decide +kernel, rfl, by decide +kernel, by decide +kernel⟩
theorem ok_strand_number {k : Nat} {dvs0 : List V} {dds : List D} (T : DefT K mg "strand_number" ["strand", "n"] (defArgs (top 48)) (defBody (top 48)) (defScope (top 48)) dvs0 dds)  : OkF P w K mg base "strand_number" (k + 1) ["strand", "n"] dds (S_strand_number) := by
  refine T.ok sc_strand_number rfl (by decide) (fun f cdv A outer s H E hr => ?_)
  have nd := sc_strand_number.nd
  exact (ss_cons (ss_asg (pe_v (pv 0)) (pg_t rfl (pgs_c (pg_n (pg_name nd rfl (by first | exact .inl rfl | exact .inr rfl))) (pgs_c (pg_n (pg_name nd rfl (by first | exact .inl rfl | exact .inr rfl))) (pgs_c (pg_n (pg_name nd rfl (by first | exact .inl rfl | exact .inr rfl))) (pgs_c (pg_n (pg_name nd rfl (by first | exact .inl rfl | exact .inr rfl))) pgs_n)))) rfl))
    (ss_cons (ss_if (pt_cmp2 (op_eqD hr.units) rs_eq (pe_v (pv 4)) (pe_cst pe_int (fun _ => den_int _)) (nomark _)) (ss_one (ss_ret (pe_ifE (pt_cmp2 (op_eqD hr.units) rs_eq (pe_v (pv 1)) (pe_v (pv 3)) (nomark _)) (pe_v (pv 5)) (pe_cst pe_int (fun _ => den_int _))))) ss_nil)
    (ss_one (ss_ret (pe_ifE (PW.pt (pw_andB (pt_cmp2 (op_geD hr.units) rs_ord (pe_v (pv 1)) (pe_v (pv 3)) (nomark _)) (pw_and1 (pt_cmp2 (op_eqD hr.units) rs_eq (pe_op2 op_mod rs_mod (pe_op2 op_sub rs_sub (pe_v (pv 1)) (pe_v (pv 3))) (pe_v (pv 4))) (pe_cst pe_int (fun _ => den_int _)) (nomark _))))) (pe_v (pv 5)) (pe_cst pe_int (fun _ => den_int _)))))))
def S_strands_block (g_plus_number g_strand_number : FF) : FF := fnOf 1 9 (seqS (asgT (tgT [(tgN 3), (tgN 4)]) (tupE [(cst (.int 0)), (cst (.int 1))])) (seqS (forS (seqI (var 0)) (tgT [(tgN 5), (tgN 2), (tgN 6), (tgN 5)]) (seqS (asgS 3 (op2 gMax2 (var 3) (op2 gAddA (var 2) (cst (.int 1))))) (asgS 4 (ifE (asB (op2 gGt (var 6) (cst (.int 0)))) (op2 gLcm (var 4) (var 6)) (var 4))))) (seqS (asgS 1 (lstE [])) (seqS (forS (rngI1 (op2 gAddA (var 3) (var 4))) (tgN 2) (seqS (asgS 7 (cst (.int 0))) (seqS (forS (seqI (var 0)) (tgN 8) (asgS 7 (callE g_plus_number [] [.v (var 7), .v (callE g_strand_number [] [.v (var 8), .v (var 2)])]))) (drpS (appE (var 1) (var 7)))))) (retS (tupE [(cb1 gTuple (slE (var 1) none (some (var 3)))), (cb1 gTuple (slE (var 1) (some (var 3)) none))]))))))
theorem sc_strands_block : FnScope ["strands", "numbers", "n", "start", "period", "_", "d", "total", "strand"] ["strands"] (defScope (top 49)) := ⟨rfl, rfl, rfl, by decide +kernel, rfl, by decide +kernel, by decide +kernel⟩
theorem ok_strands_block {k : Nat} {dvs0 : List V} {dds : List D} {g_plus_number g_strand_number : FF} (T : DefT K mg "strands_block" ["strands"] (defArgs (top 49)) (defBody (top 49)) (defScope (top 49)) dvs0 dds) (fr_max : mg "max" = none) (fr_range : mg "range" = none) (fr_tuple : mg "tuple" = none) (im_lcm : mg "lcm" = some (.builtin "math.lcm")) (c_plus_number : OkF P w K mg base "plus_number" k ["one", "other"] [] g_plus_number) (c_strand_number : OkF P w K mg base "strand_number" k ["strand", "n"] [] g_strand_number) : OkF P w K mg base "strands_block" (k + 1) ["strands"] dds (S_strands_block g_plus_number g_strand_number) := by
  refine T.ok sc_strands_block rfl (by decide) (fun f cdv A outer s H E hr => ?_)
  have nd := sc_strands_block.nd
  exact (ss_cons (ss_asg (pe_tupE (pa_consL (pe_cst pe_int (fun _ => den_int _)) (pa_consL (pe_cst pe_int (fun _ => den_int _)) pa_nilL)) (Nat.le_of_ble_eq_true rfl)) (pg_t rfl (pgs_c (pg_n (pg_name nd rfl (by first | exact .inl rfl | exact .inr rfl))) (pgs_c (pg_n (pg_name nd rfl (by first | exact .inl rfl | exact .inr rfl))) pgs_n)) rfl))
    (ss_cons (ss_for (passes_of rfl) rfl (pi_seqI (pe_v (pv 0))) (pg_t rfl (pgs_c (pg_n (pg_name nd rfl (by first | exact .inl rfl | exact .inr rfl))) (pgs_c (pg_n (pg_name nd rfl (by first | exact .inl rfl | exact .inr rfl))) (pgs_c (pg_n (pg_name nd rfl (by first | exact .inl rfl | exact .inr rfl))) (pgs_c (pg_n (pg_name nd rfl (by first | exact .inl rfl | exact .inr rfl))) pgs_n)))) rfl) (ss_cons (ss_set nd rfl (by first | exact .inl rfl | exact .inr rfl) (pe_cb2 (call_max2D rfl hr.units) rc_max2 rfl fr_max (by decide +kernel) (pe_v (pv 3)) (pe_op2 op_addB rs_add (pe_v (pv 2)) (pe_cst pe_int (fun _ => den_int _)))))
    (ss_one (ss_set nd rfl (by first | exact .inl rfl | exact .inr rfl) (pe_ifE (pt_cmp2 (op_gtD hr.units) rs_ord (pe_v (pv 6)) (pe_cst pe_int (fun _ => den_int _)) (nomark _)) (pe_cg2 call_lcm rc_lcm rfl im_lcm (pe_v (pv 4)) (pe_v (pv 6))) (pe_v (pv 4)))))))
    (ss_cons (ss_set nd rfl (by first | exact .inl rfl | exact .inr rfl) (pe_lstE pa_nilL (Nat.le_of_ble_eq_true rfl)))
    (ss_cons (ss_for (passes_of rfl) rfl (pi_rng1 rfl fr_range (pe_op2 op_addB rs_add (pe_v (pv 3)) (pe_v (pv 4)))) (pg_n (pg_name nd rfl (by first | exact .inl rfl | exact .inr rfl))) (ss_cons (ss_set nd rfl (by first | exact .inl rfl | exact .inr rfl) (pe_cst pe_int (fun _ => den_int _)))
    (ss_cons (ss_for (passes_of rfl) rfl (pi_seqI (pe_v (pv 0))) (pg_n (pg_name nd rfl (by first | exact .inl rfl | exact .inr rfl))) (ss_one (ss_set nd rfl (by first | exact .inl rfl | exact .inr rfl) (pe_cf c_plus_number hr rfl (L2.takes_of rfl rfl rfl rfl) (pa_consV (pe_v (pv 7)) (pa_consV (pe_cf c_strand_number hr rfl (L2.takes_of rfl rfl rfl rfl) (pa_consV (pe_v (pv 8)) (pa_consV (pe_v (pv 2)) pa_nilA))) pa_nilA))))))
    (ss_one (ss_expr (pe_app rfl (pe_v (pv 1)) (pe_v (pv 7))))))))
    (ss_one (ss_ret (pe_tupE (pa_consL (pe_ct1 call_tuple_of rc_tuple rfl fr_tuple (by decide +kernel) (pe_slE (pe_v (pv 1)) po_no (po_so (pe_v (pv 3))))) (pa_consL (pe_ct1 call_tuple_of rc_tuple rfl fr_tuple (by decide +kernel) (pe_slE (pe_v (pv 1)) (po_so (pe_v (pv 3))) po_no)) pa_nilL)) (Nat.le_of_ble_eq_true rfl))))))))
def S_table_of_in (g_table_in g_strands_block g_first_strands g_upper_strands : FF) : FF := fnOf 1 5 (seqS (asgS 1 (op2 gAddA (callE g_first_strands [] [.v (var 0)]) (callE g_upper_strands [] [.v (var 0)]))) (seqS (asgS 2 (op2 gAddA (cst (.int 1)) (cb1 gMaxL (op2 gAddA (lcE (seqI (var 1)) [4] (tgN 4) yesB (ixE (var 4) (cst (.int 0)))) (lstE [(op1 gNeg (cst (.int 1)))]))))) (retS (callE g_table_in [] [.v (lcE (rngI1 (var 2)) [3] (tgN 3) yesB (callE g_strands_block [] [.v (lcE (seqI (var 1)) [4] (tgN 4) (asB (op2 gEq (ixE (var 4) (cst (.int 0))) (var 3))) (var 4))]))]))))
theorem sc_table_of_in : FnScope ["forest", "strands", "blocks", "k", "strand"] ["forest"] (defScope (top 50)) := ⟨rfl, rfl, rfl, by decide +kernel, rfl, by decide +kernel, by decide +kernel⟩
theorem ok_table_of_in {k : Nat} {dvs0 : List V} {dds : List D} {g_table_in g_strands_block g_first_strands g_upper_strands : FF} (T : DefT K mg "table_of_in" ["forest"] (defArgs (top 50)) (defBody (top 50)) (defScope (top 50)) dvs0 dds) (fr_max : mg "max" = none) (fr_range : mg "range" = none) (c_table_in : OkF P w K mg base "table_in" k ["blocks"] [] g_table_in) (c_strands_block : OkF P w K mg base "strands_block" k ["strands"] [] g_strands_block) (c_first_strands : OkF P w K mg base "first_strands" k ["forest"] [] g_first_strands) (c_upper_strands : OkF P w K mg base "upper_strands" k ["forest"] [] g_upper_strands) : OkF P w K mg base "table_of_in" (k + 1) ["forest"] dds (S_table_of_in g_table_in g_strands_block g_first_strands g_upper_strands) := by
  refine T.ok sc_table_of_in rfl (by decide) (fun f cdv A outer s H E hr => ?_)
  have nd := sc_table_of_in.nd
  exact (ss_cons (ss_set nd rfl (by first | exact .inl rfl | exact .inr rfl) (pe_op2 op_addB rs_add (pe_cf c_first_strands hr rfl (L2.takes_of rfl rfl rfl rfl) (pa_consV (pe_v (pv 0)) pa_nilA)) (pe_cf c_upper_strands hr rfl (L2.takes_of rfl rfl rfl rfl) (pa_consV (pe_v (pv 0)) pa_nilA))))
    (ss_cons (ss_set nd rfl (by first | exact .inl rfl | exact .inr rfl) (pe_op2 op_addB rs_add (pe_cst pe_int (fun _ => den_int _)) (pe_cb1 (call_maxI rfl hr.units) rc_maxL rfl fr_max (by decide +kernel) (pe_op2 op_addB rs_add (pe_lcV rfl nd (pi_seqI (pe_v (pv 1))) (blkOk_by (own := [("strand", 4)]) (by show blkC ["forest", "strands", "blocks", "k", "strand"] (defScope (top 50)) _ _ = true; decide +kernel)) (fun _ _ _ _ _ => (pg_n (pg_name nd rfl (by first | exact .inl rfl | exact .inr rfl)))) (fun _ _ _ _ _ => pts_yes) (fun _ _ _ _ _ => (pe_ixE (pe_v (pv 4)) (pe_cst pe_int (fun _ => den_int _)) (fun _ _ => rfl))) (by decide)) (pe_lstE (pa_consL (pe_un1 un_neg rs_neg (pe_cst pe_int (fun _ => den_int _))) pa_nilL) (Nat.le_of_ble_eq_true rfl))))))
    (ss_one (ss_ret (pe_cf c_table_in hr rfl (L2.takes_of rfl rfl rfl rfl) (pa_consV (pe_lcV rfl nd (pi_rng1 rfl fr_range (pe_v (pv 2))) (blkOk_by (own := [("k", 3)]) (by show blkC ["forest", "strands", "blocks", "k", "strand"] (defScope (top 50)) _ _ = true; decide +kernel)) (fun _ _ _ _ _ => (pg_n (pg_name nd rfl (by first | exact .inl rfl | exact .inr rfl)))) (fun _ _ _ _ _ => pts_yes) (fun _ _ _ _ _ => (pe_cf c_strands_block hr rfl takes0 (pa_consV (pe_lcV rfl nd (pi_seqI (pe_v (pv 1))) (blkOk_by (own := [("strand", 4)]) (by with_unfolding_all rfl)) (fun _ _ _ _ _ => (pg_n (pg_name nd rfl (by first | exact .inl rfl | exact .inr rfl)))) (fun _ _ _ _ _ => (pts_one (pt_cmp2 (op_eqD hr.units) rs_eq (pe_ixE (pe_v (pv 4)) (pe_cst pe_int (fun _ => den_int _)) (fun _ _ => rfl)) (pe_v (pv 3)) (nomark _)))) (fun _ _ _ _ _ => (pe_v (pv 4))) (by decide)) pa_nilA))) (by decide)) pa_nilA))))))
def S_table_of (g_table_of_in g_check_forest : FF) : FF := fnOf 1 1 (seqS (drpS (callE g_check_forest [] [.v (var 0)])) (retS (callE g_table_of_in [] [.v (var 0)])))
theorem sc_table_of : FnScope ["forest"] ["forest"] (defScope (top 51)) := ⟨rfl, rfl, rfl, by decide +kernel, rfl, by decide +kernel, by decide +kernel⟩
theorem ok_table_of {k : Nat} {dvs0 : List V} {dds : List D} {g_table_of_in g_check_forest : FF} (T : DefT K mg "table_of" ["forest"] (defArgs (top 51)) (defBody (top 51)) (defScope (top 51)) dvs0 dds) (c_table_of_in : OkF P w K mg base "table_of_in" k ["forest"] [] g_table_of_in) (c_check_forest : OkF P w K mg base "check_forest" k ["value"] [] g_check_forest) : OkF P w K mg base "table_of" (k + 1) ["forest"] dds (S_table_of g_table_of_in g_check_forest) := by
  refine T.ok sc_table_of rfl (by decide) (fun f cdv A outer s H E hr => ?_)
  have nd := sc_table_of.nd
  exact (ss_cons (ss_expr (pe_cf c_check_forest hr rfl (L2.takes_of rfl rfl rfl rfl) (pa_consV (pe_v (pv 0)) pa_nilA)))
    (ss_one (ss_ret (pe_cf c_table_of_in hr rfl (L2.takes_of rfl rfl rfl rfl) (pa_consV (pe_v (pv 0)) pa_nilA)))))
def S_line_nodes (g_top_in : FF) : FF := fnOf 2 8 (seqS (asgT (tgT [(tgN 2), (tgN 3), (tgN 4), (tgN 5)]) (var 0)) (seqS (asgT (tgT [(tgN 6), (tgN 7)]) (callE g_top_in [] [.v (var 5)])) (seqS (ifS (orB (asB (op2 gNe (var 6) (ixE (var 1) (cst (.int 0))))) (asB (op2 gLt (ixE (var 1) (cst (.int 1))) (var 7)))) (retS (cst (.int 0))) nxS) (seqS (ifS (asB (op2 gGt (var 3) (cst (.int 0)))) (retS (op1 gNeg (cst (.int 1)))) nxS) (retS (ifE (asB (op2 gLe (ixE (var 1) (cst (.int 1))) (op2 gAddA (var 7) (var 2)))) (cst (.int 1)) (cst (.int 0))))))))
theorem sc_line_nodes : FnScope ["term", "height", "a", "d", "_", "inner", "k", "n"] ["term", "height"] (defScope (top 52)) := ⟨rfl, rfl, rfl, by decide +kernel, rfl, by decide +kernel, by decide +kernel⟩
theorem ok_line_nodes {k : Nat} {dvs0 : List V} {dds : List D} {g_top_in : FF} (T : DefT K mg "line_nodes" ["term", "height"] (defArgs (top 52)) (defBody (top 52)) (defScope (top 52)) dvs0 dds) (c_top_in : OkF P w K mg base "top_in" k ["forest"] [] g_top_in) : OkF P w K mg base "line_nodes" (k + 1) ["term", "height"] dds (S_line_nodes g_top_in) := by
  refine T.ok sc_line_nodes rfl (by decide) (fun f cdv A outer s H E hr => ?_)
  have nd := sc_line_nodes.nd
  exact (ss_cons (ss_asg (pe_v (pv 0)) (pg_t rfl (pgs_c (pg_n (pg_name nd rfl (by first | exact .inl rfl | exact .inr rfl))) (pgs_c (pg_n (pg_name nd rfl (by first | exact .inl rfl | exact .inr rfl))) (pgs_c (pg_n (pg_name nd rfl (by first | exact .inl rfl | exact .inr rfl))) (pgs_c (pg_n (pg_name nd rfl (by first | exact .inl rfl | exact .inr rfl))) pgs_n)))) rfl))
    (ss_cons (ss_asg (pe_cf c_top_in hr rfl (L2.takes_of rfl rfl rfl rfl) (pa_consV (pe_v (pv 5)) pa_nilA)) (pg_t rfl (pgs_c (pg_n (pg_name nd rfl (by first | exact .inl rfl | exact .inr rfl))) (pgs_c (pg_n (pg_name nd rfl (by first | exact .inl rfl | exact .inr rfl))) pgs_n)) rfl))
    (ss_cons (ss_if (PW.pt (pw_orB (pt_cmp2 (op_neD hr.units) rs_ne (pe_v (pv 6)) (pe_ixE (pe_v (pv 1)) (pe_cst pe_int (fun _ => den_int _)) (fun _ _ => rfl)) (nomark _)) (pw_or1 (pt_cmp2 (op_ltD hr.units) rs_ord (pe_ixE (pe_v (pv 1)) (pe_cst pe_int (fun _ => den_int _)) (fun _ _ => rfl)) (pe_v (pv 7)) (nomark _))))) (ss_one (ss_ret (pe_cst pe_int (fun _ => den_int _)))) ss_nil)
    (ss_cons (ss_if (pt_cmp2 (op_gtD hr.units) rs_ord (pe_v (pv 3)) (pe_cst pe_int (fun _ => den_int _)) (nomark _)) (ss_one (ss_ret (pe_un1 un_neg rs_neg (pe_cst pe_int (fun _ => den_int _))))) ss_nil)
    (ss_one (ss_ret (pe_ifE (pt_cmp2 (op_leD hr.units) rs_ord (pe_ixE (pe_v (pv 1)) (pe_cst pe_int (fun _ => den_int _)) (fun _ _ => rfl)) (pe_op2 op_addB rs_add (pe_v (pv 7)) (pe_v (pv 2))) (nomark _)) (pe_cst pe_int (fun _ => den_int _)) (pe_cst pe_int (fun _ => den_int _)))))))))
def S_nodes_at_in (g_plus_number g_times_number g_line_nodes g_nodes_at_in : FF) : FF := fnOf 2 9 (seqS (asgS 2 (cst (.int 0))) (seqS (forS (seqI (var 0)) (tgN 3) (seqS (asgT (tgT [(tgN 5), (tgN 6), (tgN 7), (tgN 8)]) (var 3)) (seqS (asgS 4 (callE g_times_number [] [.v (ifE (asB (op2 gGt (var 6) (cst (.int 0)))) (op1 gNeg (cst (.int 1))) (cst (.int 1))), .v (callE g_nodes_at_in [] [.v (var 8), .v (var 1)])])) (asgS 2 (callE g_plus_number [] [.v (var 2), .v (callE g_times_number [] [.v (var 7), .v (callE g_plus_number [] [.v (callE g_line_nodes [] [.v (var 3), .v (var 1)]), .v (var 4)])])]))))) (retS (var 2))))
theorem sc_nodes_at_in : FnScope ["forest", "height", "total", "term", "above", "_", "d", "m", "inner"] ["forest", "height"] (defScope (top 53)) := ⟨rfl, rfl, rfl, by decide +kernel, rfl, by decide +kernel, by decide +kernel⟩
theorem ok_nodes_at_in {k : Nat} {dvs0 : List V} {dds : List D} {g_plus_number g_times_number g_line_nodes g_nodes_at_in : FF} (T : DefT K mg "nodes_at_in" ["forest", "height"] (defArgs (top 53)) (defBody (top 53)) (defScope (top 53)) dvs0 dds) (c_plus_number : OkF P w K mg base "plus_number" k ["one", "other"] [] g_plus_number) (c_times_number : OkF P w K mg base "times_number" k ["many", "number"] [] g_times_number) (c_line_nodes : OkF P w K mg base "line_nodes" k ["term", "height"] [] g_line_nodes) (c_nodes_at_in : OkF P w K mg base "nodes_at_in" k ["forest", "height"] [] g_nodes_at_in) : OkF P w K mg base "nodes_at_in" (k + 1) ["forest", "height"] dds (S_nodes_at_in g_plus_number g_times_number g_line_nodes g_nodes_at_in) := by
  refine T.ok sc_nodes_at_in rfl (by decide) (fun f cdv A outer s H E hr => ?_)
  have nd := sc_nodes_at_in.nd
  exact (ss_cons (ss_set nd rfl (by first | exact .inl rfl | exact .inr rfl) (pe_cst pe_int (fun _ => den_int _)))
    (ss_cons (ss_for (passes_of rfl) rfl (pi_seqI (pe_v (pv 0))) (pg_n (pg_name nd rfl (by first | exact .inl rfl | exact .inr rfl))) (ss_cons (ss_asg (pe_v (pv 3)) (pg_t rfl (pgs_c (pg_n (pg_name nd rfl (by first | exact .inl rfl | exact .inr rfl))) (pgs_c (pg_n (pg_name nd rfl (by first | exact .inl rfl | exact .inr rfl))) (pgs_c (pg_n (pg_name nd rfl (by first | exact .inl rfl | exact .inr rfl))) (pgs_c (pg_n (pg_name nd rfl (by first | exact .inl rfl | exact .inr rfl))) pgs_n)))) rfl))
    (ss_cons (ss_set nd rfl (by first | exact .inl rfl | exact .inr rfl) (pe_cf c_times_number hr rfl (L2.takes_of rfl rfl rfl rfl) (pa_consV (pe_ifE (pt_cmp2 (op_gtD hr.units) rs_ord (pe_v (pv 6)) (pe_cst pe_int (fun _ => den_int _)) (nomark _)) (pe_un1 un_neg rs_neg (pe_cst pe_int (fun _ => den_int _))) (pe_cst pe_int (fun _ => den_int _))) (pa_consV (pe_cf c_nodes_at_in hr rfl (L2.takes_of rfl rfl rfl rfl) (pa_consV (pe_v (pv 8)) (pa_consV (pe_v (pv 1)) pa_nilA))) pa_nilA))))
    (ss_one (ss_set nd rfl (by first | exact .inl rfl | exact .inr rfl) (pe_cf c_plus_number hr rfl (L2.takes_of rfl rfl rfl rfl) (pa_consV (pe_v (pv 2)) (pa_consV (pe_cf c_times_number hr rfl (L2.takes_of rfl rfl rfl rfl) (pa_consV (pe_v (pv 7)) (pa_consV (pe_cf c_plus_number hr rfl (L2.takes_of rfl rfl rfl rfl) (pa_consV (pe_cf c_line_nodes hr rfl (L2.takes_of rfl rfl rfl rfl) (pa_consV (pe_v (pv 3)) (pa_consV (pe_v (pv 1)) pa_nilA))) (pa_consV (pe_v (pv 4)) pa_nilA))) pa_nilA))) pa_nilA))))))))
    (ss_one (ss_ret (pe_v (pv 2))))))
def S_nodes_at (g_nodes_at_in g_check_height g_check_forest : FF) : FF := fnOf 2 2 (seqS (drpS (callE g_check_forest [] [.v (var 0)])) (seqS (drpS (callE g_check_height [] [.v (var 1)])) (retS (callE g_nodes_at_in [] [.v (var 0), .v (var 1)]))))
theorem sc_nodes_at : FnScope ["forest", "height"] ["forest", "height"] (defScope (top 54)) := ⟨rfl, rfl, rfl, by decide +kernel, rfl, by decide +kernel, by decide +kernel⟩
theorem ok_nodes_at {k : Nat} {dvs0 : List V} {dds : List D} {g_nodes_at_in g_check_height g_check_forest : FF} (T : DefT K mg "nodes_at" ["forest", "height"] (defArgs (top 54)) (defBody (top 54)) (defScope (top 54)) dvs0 dds) (c_nodes_at_in : OkF P w K mg base "nodes_at_in" k ["forest", "height"] [] g_nodes_at_in) (c_check_height : OkF P w K mg base "check_height" k ["value"] [] g_check_height) (c_check_forest : OkF P w K mg base "check_forest" k ["value"] [] g_check_forest) : OkF P w K mg base "nodes_at" (k + 1) ["forest", "height"] dds (S_nodes_at g_nodes_at_in g_check_height g_check_forest) := by
  refine T.ok sc_nodes_at rfl (by decide) (fun f cdv A outer s H E hr => ?_)
  have nd := sc_nodes_at.nd
  exact (ss_cons (ss_expr (pe_cf c_check_forest hr rfl (L2.takes_of rfl rfl rfl rfl) (pa_consV (pe_v (pv 0)) pa_nilA)))
    (ss_cons (ss_expr (pe_cf c_check_height hr rfl (L2.takes_of rfl rfl rfl rfl) (pa_consV (pe_v (pv 1)) pa_nilA)))
    (ss_one (ss_ret (pe_cf c_nodes_at_in hr rfl (L2.takes_of rfl rfl rfl rfl) (pa_consV (pe_v (pv 0)) (pa_consV (pe_v (pv 1)) pa_nilA)))))))
def S_upper_term (g_upper_in g_top_in : FF) : FF := fnOf 2 10 (seqS (asgT (tgT [(tgN 4), (tgN 5), (tgN 6), (tgN 7)]) (var 0)) (seqS (asgT (tgT [(tgN 8), (tgN 9)]) (callE g_top_in [] [.v (var 7)])) (seqS (ifS (asB (op2 gGe (tupE [(var 8), (var 9)]) (var 1))) (retS (tupE [(cst (.int 0)), (tupE [(var 4), (var 5), (var 6), (callE g_upper_in [] [.v (var 7), .v (var 1)])])])) nxS) (seqS (asgS 2 (op2 gAddA (op2 gSub (var 4) (ixE (var 1) (cst (.int 1)))) (var 9))) (seqS (ifS (orB (asB (op2 gNe (var 8) (ixE (var 1) (cst (.int 0))))) (andB (asB (op2 gLt (var 2) (cst (.int 0)))) (asB (op2 gEq (var 5) (cst (.int 0)))))) (retS (cst .none)) nxS) (seqS (asgS 3 (ifE (asB (op2 gLt (var 2) (cst (.int 0)))) (op1 gNeg (op2 gFdiv (var 2) (var 5))) (cst (.int 0)))) (retS (tupE [(var 3), (tupE [(op2 gAddA (var 2) (op2 gMul (var 5) (var 3))), (var 5), (var 6), (tupE [])])]))))))))
theorem sc_upper_term : FnScope ["term", "height", "lead", "skip", "a", "d", "m", "inner", "k", "n"] ["term", "height"] (defScope (top 56)) := ⟨rfl, rfl, rfl, by decide +kernel, rfl, by decide +kernel, by decide +kernel⟩
theorem ok_upper_term {k : Nat} {dvs0 : List V} {dds : List D} {g_upper_in g_top_in : FF} (T : DefT K mg "upper_term" ["term", "height"] (defArgs (top 56)) (defBody (top 56)) (defScope (top 56)) dvs0 dds) (c_upper_in : OkF P w K mg base "upper_in" k ["forest", "height"] [] g_upper_in) (c_top_in : OkF P w K mg base "top_in" k ["forest"] [] g_top_in) : OkF P w K mg base "upper_term" (k + 1) ["term", "height"] dds (S_upper_term g_upper_in g_top_in) := by
  refine T.ok sc_upper_term rfl (by decide) (fun f cdv A outer s H E hr => ?_)
  have nd := sc_upper_term.nd
  exact (ss_cons (ss_asg (pe_v (pv 0)) (pg_t rfl (pgs_c (pg_n (pg_name nd rfl (by first | exact .inl rfl | exact .inr rfl))) (pgs_c (pg_n (pg_name nd rfl (by first | exact .inl rfl | exact .inr rfl))) (pgs_c (pg_n (pg_name nd rfl (by first | exact .inl rfl | exact .inr rfl))) (pgs_c (pg_n (pg_name nd rfl (by first | exact .inl rfl | exact .inr rfl))) pgs_n)))) rfl))
    (ss_cons (ss_asg (pe_cf c_top_in hr rfl (L2.takes_of rfl rfl rfl rfl) (pa_consV (pe_v (pv 7)) pa_nilA)) (pg_t rfl (pgs_c (pg_n (pg_name nd rfl (by first | exact .inl rfl | exact .inr rfl))) (pgs_c (pg_n (pg_name nd rfl (by first | exact .inl rfl | exact .inr rfl))) pgs_n)) rfl))
    (ss_cons (ss_if (pt_cmp2 (op_geD hr.units) rs_ord (pe_tupE (pa_consL (pe_v (pv 8)) (pa_consL (pe_v (pv 9)) pa_nilL)) (Nat.le_of_ble_eq_true rfl)) (pe_v (pv 1)) (nomark _)) (ss_one (ss_ret (pe_tupE (pa_consL (pe_cst pe_int (fun _ => den_int _)) (pa_consL (pe_tupE (pa_consL (pe_v (pv 4)) (pa_consL (pe_v (pv 5)) (pa_consL (pe_v (pv 6)) (pa_consL (pe_cf c_upper_in hr rfl (L2.takes_of rfl rfl rfl rfl) (pa_consV (pe_v (pv 7)) (pa_consV (pe_v (pv 1)) pa_nilA))) pa_nilL)))) (Nat.le_of_ble_eq_true rfl)) pa_nilL)) (Nat.le_of_ble_eq_true rfl)))) ss_nil)
    (ss_cons (ss_set nd rfl (by first | exact .inl rfl | exact .inr rfl) (pe_op2 op_addB rs_add (pe_op2 op_sub rs_sub (pe_v (pv 4)) (pe_ixE (pe_v (pv 1)) (pe_cst pe_int (fun _ => den_int _)) (fun _ _ => rfl))) (pe_v (pv 9))))
    (ss_cons (ss_if (PW.pt (pw_orB (pt_cmp2 (op_neD hr.units) rs_ne (pe_v (pv 8)) (pe_ixE (pe_v (pv 1)) (pe_cst pe_int (fun _ => den_int _)) (fun _ _ => rfl)) (nomark _)) (pw_or1 (PW.pt (pw_andB (pt_cmp2 (op_ltD hr.units) rs_ord (pe_v (pv 2)) (pe_cst pe_int (fun _ => den_int _)) (nomark _)) (pw_and1 (pt_cmp2 (op_eqD hr.units) rs_eq (pe_v (pv 5)) (pe_cst pe_int (fun _ => den_int _)) (nomark _)))))))) (ss_one (ss_ret (pe_cst pe_non (fun _ => den_non)))) ss_nil)
    (ss_cons (ss_set nd rfl (by first | exact .inl rfl | exact .inr rfl) (pe_ifE (pt_cmp2 (op_ltD hr.units) rs_ord (pe_v (pv 2)) (pe_cst pe_int (fun _ => den_int _)) (nomark _)) (pe_un1 un_neg rs_neg (pe_op2 op_fdiv rs_fdiv (pe_v (pv 2)) (pe_v (pv 5)))) (pe_cst pe_int (fun _ => den_int _))))
    (ss_one (ss_ret (pe_tupE (pa_consL (pe_v (pv 3)) (pa_consL (pe_tupE (pa_consL (pe_op2 op_addB rs_add (pe_v (pv 2)) (pe_op2 op_mulA rs_mul (pe_v (pv 5)) (pe_v (pv 3)))) (pa_consL (pe_v (pv 5)) (pa_consL (pe_v (pv 6)) (pa_consL (pe_tupE pa_nilL (Nat.le_of_ble_eq_true rfl)) pa_nilL)))) (Nat.le_of_ble_eq_true rfl)) pa_nilL)) (Nat.le_of_ble_eq_true rfl))))))))))
def S_upper_terms (g_upper_term : FF) : FF := fnOf 2 6 (seqS (asgS 2 (lcE (enumI (var 0)) [3, 4] (tgT [(tgN 3), (tgN 4)]) yesB (tupE [(var 3), (callE g_upper_term [] [.v (var 4), .v (var 1)])]))) (retS (lcE (seqI (var 2)) [3, 5] (tgT [(tgN 3), (tgN 5)]) (asB (op2 gNotN (var 5) (cst .none))) (tupE [(var 3), (ixE (var 5) (cst (.int 0))), (ixE (var 5) (cst (.int 1)))]))))
theorem sc_upper_terms : FnScope ["forest", "height", "found", "t", "term", "told"] ["forest", "height"] (defScope (top 57)) := ⟨rfl, rfl, rfl, by decide +kernel, rfl, by decide +kernel, by decide +kernel⟩
theorem ok_upper_terms {k : Nat} {dvs0 : List V} {dds : List D} {g_upper_term : FF} (T : DefT K mg "upper_terms" ["forest", "height"] (defArgs (top 57)) (defBody (top 57)) (defScope (top 57)) dvs0 dds) (fr_enumerate : mg "enumerate" = none) (c_upper_term : OkF P w K mg base "upper_term" k ["term", "height"] [] g_upper_term) : OkF P w K mg base "upper_terms" (k + 1) ["forest", "height"] dds (S_upper_terms g_upper_term) := by
  refine T.ok sc_upper_terms rfl (by decide) (fun f cdv A outer s H E hr => ?_)
  have nd := sc_upper_terms.nd
  exact (ss_cons (ss_setLcV rfl nd rfl rfl (sw_true rfl rfl rfl (by decide +kernel)) (pi_enumE rfl fr_enumerate (pe_v (pv 0))) (blkOk_by (own := [("t", 3), ("term", 4)]) (by show blkC ["forest", "height", "found", "t", "term", "told"] (defScope (top 57)) _ _ = true; decide +kernel)) (fun _ _ _ _ _ => (pg_t rfl (pgs_c (pg_n (pg_name nd rfl (by first | exact .inl rfl | exact .inr rfl))) (pgs_c (pg_n (pg_name nd rfl (by first | exact .inl rfl | exact .inr rfl))) pgs_n)) rfl)) (fun _ _ _ _ _ => pts_yes) (fun _ _ _ _ _ => (pe_tupE (pa_consL (pe_v (pv 3)) (pa_consL (pe_cf c_upper_term hr rfl takes0 (pa_consV (pe_v (pv 4)) (pa_consV (pe_v (pv 1)) pa_nilA))) pa_nilL)) (Nat.le_of_ble_eq_true rfl))) (by decide))
    (ss_one (ss_ret (pe_lcV rfl nd (pi_seqI (pe_v (pv 2))) (blkOk_by (own := [("t", 3), ("told", 5)]) (by show blkC ["forest", "height", "found", "t", "term", "told"] (defScope (top 57)) _ _ = true; decide +kernel)) (fun _ _ _ _ _ => (pg_t rfl (pgs_c (pg_n (pg_name nd rfl (by first | exact .inl rfl | exact .inr rfl))) (pgs_c (pg_n (pg_name nd rfl (by first | exact .inl rfl | exact .inr rfl))) pgs_n)) rfl)) (fun _ _ _ _ _ => (pts_one (pt_cmp2 op_notN rs_notN (pe_v (pv 5)) (pe_cst pe_non (fun _ => den_non)) (nomark _)))) (fun _ _ _ _ _ => (pe_tupE (pa_consL (pe_v (pv 3)) (pa_consL (pe_ixE (pe_v (pv 5)) (pe_cst pe_int (fun _ => den_int _)) (fun _ _ => rfl)) (pa_consL (pe_ixE (pe_v (pv 5)) (pe_cst pe_int (fun _ => den_int _)) (fun _ _ => rfl)) pa_nilL))) (Nat.le_of_ble_eq_true rfl))) (by decide)))))
def S_upper_in (g_upper_terms : FF) : FF := fnOf 2 4 (retS (cb1 gTuple (lcE (seqI (callE g_upper_terms [] [.v (var 0), .v (var 1)])) [2, 3] (tgT [(tgN 2), (tgN 2), (tgN 3)]) yesB (var 3))))
theorem sc_upper_in : FnScope ["forest", "height", "_", "term"] ["forest", "height"] (defScope (top 58)) := ⟨rfl, rfl, rfl, by decide +kernel, rfl, by decide +kernel, by decide +kernel⟩
theorem ok_upper_in {k : Nat} {dvs0 : List V} {dds : List D} {g_upper_terms : FF} (T : DefT K mg "upper_in" ["forest", "height"] (defArgs (top 58)) (defBody (top 58)) (defScope (top 58)) dvs0 dds) (fr_tuple : mg "tuple" = none) (c_upper_terms : OkF P w K mg base "upper_terms" k ["forest", "height"] [] g_upper_terms) : OkF P w K mg base "upper_in" (k + 1) ["forest", "height"] dds (S_upper_in g_upper_terms) := by
  refine T.ok sc_upper_in rfl (by decide) (fun f cdv A outer s H E hr => ?_)
  have nd := sc_upper_in.nd
  exact (ss_one (ss_ret (pe_ct1 call_tuple_of rc_tuple rfl fr_tuple (by decide +kernel) (pe_lcV rfl nd (pi_seqI (pe_cf c_upper_terms hr rfl (L2.takes_of rfl rfl rfl rfl) (pa_consV (pe_v (pv 0)) (pa_consV (pe_v (pv 1)) pa_nilA)))) (blkOk_by (own := [("_", 2), ("term", 3)]) (by show blkC ["forest", "height", "_", "term"] (defScope (top 58)) _ _ = true; decide +kernel)) (fun _ _ _ _ _ => (pg_t rfl (pgs_c (pg_n (pg_name nd rfl (by first | exact .inl rfl | exact .inr rfl))) (pgs_c (pg_n (pg_name nd rfl (by first | exact .inl rfl | exact .inr rfl))) (pgs_c (pg_n (pg_name nd rfl (by first | exact .inl rfl | exact .inr rfl))) pgs_n))) rfl)) (fun _ _ _ _ _ => pts_yes) (fun _ _ _ _ _ => (pe_v (pv 3))) (by decide)))))
def S_upper (g_upper_in g_check_height g_check_forest : FF) : FF := fnOf 2 2 (seqS (drpS (callE g_check_forest [] [.v (var 0)])) (seqS (drpS (callE g_check_height [] [.v (var 1)])) (retS (callE g_upper_in [] [.v (var 0), .v (var 1)]))))
theorem sc_upper : FnScope ["forest", "height"] ["forest", "height"] (defScope (top 59)) := ⟨rfl, rfl, rfl, by decide +kernel, rfl, by decide +kernel, by decide +kernel⟩
theorem ok_upper {k : Nat} {dvs0 : List V} {dds : List D} {g_upper_in g_check_height g_check_forest : FF} (T : DefT K mg "upper" ["forest", "height"] (defArgs (top 59)) (defBody (top 59)) (defScope (top 59)) dvs0 dds) (c_upper_in : OkF P w K mg base "upper_in" k ["forest", "height"] [] g_upper_in) (c_check_height : OkF P w K mg base "check_height" k ["value"] [] g_check_height) (c_check_forest : OkF P w K mg base "check_forest" k ["value"] [] g_check_forest) : OkF P w K mg base "upper" (k + 1) ["forest", "height"] dds (S_upper g_upper_in g_check_height g_check_forest) := by
  refine T.ok sc_upper rfl (by decide) (fun f cdv A outer s H E hr => ?_)
  have nd := sc_upper.nd
  exact (ss_cons (ss_expr (pe_cf c_check_forest hr rfl (L2.takes_of rfl rfl rfl rfl) (pa_consV (pe_v (pv 0)) pa_nilA)))
    (ss_cons (ss_expr (pe_cf c_check_height hr rfl (L2.takes_of rfl rfl rfl rfl) (pa_consV (pe_v (pv 1)) pa_nilA)))
    (ss_one (ss_ret (pe_cf c_upper_in hr rfl (L2.takes_of rfl rfl rfl rfl) (pa_consV (pe_v (pv 0)) (pa_consV (pe_v (pv 1)) pa_nilA)))))))
def S__law_begin : FF := fnOf 1 3 (seqS (asgS 1 (lcE (seqI (slE (var 0) none (some (cst (.int 63))))) [2] (tgN 2) yesB (ifE (asB (op2 gGe (var 2) (cst (.int 0)))) (op2 gMul (cb1 gInt (var 2)) (cst (.int 2))) (op2 gSub (op2 gMul (op1 gNeg (cb1 gInt (var 2))) (cst (.int 2))) (cst (.int 1)))))) (retS (dispE [(.inr "cells", (var 1)), (.inr "at", (cst (.int 0))), (.inr "left", (cst (.int 0))), (.inr "count", (cst (.int 0))), (.inr "sum", (op2 gMod (cb1 gInt (cb1 gSum (var 1))) (cst (.int 1000003))))])))
theorem sc__law_begin : FnScope ["script", "cells", "cell"] ["script"] (defScope (top 61)) := ⟨rfl, rfl, rfl, by decide +kernel, rfl, by decide +kernel, by decide +kernel⟩
theorem ok__law_begin {k : Nat} {dvs0 : List V} {dds : List D} (T : DefT K mg "_law_begin" ["script"] (defArgs (top 61)) (defBody (top 61)) (defScope (top 61)) dvs0 dds) (fr_int : mg "int" = none) (fr_sum : mg "sum" = none) : OkF P w K mg base "_law_begin" (k + 1) ["script"] dds (S__law_begin) := by
  refine T.ok sc__law_begin rfl (by decide) (fun f cdv A outer s H E hr => ?_)
  have nd := sc__law_begin.nd
  exact (ss_cons (ss_setLcV rfl nd rfl rfl (sw_true rfl rfl rfl (by decide +kernel)) (pi_seqI (pe_slE (pe_v (pv 0)) po_no (po_so (pe_cst pe_int (fun _ => den_int _))))) (blkOk_by (own := [("cell", 2)]) (by show blkC ["script", "cells", "cell"] (defScope (top 61)) _ _ = true; decide +kernel)) (fun _ _ _ _ _ => (pg_n (pg_name nd rfl (by first | exact .inl rfl | exact .inr rfl)))) (fun _ _ _ _ _ => pts_yes) (fun _ _ _ _ _ => (pe_ifE (pt_cmp2 (op_geD hr.units) rs_ord (pe_v (pv 2)) (pe_cst pe_int (fun _ => den_int _)) (nomark _)) (pe_op2 op_mulA rs_mul (pe_ct1 call_int1 rc_int rfl fr_int (by decide +kernel) (pe_v (pv 2))) (pe_cst pe_int (fun _ => den_int _))) (pe_op2 op_sub rs_sub (pe_op2 op_mulA rs_mul (pe_un1 un_neg rs_neg (pe_ct1 call_int1 rc_int rfl fr_int (by decide +kernel) (pe_v (pv 2)))) (pe_cst pe_int (fun _ => den_int _))) (pe_cst pe_int (fun _ => den_int _))))) (by decide))
    (ss_one (ss_ret (pe_dispE (pps_c (ky := .inr "cells") pe_str (pe_v (pv 1)) (pps_c (ky := .inr "at") pe_str (pe_cst pe_int (fun _ => den_int _)) (pps_c (ky := .inr "left") pe_str (pe_cst pe_int (fun _ => den_int _)) (pps_c (ky := .inr "count") pe_str (pe_cst pe_int (fun _ => den_int _)) (pps_c (ky := .inr "sum") pe_str (pe_op2 op_mod rs_mod (pe_ct1 call_int1 rc_int rfl fr_int (by decide +kernel) (pe_cb1 (call_sumA rfl) rc_sum rfl fr_sum (by decide +kernel) (pe_v (pv 1)))) (pe_cst pe_int (fun _ => den_int _))) pps_n)))))))))
def S__law_draw : FF := fnOf 2 5 (seqS (putS (var 0) (cst (.str "count")) (op2 gAddA (dgE (var 0) (cst (.str "count"))) (cst (.int 1)))) (seqS (ifS (asB (op2 gLt (dgE (var 0) (cst (.str "left"))) (var 1))) (seqS (asgS 3 (op2 gAddA (dgE (var 0) (cst (.str "sum"))) (dgE (var 0) (cst (.str "count"))))) (seqS (ifS (asB (op2 gLt (dgE (var 0) (cst (.str "at"))) (cb1 gLen (dgE (var 0) (cst (.str "cells")))))) (seqS (asgS 3 (ixE (dgE (var 0) (cst (.str "cells"))) (dgE (var 0) (cst (.str "at"))))) (putS (var 0) (cst (.str "at")) (op2 gAddA (dgE (var 0) (cst (.str "at"))) (cst (.int 1))))) nxS) (seqS (ifS (asB (op2 gLt (var 3) (op2 gPow (cst (.int 10)) (cst (.int 18))))) (seqS (asgS 4 (op2 gMod (cb1 gInt (op2 gAddA (op2 gAddA (op2 gMul (var 3) (cst (.int 48271))) (op2 gMul (dgE (var 0) (cst (.str "count"))) (cst (.int 69621)))) (cst (.int 12345)))) (cst (.int 2305843009213693951)))) (seqS (asgS 4 (op2 gMod (cb1 gInt (op2 gAddA (op2 gAddA (op2 gMul (var 4) (var 4)) (var 3)) (op2 gMul (dgE (var 0) (cst (.str "count"))) (cst (.int 7919))))) (cst (.int 2305843009213693951)))) (asgS 3 (op2 gMod (cb1 gInt (op2 gAddA (op2 gAddA (op2 gMul (op2 gMul (var 4) (var 4)) (cst (.int 16807))) (op2 gMul (var 3) (cst (.int 40014)))) (cst (.int 1)))) (cst (.int 2305843009213693951)))))) nxS) (putS (var 0) (cst (.str "left")) (var 3))))) nxS) (seqS (asgS 2 (op2 gMod (cb1 gInt (dgE (var 0) (cst (.str "left")))) (var 1))) (seqS (putS (var 0) (cst (.str "left")) (op2 gFdiv (cb1 gInt (dgE (var 0) (cst (.str "left")))) (var 1))) (retS (var 2))))))
theorem sc__law_draw : FnScope ["state", "many", "number", "cell", "mixed"] ["state", "many"] (defScope (top 62)) := ⟨rfl, rfl, rfl, by decide +kernel, rfl, by decide +kernel, by decide +kernel⟩
theorem ok__law_draw {k : Nat} {dvs0 : List V} {dds : List D} (T : DefT K mg "_law_draw" ["state", "many"] (defArgs (top 62)) (defBody (top 62)) (defScope (top 62)) dvs0 dds) (fr_int : mg "int" = none) (fr_len : mg "len" = none) : OkF P w K mg base "_law_draw" (k + 1) ["state", "many"] dds (S__law_draw) := by
  refine T.ok sc__law_draw rfl (by decide) (fun f cdv A outer s H E hr => ?_)
  have nd := sc__law_draw.nd
  exact (ss_cons (ss_put (hu1 hr) (pe_v (pv 0)) (pe_cst pe_str (fun _ => den_str _)) (pe_op2 op_addB rs_add (pe_dg (hu1 hr) (pe_v (pv 0)) (pe_cst pe_str (fun _ => den_str _)) (fun _ _ => rfl)) (pe_cst pe_int (fun _ => den_int _))))
    (ss_cons (ss_if (pt_cmp2 (op_ltD hr.units) rs_ord (pe_dg (hu1 hr) (pe_v (pv 0)) (pe_cst pe_str (fun _ => den_str _)) (fun _ _ => rfl)) (pe_v (pv 1)) (nomark _)) (ss_cons (ss_set nd rfl (by first | exact .inl rfl | exact .inr rfl) (pe_op2 op_addB rs_add (pe_dg (hu1 hr) (pe_v (pv 0)) (pe_cst pe_str (fun _ => den_str _)) (fun _ _ => rfl)) (pe_dg (hu1 hr) (pe_v (pv 0)) (pe_cst pe_str (fun _ => den_str _)) (fun _ _ => rfl))))
    (ss_cons (ss_if (pt_cmp2 (op_ltD hr.units) rs_ord (pe_dg (hu1 hr) (pe_v (pv 0)) (pe_cst pe_str (fun _ => den_str _)) (fun _ _ => rfl)) (pe_cb1 call_lenA rc_len rfl fr_len (by decide +kernel) (pe_dg (hu1 hr) (pe_v (pv 0)) (pe_cst pe_str (fun _ => den_str _)) (fun _ _ => rfl))) (nomark _)) (ss_cons (ss_set nd rfl (by first | exact .inl rfl | exact .inr rfl) (pe_ixE (pe_dg (hu1 hr) (pe_v (pv 0)) (pe_cst pe_str (fun _ => den_str _)) (fun _ _ => rfl)) (pe_dg (hu1 hr) (pe_v (pv 0)) (pe_cst pe_str (fun _ => den_str _)) (fun _ _ => rfl)) (fun _ _ => rfl)))
    (ss_one (ss_put (hu1 hr) (pe_v (pv 0)) (pe_cst pe_str (fun _ => den_str _)) (pe_op2 op_addB rs_add (pe_dg (hu1 hr) (pe_v (pv 0)) (pe_cst pe_str (fun _ => den_str _)) (fun _ _ => rfl)) (pe_cst pe_int (fun _ => den_int _)))))) ss_nil)
    (ss_cons (ss_if (pt_cmp2 (op_ltD hr.units) rs_ord (pe_v (pv 3)) (pe_op2 op_pow rs_pow (pe_cst pe_int (fun _ => den_int _)) (pe_cst pe_int (fun _ => den_int _))) (nomark _)) (ss_cons (ss_set nd rfl (by first | exact .inl rfl | exact .inr rfl) (pe_op2 op_mod rs_mod (pe_ct1 call_int1 rc_int rfl fr_int (by decide +kernel) (pe_op2 op_addB rs_add (pe_op2 op_addB rs_add (pe_op2 op_mulA rs_mul (pe_v (pv 3)) (pe_cst pe_int (fun _ => den_int _))) (pe_op2 op_mulA rs_mul (pe_dg (hu1 hr) (pe_v (pv 0)) (pe_cst pe_str (fun _ => den_str _)) (fun _ _ => rfl)) (pe_cst pe_int (fun _ => den_int _)))) (pe_cst pe_int (fun _ => den_int _)))) (pe_cst pe_int (fun _ => den_int _))))
    (ss_cons (ss_set nd rfl (by first | exact .inl rfl | exact .inr rfl) (pe_op2 op_mod rs_mod (pe_ct1 call_int1 rc_int rfl fr_int (by decide +kernel) (pe_op2 op_addB rs_add (pe_op2 op_addB rs_add (pe_op2 op_mulA rs_mul (pe_v (pv 4)) (pe_v (pv 4))) (pe_v (pv 3))) (pe_op2 op_mulA rs_mul (pe_dg (hu1 hr) (pe_v (pv 0)) (pe_cst pe_str (fun _ => den_str _)) (fun _ _ => rfl)) (pe_cst pe_int (fun _ => den_int _))))) (pe_cst pe_int (fun _ => den_int _))))
    (ss_one (ss_set nd rfl (by first | exact .inl rfl | exact .inr rfl) (pe_op2 op_mod rs_mod (pe_ct1 call_int1 rc_int rfl fr_int (by decide +kernel) (pe_op2 op_addB rs_add (pe_op2 op_addB rs_add (pe_op2 op_mulA rs_mul (pe_op2 op_mulA rs_mul (pe_v (pv 4)) (pe_v (pv 4))) (pe_cst pe_int (fun _ => den_int _))) (pe_op2 op_mulA rs_mul (pe_v (pv 3)) (pe_cst pe_int (fun _ => den_int _)))) (pe_cst pe_int (fun _ => den_int _)))) (pe_cst pe_int (fun _ => den_int _))))))) ss_nil)
    (ss_one (ss_put (hu1 hr) (pe_v (pv 0)) (pe_cst pe_str (fun _ => den_str _)) (pe_v (pv 3))))))) ss_nil)
    (ss_cons (ss_set nd rfl (by first | exact .inl rfl | exact .inr rfl) (pe_op2 op_mod rs_mod (pe_ct1 call_int1 rc_int rfl fr_int (by decide +kernel) (pe_dg (hu1 hr) (pe_v (pv 0)) (pe_cst pe_str (fun _ => den_str _)) (fun _ _ => rfl))) (pe_v (pv 1))))
    (ss_cons (ss_put (hu1 hr) (pe_v (pv 0)) (pe_cst pe_str (fun _ => den_str _)) (pe_op2 op_fdiv rs_fdiv (pe_ct1 call_int1 rc_int rfl fr_int (by decide +kernel) (pe_dg (hu1 hr) (pe_v (pv 0)) (pe_cst pe_str (fun _ => den_str _)) (fun _ _ => rfl))) (pe_v (pv 1))))
    (ss_one (ss_ret (pe_v (pv 2))))))))
def S__law_terms (g__law_terms : FF) : FF := fnOf 1 5 (retS (cb1 gSum (lcE (seqI (var 0)) [1, 2, 3, 4] (tgT [(tgN 1), (tgN 2), (tgN 3), (tgN 4)]) yesB (op2 gAddA (cst (.int 1)) (callE g__law_terms [] [.v (var 4)])))))
theorem sc__law_terms : FnScope ["forest", "a", "d", "m", "inner"] ["forest"] (defScope (top 63)) := ⟨rfl, rfl, rfl, by decide +kernel, rfl, by decide +kernel, by decide +kernel⟩
theorem ok__law_terms {k : Nat} {dvs0 : List V} {dds : List D} {g__law_terms : FF} (T : DefT K mg "_law_terms" ["forest"] (defArgs (top 63)) (defBody (top 63)) (defScope (top 63)) dvs0 dds) (fr_sum : mg "sum" = none) (c__law_terms : OkF P w K mg base "_law_terms" k ["forest"] [] g__law_terms) : OkF P w K mg base "_law_terms" (k + 1) ["forest"] dds (S__law_terms g__law_terms) := by
  refine T.ok sc__law_terms rfl (by decide) (fun f cdv A outer s H E hr => ?_)
  have nd := sc__law_terms.nd
  exact (ss_one (ss_ret (pe_cb1 (call_sumA rfl) rc_sum rfl fr_sum (by decide +kernel) (pe_lcV rfl nd (pi_seqI (pe_v (pv 0))) (blkOk_by (own := [("a", 1), ("d", 2), ("m", 3), ("inner", 4)]) (by show blkC ["forest", "a", "d", "m", "inner"] (defScope (top 63)) _ _ = true; decide +kernel)) (fun _ _ _ _ _ => (pg_t rfl (pgs_c (pg_n (pg_name nd rfl (by first | exact .inl rfl | exact .inr rfl))) (pgs_c (pg_n (pg_name nd rfl (by first | exact .inl rfl | exact .inr rfl))) (pgs_c (pg_n (pg_name nd rfl (by first | exact .inl rfl | exact .inr rfl))) (pgs_c (pg_n (pg_name nd rfl (by first | exact .inl rfl | exact .inr rfl))) pgs_n)))) rfl)) (fun _ _ _ _ _ => pts_yes) (fun _ _ _ _ _ => (pe_op2 op_addB rs_add (pe_cst pe_int (fun _ => den_int _)) (pe_cf c__law_terms hr rfl takes0 (pa_consV (pe_v (pv 4)) pa_nilA)))) (by decide)))))
def S__law_forest (g__law_terms g__law_draw g__law_forest : FF) : FF := fnOf 2 8 (seqS (asgS 2 (lstE [])) (seqS (forS (rngI1 (op2 gAddA (cst (.int 1)) (callE g__law_draw [] [.b (var 0), .v (cst (.int 3))]))) (tgN 3) (seqS (asgS 4 (callE g__law_draw [] [.b (var 0), .v (ixE (lstE [(cst (.int 2)), (cst (.int 4)), (cst (.int 9))]) (callE g__law_draw [] [.b (var 0), .v (cst (.int 3))]))])) (seqS (asgS 5 (ixE (lstE [(cst (.int 0)), (cst (.int 0)), (cst (.int 0)), (cst (.int 1)), (cst (.int 2)), (cst (.int 3))]) (callE g__law_draw [] [.b (var 0), .v (cst (.int 6))]))) (seqS (asgS 6 (ixE (lstE [(cst (.int 1)), (cst (.int 1)), (cst (.int 2)), (cst (.int 3)), (cst (.int 9)), (op1 gNeg (cst (.int 1)))]) (callE g__law_draw [] [.b (var 0), .v (cst (.int 6))]))) (seqS (asgS 7 (ifE (andB (asB (op2 gGt (var 1) (cst (.int 1)))) (asB (op2 gEq (callE g__law_draw [] [.b (var 0), .v (cst (.int 2))]) (cst (.int 0))))) (callE g__law_forest [] [.b (var 0), .v (op2 gSub (var 1) (cst (.int 1)))]) (tupE []))) (drpS (appE (var 2) (tupE [(var 4), (var 5), (var 6), (var 7)])))))))) (retS (ifE (asB (op2 gLe (callE g__law_terms [] [.v (var 2)]) (cst (.int 12)))) (cb1 gTuple (var 2)) (cb1 gTuple (lcE (seqI (var 2)) [4, 5, 6, 7] (tgT [(tgN 4), (tgN 5), (tgN 6), (tgN 7)]) yesB (tupE [(var 4), (var 5), (var 6), (tupE [])])))))))
theorem sc__law_forest : FnScope ["state", "deep", "found", "turn", "a", "d", "m", "inner"] ["state", "deep"] (defScope (top 64)) := ⟨rfl, rfl, rfl, by decide +kernel, rfl, by decide +kernel, by decide +kernel⟩
theorem ok__law_forest {k : Nat} {dvs0 : List V} {dds : List D} {g__law_terms g__law_draw g__law_forest : FF} (T : DefT K mg "_law_forest" ["state", "deep"] (defArgs (top 64)) (defBody (top 64)) (defScope (top 64)) dvs0 dds) (fr_range : mg "range" = none) (fr_tuple : mg "tuple" = none) (c__law_terms : OkF P w K mg base "_law_terms" k ["forest"] [] g__law_terms) (c__law_draw : OkF P w K mg base "_law_draw" k ["state", "many"] [] g__law_draw) (c__law_forest : OkF P w K mg base "_law_forest" k ["state", "deep"] [] g__law_forest) : OkF P w K mg base "_law_forest" (k + 1) ["state", "deep"] dds (S__law_forest g__law_terms g__law_draw g__law_forest) := by
  refine T.ok sc__law_forest rfl (by decide) (fun f cdv A outer s H E hr => ?_)
  have nd := sc__law_forest.nd
  exact (ss_cons (ss_set nd rfl (by first | exact .inl rfl | exact .inr rfl) (pe_lstE pa_nilL (Nat.le_of_ble_eq_true rfl)))
    (ss_cons (ss_for (passes_of rfl) rfl (pi_rng1 rfl fr_range (pe_op2 op_addB rs_add (pe_cst pe_int (fun _ => den_int _)) (pe_cf c__law_draw hr rfl (L2.takes_of rfl rfl rfl rfl) (pa_consB (pe_v (pv 0)) (pa_consV (pe_cst pe_int (fun _ => den_int _)) pa_nilA))))) (pg_n (pg_name nd rfl (by first | exact .inl rfl | exact .inr rfl))) (ss_cons (ss_set nd rfl (by first | exact .inl rfl | exact .inr rfl) (pe_cf c__law_draw hr rfl (L2.takes_of rfl rfl rfl rfl) (pa_consB (pe_v (pv 0)) (pa_consV (pe_ixE (pe_lstE (pa_consL (pe_cst pe_int (fun _ => den_int _)) (pa_consL (pe_cst pe_int (fun _ => den_int _)) (pa_consL (pe_cst pe_int (fun _ => den_int _)) pa_nilL))) (Nat.le_of_ble_eq_true rfl)) (pe_cf c__law_draw hr rfl (L2.takes_of rfl rfl rfl rfl) (pa_consB (pe_v (pv 0)) (pa_consV (pe_cst pe_int (fun _ => den_int _)) pa_nilA))) (fun _ _ => rfl)) pa_nilA))))
    (ss_cons (ss_set nd rfl (by first | exact .inl rfl | exact .inr rfl) (pe_ixE (pe_lstE (pa_consL (pe_cst pe_int (fun _ => den_int _)) (pa_consL (pe_cst pe_int (fun _ => den_int _)) (pa_consL (pe_cst pe_int (fun _ => den_int _)) (pa_consL (pe_cst pe_int (fun _ => den_int _)) (pa_consL (pe_cst pe_int (fun _ => den_int _)) (pa_consL (pe_cst pe_int (fun _ => den_int _)) pa_nilL)))))) (Nat.le_of_ble_eq_true rfl)) (pe_cf c__law_draw hr rfl (L2.takes_of rfl rfl rfl rfl) (pa_consB (pe_v (pv 0)) (pa_consV (pe_cst pe_int (fun _ => den_int _)) pa_nilA))) (fun _ _ => rfl)))
    (ss_cons (ss_set nd rfl (by first | exact .inl rfl | exact .inr rfl) (pe_ixE (pe_lstE (pa_consL (pe_cst pe_int (fun _ => den_int _)) (pa_consL (pe_cst pe_int (fun _ => den_int _)) (pa_consL (pe_cst pe_int (fun _ => den_int _)) (pa_consL (pe_cst pe_int (fun _ => den_int _)) (pa_consL (pe_cst pe_int (fun _ => den_int _)) (pa_consL (pe_un1 un_neg rs_neg (pe_cst pe_int (fun _ => den_int _))) pa_nilL)))))) (Nat.le_of_ble_eq_true rfl)) (pe_cf c__law_draw hr rfl (L2.takes_of rfl rfl rfl rfl) (pa_consB (pe_v (pv 0)) (pa_consV (pe_cst pe_int (fun _ => den_int _)) pa_nilA))) (fun _ _ => rfl)))
    (ss_cons (ss_set nd rfl (by first | exact .inl rfl | exact .inr rfl) (pe_ifE (PW.pt (pw_andB (pt_cmp2 (op_gtD hr.units) rs_ord (pe_v (pv 1)) (pe_cst pe_int (fun _ => den_int _)) (nomark _)) (pw_and1 (pt_cmp2 (op_eqD hr.units) rs_eq (pe_cf c__law_draw hr rfl (L2.takes_of rfl rfl rfl rfl) (pa_consB (pe_v (pv 0)) (pa_consV (pe_cst pe_int (fun _ => den_int _)) pa_nilA))) (pe_cst pe_int (fun _ => den_int _)) (nomark _))))) (pe_cf c__law_forest hr rfl (L2.takes_of rfl rfl rfl rfl) (pa_consB (pe_v (pv 0)) (pa_consV (pe_op2 op_sub rs_sub (pe_v (pv 1)) (pe_cst pe_int (fun _ => den_int _))) pa_nilA))) (pe_tupE pa_nilL (Nat.le_of_ble_eq_true rfl))))
    (ss_one (ss_expr (pe_app rfl (pe_v (pv 2)) (pe_tupE (pa_consL (pe_v (pv 4)) (pa_consL (pe_v (pv 5)) (pa_consL (pe_v (pv 6)) (pa_consL (pe_v (pv 7)) pa_nilL)))) (Nat.le_of_ble_eq_true rfl))))))))))
    (ss_one (ss_ret (pe_ifE (pt_cmp2 (op_leD hr.units) rs_ord (pe_cf c__law_terms hr rfl (L2.takes_of rfl rfl rfl rfl) (pa_consV (pe_v (pv 2)) pa_nilA)) (pe_cst pe_int (fun _ => den_int _)) (nomark _)) (pe_ct1 call_tuple_of rc_tuple rfl fr_tuple (by decide +kernel) (pe_v (pv 2))) (pe_ct1 call_tuple_of rc_tuple rfl fr_tuple (by decide +kernel) (pe_lcV rfl nd (pi_seqI (pe_v (pv 2))) (blkOk_by (own := [("a", 4), ("d", 5), ("m", 6), ("inner", 7)]) (by show blkC ["state", "deep", "found", "turn", "a", "d", "m", "inner"] (defScope (top 64)) _ _ = true; decide +kernel)) (fun _ _ _ _ _ => (pg_t rfl (pgs_c (pg_n (pg_name nd rfl (by first | exact .inl rfl | exact .inr rfl))) (pgs_c (pg_n (pg_name nd rfl (by first | exact .inl rfl | exact .inr rfl))) (pgs_c (pg_n (pg_name nd rfl (by first | exact .inl rfl | exact .inr rfl))) (pgs_c (pg_n (pg_name nd rfl (by first | exact .inl rfl | exact .inr rfl))) pgs_n)))) rfl)) (fun _ _ _ _ _ => pts_yes) (fun _ _ _ _ _ => (pe_tupE (pa_consL (pe_v (pv 4)) (pa_consL (pe_v (pv 5)) (pa_consL (pe_v (pv 6)) (pa_consL (pe_tupE pa_nilL (Nat.le_of_ble_eq_true rfl)) pa_nilL)))) (Nat.le_of_ble_eq_true rfl))) (by decide))))))))
def S__law_deep (g__law_draw : FF) : FF := fnOf 1 7 (seqS (asgS 1 (tupE [])) (seqS (forS (rngI1 (cst (.int 4))) (tgN 2) (seqS (parV [4, 5, 6] [(callE g__law_draw [] [.b (var 0), .v (cst (.int 4))]), (ixE (lstE [(cst (.int 0)), (cst (.int 1)), (cst (.int 1)), (cst (.int 2))]) (callE g__law_draw [] [.b (var 0), .v (cst (.int 4))])), (ixE (lstE [(cst (.int 1)), (cst (.int 1)), (op1 gNeg (cst (.int 1)))]) (callE g__law_draw [] [.b (var 0), .v (cst (.int 3))]))]) (seqS (asgS 3 (ifE (asB (op2 gEq (callE g__law_draw [] [.b (var 0), .v (cst (.int 3))]) (cst (.int 0)))) (tupE [(tupE [(callE g__law_draw [] [.b (var 0), .v (cst (.int 3))]), (callE g__law_draw [] [.b (var 0), .v (cst (.int 2))]), (cst (.int 1)), (tupE [])])]) (tupE []))) (asgS 1 (op2 gAddA (tupE [(tupE [(var 4), (var 5), (var 6), (var 1)])]) (var 3)))))) (retS (var 1))))
theorem sc__law_deep : FnScope ["state", "found", "level", "beside", "a", "d", "m"] ["state"] (defScope (top 65)) := ⟨rfl, rfl, rfl, by decide +kernel, rfl, by decide +kernel, by decide +kernel⟩
theorem ok__law_deep {k : Nat} {dvs0 : List V} {dds : List D} {g__law_draw : FF} (T : DefT K mg "_law_deep" ["state"] (defArgs (top 65)) (defBody (top 65)) (defScope (top 65)) dvs0 dds) (fr_range : mg "range" = none) (c__law_draw : OkF P w K mg base "_law_draw" k ["state", "many"] [] g__law_draw) : OkF P w K mg base "_law_deep" (k + 1) ["state"] dds (S__law_deep g__law_draw) := by
  refine T.ok sc__law_deep rfl (by decide) (fun f cdv A outer s H E hr => ?_)
  have nd := sc__law_deep.nd
  exact (ss_cons (ss_set nd rfl (by first | exact .inl rfl | exact .inr rfl) (pe_tupE pa_nilL (Nat.le_of_ble_eq_true rfl)))
    (ss_cons (ss_for (passes_of rfl) rfl (pi_rng1 rfl fr_range (pe_cst pe_int (fun _ => den_int _))) (pg_n (pg_name nd rfl (by first | exact .inl rfl | exact .inr rfl))) (ss_cons (ss_parV3 rfl nd rfl rfl rfl (by decide) (by decide) (by decide) rfl rfl rfl (pa_consL (pe_cf c__law_draw hr rfl (L2.takes_of rfl rfl rfl rfl) (pa_consB (pe_v (pv 0)) (pa_consV (pe_cst pe_int (fun _ => den_int _)) pa_nilA))) (pa_consL (pe_ixE (pe_lstE (pa_consL (pe_cst pe_int (fun _ => den_int _)) (pa_consL (pe_cst pe_int (fun _ => den_int _)) (pa_consL (pe_cst pe_int (fun _ => den_int _)) (pa_consL (pe_cst pe_int (fun _ => den_int _)) pa_nilL)))) (Nat.le_of_ble_eq_true rfl)) (pe_cf c__law_draw hr rfl (L2.takes_of rfl rfl rfl rfl) (pa_consB (pe_v (pv 0)) (pa_consV (pe_cst pe_int (fun _ => den_int _)) pa_nilA))) (fun _ _ => rfl)) (pa_consL (pe_ixE (pe_lstE (pa_consL (pe_cst pe_int (fun _ => den_int _)) (pa_consL (pe_cst pe_int (fun _ => den_int _)) (pa_consL (pe_un1 un_neg rs_neg (pe_cst pe_int (fun _ => den_int _))) pa_nilL))) (Nat.le_of_ble_eq_true rfl)) (pe_cf c__law_draw hr rfl (L2.takes_of rfl rfl rfl rfl) (pa_consB (pe_v (pv 0)) (pa_consV (pe_cst pe_int (fun _ => den_int _)) pa_nilA))) (fun _ _ => rfl)) pa_nilL))) rfl)
    (ss_cons (ss_set nd rfl (by first | exact .inl rfl | exact .inr rfl) (pe_ifE (pt_cmp2 (op_eqD hr.units) rs_eq (pe_cf c__law_draw hr rfl (L2.takes_of rfl rfl rfl rfl) (pa_consB (pe_v (pv 0)) (pa_consV (pe_cst pe_int (fun _ => den_int _)) pa_nilA))) (pe_cst pe_int (fun _ => den_int _)) (nomark _)) (pe_tupE (pa_consL (pe_tupE (pa_consL (pe_cf c__law_draw hr rfl (L2.takes_of rfl rfl rfl rfl) (pa_consB (pe_v (pv 0)) (pa_consV (pe_cst pe_int (fun _ => den_int _)) pa_nilA))) (pa_consL (pe_cf c__law_draw hr rfl (L2.takes_of rfl rfl rfl rfl) (pa_consB (pe_v (pv 0)) (pa_consV (pe_cst pe_int (fun _ => den_int _)) pa_nilA))) (pa_consL (pe_cst pe_int (fun _ => den_int _)) (pa_consL (pe_tupE pa_nilL (Nat.le_of_ble_eq_true rfl)) pa_nilL)))) (Nat.le_of_ble_eq_true rfl)) pa_nilL) (Nat.le_of_ble_eq_true rfl)) (pe_tupE pa_nilL (Nat.le_of_ble_eq_true rfl))))
    (ss_one (ss_set nd rfl (by first | exact .inl rfl | exact .inr rfl) (pe_op2 op_addB rs_add (pe_tupE (pa_consL (pe_tupE (pa_consL (pe_v (pv 4)) (pa_consL (pe_v (pv 5)) (pa_consL (pe_v (pv 6)) (pa_consL (pe_v (pv 1)) pa_nilL)))) (Nat.le_of_ble_eq_true rfl)) pa_nilL) (Nat.le_of_ble_eq_true rfl)) (pe_v (pv 3))))))))
    (ss_one (ss_ret (pe_v (pv 1))))))
def S__law_top (g__law_top : FF) : FF := fnOf 1 8 (seqS (asgS 1 (tupE [(cst (.int 0)), (cst (.int 0))])) (seqS (forS (seqI (var 0)) (tgT [(tgN 2), (tgN 3), (tgN 4), (tgN 5)]) (seqS (asgT (tgT [(tgN 6), (tgN 7)]) (callE g__law_top [] [.v (var 5)])) (asgS 1 (op2 gMax2 (var 1) (ifE (asB (op2 gGt (var 3) (cst (.int 0)))) (tupE [(op2 gAddA (var 6) (cst (.int 1))), (cst (.int 0))]) (tupE [(var 6), (op2 gAddA (op2 gAddA (var 7) (var 2)) (cst (.int 1)))])))))) (retS (var 1))))
theorem sc__law_top : FnScope ["forest", "best", "a", "d", "m", "inner", "k", "n"] ["forest"] (defScope (top 66)) := ⟨rfl, rfl, rfl, by decide +kernel, rfl, by decide +kernel, by decide +kernel⟩
theorem ok__law_top {k : Nat} {dvs0 : List V} {dds : List D} {g__law_top : FF} (T : DefT K mg "_law_top" ["forest"] (defArgs (top 66)) (defBody (top 66)) (defScope (top 66)) dvs0 dds) (fr_max : mg "max" = none) (c__law_top : OkF P w K mg base "_law_top" k ["forest"] [] g__law_top) : OkF P w K mg base "_law_top" (k + 1) ["forest"] dds (S__law_top g__law_top) := by
  refine T.ok sc__law_top rfl (by decide) (fun f cdv A outer s H E hr => ?_)
  have nd := sc__law_top.nd
  exact (ss_cons (ss_set nd rfl (by first | exact .inl rfl | exact .inr rfl) (pe_tupE (pa_consL (pe_cst pe_int (fun _ => den_int _)) (pa_consL (pe_cst pe_int (fun _ => den_int _)) pa_nilL)) (Nat.le_of_ble_eq_true rfl)))
    (ss_cons (ss_for (passes_of rfl) rfl (pi_seqI (pe_v (pv 0))) (pg_t rfl (pgs_c (pg_n (pg_name nd rfl (by first | exact .inl rfl | exact .inr rfl))) (pgs_c (pg_n (pg_name nd rfl (by first | exact .inl rfl | exact .inr rfl))) (pgs_c (pg_n (pg_name nd rfl (by first | exact .inl rfl | exact .inr rfl))) (pgs_c (pg_n (pg_name nd rfl (by first | exact .inl rfl | exact .inr rfl))) pgs_n)))) rfl) (ss_cons (ss_asg (pe_cf c__law_top hr rfl (L2.takes_of rfl rfl rfl rfl) (pa_consV (pe_v (pv 5)) pa_nilA)) (pg_t rfl (pgs_c (pg_n (pg_name nd rfl (by first | exact .inl rfl | exact .inr rfl))) (pgs_c (pg_n (pg_name nd rfl (by first | exact .inl rfl | exact .inr rfl))) pgs_n)) rfl))
    (ss_one (ss_set nd rfl (by first | exact .inl rfl | exact .inr rfl) (pe_cb2 (call_max2D rfl hr.units) rc_max2 rfl fr_max (by decide +kernel) (pe_v (pv 1)) (pe_ifE (pt_cmp2 (op_gtD hr.units) rs_ord (pe_v (pv 3)) (pe_cst pe_int (fun _ => den_int _)) (nomark _)) (pe_tupE (pa_consL (pe_op2 op_addB rs_add (pe_v (pv 6)) (pe_cst pe_int (fun _ => den_int _))) (pa_consL (pe_cst pe_int (fun _ => den_int _)) pa_nilL)) (Nat.le_of_ble_eq_true rfl)) (pe_tupE (pa_consL (pe_v (pv 6)) (pa_consL (pe_op2 op_addB rs_add (pe_op2 op_addB rs_add (pe_v (pv 7)) (pe_v (pv 2))) (pe_cst pe_int (fun _ => den_int _))) pa_nilL)) (Nat.le_of_ble_eq_true rfl))))))))
    (ss_one (ss_ret (pe_v (pv 1))))))
def S__law_cut (g__law_draw g__law_top : FF) : FF := fnOf 2 5 (seqS (asgT (tgT [(tgN 3), (tgN 4)]) (callE g__law_top [] [.v (var 1)])) (seqS (asgS 2 (callE g__law_draw [] [.b (var 0), .v (op2 gAddA (var 3) (cst (.int 1)))])) (retS (tupE [(var 2), (callE g__law_draw [] [.b (var 0), .v (ixE (lstE [(cst (.int 2)), (cst (.int 6)), (cst (.int 16)), (cst (.int 401))]) (callE g__law_draw [] [.b (var 0), .v (cst (.int 4))]))])]))))
theorem sc__law_cut : FnScope ["state", "forest", "block", "k", "n"] ["state", "forest"] (defScope (top 67)) := ⟨rfl, rfl, rfl, by decide +kernel, rfl, by decide +kernel, by decide +kernel⟩
theorem ok__law_cut {k : Nat} {dvs0 : List V} {dds : List D} {g__law_draw g__law_top : FF} (T : DefT K mg "_law_cut" ["state", "forest"] (defArgs (top 67)) (defBody (top 67)) (defScope (top 67)) dvs0 dds) (c__law_draw : OkF P w K mg base "_law_draw" k ["state", "many"] [] g__law_draw) (c__law_top : OkF P w K mg base "_law_top" k ["forest"] [] g__law_top) : OkF P w K mg base "_law_cut" (k + 1) ["state", "forest"] dds (S__law_cut g__law_draw g__law_top) := by
  refine T.ok sc__law_cut rfl (by decide) (fun f cdv A outer s H E hr => ?_)
  have nd := sc__law_cut.nd
  exact (ss_cons (ss_asg (pe_cf c__law_top hr rfl (L2.takes_of rfl rfl rfl rfl) (pa_consV (pe_v (pv 1)) pa_nilA)) (pg_t rfl (pgs_c (pg_n (pg_name nd rfl (by first | exact .inl rfl | exact .inr rfl))) (pgs_c (pg_n (pg_name nd rfl (by first | exact .inl rfl | exact .inr rfl))) pgs_n)) rfl))
    (ss_cons (ss_set nd rfl (by first | exact .inl rfl | exact .inr rfl) (pe_cf c__law_draw hr rfl (L2.takes_of rfl rfl rfl rfl) (pa_consB (pe_v (pv 0)) (pa_consV (pe_op2 op_addB rs_add (pe_v (pv 3)) (pe_cst pe_int (fun _ => den_int _))) pa_nilA))))
    (ss_one (ss_ret (pe_tupE (pa_consL (pe_v (pv 2)) (pa_consL (pe_cf c__law_draw hr rfl (L2.takes_of rfl rfl rfl rfl) (pa_consB (pe_v (pv 0)) (pa_consV (pe_ixE (pe_lstE (pa_consL (pe_cst pe_int (fun _ => den_int _)) (pa_consL (pe_cst pe_int (fun _ => den_int _)) (pa_consL (pe_cst pe_int (fun _ => den_int _)) (pa_consL (pe_cst pe_int (fun _ => den_int _)) pa_nilL)))) (Nat.le_of_ble_eq_true rfl)) (pe_cf c__law_draw hr rfl (L2.takes_of rfl rfl rfl rfl) (pa_consB (pe_v (pv 0)) (pa_consV (pe_cst pe_int (fun _ => den_int _)) pa_nilA))) (fun _ _ => rfl)) pa_nilA))) pa_nilL)) (Nat.le_of_ble_eq_true rfl))))))
def S__law_right (g_number_at g_table_of g_sum_of g_nodes_at g__law_draw : FF) : FF := fnOf 4 6 (seqS (forS (rngI1 (cst (.int 3))) (tgN 4) (seqS (asgS 5 (tupE [(callE g__law_draw [] [.b (var 0), .v (cst (.int 3))]), (callE g__law_draw [] [.b (var 0), .v (cst (.int 16))])])) (seqS (ifS (asB (op2 gNe (callE g_nodes_at [] [.v (var 3), .v (var 5)]) (callE g_nodes_at [] [.v (var 1), .v (callE g_sum_of [] [.v (var 2), .v (var 5)])]))) (retS (cst (.bool false))) nxS) (ifS (asB (op2 gNe (callE g_number_at [] [.v (callE g_table_of [] [.v (var 3)]), .v (var 5)]) (callE g_number_at [] [.v (callE g_table_of [] [.v (var 1)]), .v (callE g_sum_of [] [.v (var 2), .v (var 5)])]))) (retS (cst (.bool false))) nxS)))) (retS (cst (.bool true))))
theorem sc__law_right : FnScope ["state", "forest", "cut", "part", "turn", "height"] ["state", "forest", "cut", "part"] (defScope (top 68)) := ⟨rfl, rfl, rfl, by decide +kernel, rfl, by decide +kernel, by decide +kernel⟩
theorem ok__law_right {k : Nat} {dvs0 : List V} {dds : List D} {g_number_at g_table_of g_sum_of g_nodes_at g__law_draw : FF} (T : DefT K mg "_law_right" ["state", "forest", "cut", "part"] (defArgs (top 68)) (defBody (top 68)) (defScope (top 68)) dvs0 dds) (fr_range : mg "range" = none) (c_number_at : OkF P w K mg base "number_at" k ["table", "height"] [] g_number_at) (c_table_of : OkF P w K mg base "table_of" k ["forest"] [] g_table_of) (c_sum_of : OkF P w K mg base "sum_of" k ["height", "other"] [] g_sum_of) (c_nodes_at : OkF P w K mg base "nodes_at" k ["forest", "height"] [] g_nodes_at) (c__law_draw : OkF P w K mg base "_law_draw" k ["state", "many"] [] g__law_draw) : OkF P w K mg base "_law_right" (k + 1) ["state", "forest", "cut", "part"] dds (S__law_right g_number_at g_table_of g_sum_of g_nodes_at g__law_draw) := by
  refine T.ok sc__law_right rfl (by decide) (fun f cdv A outer s H E hr => ?_)
  have nd := sc__law_right.nd
  exact (ss_cons (ss_for (passes_of rfl) rfl (pi_rng1 rfl fr_range (pe_cst pe_int (fun _ => den_int _))) (pg_n (pg_name nd rfl (by first | exact .inl rfl | exact .inr rfl))) (ss_cons (ss_set nd rfl (by first | exact .inl rfl | exact .inr rfl) (pe_tupE (pa_consL (pe_cf c__law_draw hr rfl (L2.takes_of rfl rfl rfl rfl) (pa_consB (pe_v (pv 0)) (pa_consV (pe_cst pe_int (fun _ => den_int _)) pa_nilA))) (pa_consL (pe_cf c__law_draw hr rfl (L2.takes_of rfl rfl rfl rfl) (pa_consB (pe_v (pv 0)) (pa_consV (pe_cst pe_int (fun _ => den_int _)) pa_nilA))) pa_nilL)) (Nat.le_of_ble_eq_true rfl)))
    (ss_cons (ss_if (pt_cmp2 (op_neD hr.units) rs_ne (pe_cf c_nodes_at hr rfl (L2.takes_of rfl rfl rfl rfl) (pa_consV (pe_v (pv 3)) (pa_consV (pe_v (pv 5)) pa_nilA))) (pe_cf c_nodes_at hr rfl (L2.takes_of rfl rfl rfl rfl) (pa_consV (pe_v (pv 1)) (pa_consV (pe_cf c_sum_of hr rfl (L2.takes_of rfl rfl rfl rfl) (pa_consV (pe_v (pv 2)) (pa_consV (pe_v (pv 5)) pa_nilA))) pa_nilA))) (nomark _)) (ss_one (ss_ret (pe_cst pe_bl (fun _ => den_bl _)))) ss_nil)
    (ss_one (ss_if (pt_cmp2 (op_neD hr.units) rs_ne (pe_cf c_number_at hr rfl (L2.takes_of rfl rfl rfl rfl) (pa_consV (pe_cf c_table_of hr rfl (L2.takes_of rfl rfl rfl rfl) (pa_consV (pe_v (pv 3)) pa_nilA)) (pa_consV (pe_v (pv 5)) pa_nilA))) (pe_cf c_number_at hr rfl (L2.takes_of rfl rfl rfl rfl) (pa_consV (pe_cf c_table_of hr rfl (L2.takes_of rfl rfl rfl rfl) (pa_consV (pe_v (pv 1)) pa_nilA)) (pa_consV (pe_cf c_sum_of hr rfl (L2.takes_of rfl rfl rfl rfl) (pa_consV (pe_v (pv 2)) (pa_consV (pe_v (pv 5)) pa_nilA))) pa_nilA))) (nomark _)) (ss_one (ss_ret (pe_cst pe_bl (fun _ => den_bl _)))) ss_nil)))))
    (ss_one (ss_ret (pe_cst pe_bl (fun _ => den_bl _)))))
def S_law (g_size_of g_nodes_at g_upper g_top_height g__law_right g_sum_of g_unlike_at g_tail_of g_table_of g__law_cut g__law_draw g__law_forest g__law_deep g__law_begin : FF) : FF := fnOf 1 9 (seqS (asgS 1 (callE g__law_begin [] [.v (var 0)])) (seqS (forS (rngI1 (cst (.int 5))) (tgN 2) (seqS (asgS 3 (ifE (asB (op2 gGt (callE g__law_draw [] [.b (var 1), .v (cst (.int 4))]) (cst (.int 0)))) (callE g__law_forest [] [.b (var 1), .v (cst (.int 3))]) (callE g__law_deep [] [.b (var 1)]))) (seqS (parV [5, 6] [(callE g__law_cut [] [.b (var 1), .v (var 3)]), (tupE [(callE g__law_draw [] [.b (var 1), .v (cst (.int 3))]), (callE g__law_draw [] [.b (var 1), .v (cst (.int 9))])])]) (seqS (asgS 4 (callE g_upper [] [.v (var 3), .v (var 5)])) (seqS (ifS (orB (asB (op2 gNe (callE g_table_of [] [.v (var 4)]) (callE g_tail_of [] [.v (callE g_table_of [] [.v (var 3)]), .v (var 5)]))) (asB (op2 gNotN (callE g_unlike_at [] [.v (callE g_table_of [] [.v (var 4)]), .v (callE g_tail_of [] [.v (callE g_table_of [] [.v (var 3)]), .v (var 5)])]) (cst .none)))) (retS (cst (.bool false))) nxS) (seqS (ifS (orB (asB (op2 gNe (callE g_upper [] [.v (var 4), .v (var 6)]) (callE g_upper [] [.v (var 3), .v (callE g_sum_of [] [.v (var 5), .v (var 6)])]))) (notB (truB (callE g__law_right [] [.b (var 1), .v (var 3), .v (var 5), .v (var 4)])))) (retS (cst (.bool false))) nxS) (seqS (ifS (orB (asB (op2 gNe (callE g_upper [] [.v (var 3), .v (tupE [(cst (.int 0)), (cst (.int 0))])]) (var 3))) (asB (op2 gNe (callE g_upper [] [.v (var 3), .v (callE g_top_height [] [.v (var 3)])]) (tupE [])))) (retS (cst (.bool false))) nxS) (ifS (asB (op2 gNotN (callE g_size_of [] [.v (var 3)]) (cst .none))) (seqS (asgS 7 (cb1 gSum (lcE (rngI1 (op2 gMin2 (ixE (var 5) (cst (.int 1))) (cst (.int 99)))) [8] (tgN 8) yesB (callE g_nodes_at [] [.v (var 3), .v (tupE [(cst (.int 0)), (var 8)])])))) (ifS (asB (op2 gNe (callE g_size_of [] [.v (var 4)]) (op2 gSub (callE g_size_of [] [.v (var 3)]) (var 7)))) (retS (cst (.bool false))) nxS)) nxS)))))))) (retS (cst (.bool true)))))
theorem sc_law : FnScope ["script", "state", "turn", "forest", "part", "cut", "other", "below", "n"] ["script"] (defScope (top 69)) := ⟨rfl, rfl, rfl, by decide +kernel, rfl, by decide +kernel, by decide +kernel⟩
theorem ok_law {k : Nat} {dvs0 : List V} {dds : List D} {g_size_of g_nodes_at g_upper g_top_height g__law_right g_sum_of g_unlike_at g_tail_of g_table_of g__law_cut g__law_draw g__law_forest g__law_deep g__law_begin : FF} (T : DefT K mg "law" ["script"] (defArgs (top 69)) (defBody (top 69)) (defScope (top 69)) dvs0 dds) (fr_min : mg "min" = none) (fr_range : mg "range" = none) (fr_sum : mg "sum" = none) (c_size_of : OkF P w K mg base "size_of" k ["forest"] [] g_size_of) (c_nodes_at : OkF P w K mg base "nodes_at" k ["forest", "height"] [] g_nodes_at) (c_upper : OkF P w K mg base "upper" k ["forest", "height"] [] g_upper) (c_top_height : OkF P w K mg base "top_height" k ["forest"] [] g_top_height) (c__law_right : OkF P w K mg base "_law_right" k ["state", "forest", "cut", "part"] [] g__law_right) (c_sum_of : OkF P w K mg base "sum_of" k ["height", "other"] [] g_sum_of) (c_unlike_at : OkF P w K mg base "unlike_at" k ["table", "other"] [] g_unlike_at) (c_tail_of : OkF P w K mg base "tail_of" k ["table", "height"] [] g_tail_of) (c_table_of : OkF P w K mg base "table_of" k ["forest"] [] g_table_of) (c__law_cut : OkF P w K mg base "_law_cut" k ["state", "forest"] [] g__law_cut) (c__law_draw : OkF P w K mg base "_law_draw" k ["state", "many"] [] g__law_draw) (c__law_forest : OkF P w K mg base "_law_forest" k ["state", "deep"] [] g__law_forest) (c__law_deep : OkF P w K mg base "_law_deep" k ["state"] [] g__law_deep) (c__law_begin : OkF P w K mg base "_law_begin" k ["script"] [] g__law_begin) : OkF P w K mg base "law" (k + 1) ["script"] dds (S_law g_size_of g_nodes_at g_upper g_top_height g__law_right g_sum_of g_unlike_at g_tail_of g_table_of g__law_cut g__law_draw g__law_forest g__law_deep g__law_begin) := by
  refine T.ok sc_law rfl (by decide) (fun f cdv A outer s H E hr => ?_)
  have nd := sc_law.nd
  exact (ss_cons (ss_set nd rfl (by first | exact .inl rfl | exact .inr rfl) (pe_cf c__law_begin hr rfl (L2.takes_of rfl rfl rfl rfl) (pa_consV (pe_v (pv 0)) pa_nilA)))
    (ss_cons (ss_for (passes_of rfl) rfl (pi_rng1 rfl fr_range (pe_cst pe_int (fun _ => den_int _))) (pg_n (pg_name nd rfl (by first | exact .inl rfl | exact .inr rfl))) (ss_cons (ss_set nd rfl (by first | exact .inl rfl | exact .inr rfl) (pe_ifE (pt_cmp2 (op_gtD hr.units) rs_ord (pe_cf c__law_draw hr rfl (L2.takes_of rfl rfl rfl rfl) (pa_consB (pe_v (pv 1)) (pa_consV (pe_cst pe_int (fun _ => den_int _)) pa_nilA))) (pe_cst pe_int (fun _ => den_int _)) (nomark _)) (pe_cf c__law_forest hr rfl (L2.takes_of rfl rfl rfl rfl) (pa_consB (pe_v (pv 1)) (pa_consV (pe_cst pe_int (fun _ => den_int _)) pa_nilA))) (pe_cf c__law_deep hr rfl (L2.takes_of rfl rfl rfl rfl) (pa_consB (pe_v (pv 1)) pa_nilA))))
    (ss_cons (ss_parV rfl nd rfl rfl (by decide) rfl rfl (pa_consL (pe_cf c__law_cut hr rfl (L2.takes_of rfl rfl rfl rfl) (pa_consB (pe_v (pv 1)) (pa_consV (pe_v (pv 3)) pa_nilA))) (pa_consL (pe_tupE (pa_consL (pe_cf c__law_draw hr rfl (L2.takes_of rfl rfl rfl rfl) (pa_consB (pe_v (pv 1)) (pa_consV (pe_cst pe_int (fun _ => den_int _)) pa_nilA))) (pa_consL (pe_cf c__law_draw hr rfl (L2.takes_of rfl rfl rfl rfl) (pa_consB (pe_v (pv 1)) (pa_consV (pe_cst pe_int (fun _ => den_int _)) pa_nilA))) pa_nilL)) (Nat.le_of_ble_eq_true rfl)) pa_nilL)) rfl)
    (ss_cons (ss_set nd rfl (by first | exact .inl rfl | exact .inr rfl) (pe_cf c_upper hr rfl (L2.takes_of rfl rfl rfl rfl) (pa_consV (pe_v (pv 3)) (pa_consV (pe_v (pv 5)) pa_nilA))))
    (ss_cons (ss_if (PW.pt (pw_orB (pt_cmp2 (op_neD hr.units) rs_ne (pe_cf c_table_of hr rfl (L2.takes_of rfl rfl rfl rfl) (pa_consV (pe_v (pv 4)) pa_nilA)) (pe_cf c_tail_of hr rfl (L2.takes_of rfl rfl rfl rfl) (pa_consV (pe_cf c_table_of hr rfl (L2.takes_of rfl rfl rfl rfl) (pa_consV (pe_v (pv 3)) pa_nilA)) (pa_consV (pe_v (pv 5)) pa_nilA))) (nomark _)) (pw_or1 (pt_cmp2 op_notN rs_notN (pe_cf c_unlike_at hr rfl (L2.takes_of rfl rfl rfl rfl) (pa_consV (pe_cf c_table_of hr rfl (L2.takes_of rfl rfl rfl rfl) (pa_consV (pe_v (pv 4)) pa_nilA)) (pa_consV (pe_cf c_tail_of hr rfl (L2.takes_of rfl rfl rfl rfl) (pa_consV (pe_cf c_table_of hr rfl (L2.takes_of rfl rfl rfl rfl) (pa_consV (pe_v (pv 3)) pa_nilA)) (pa_consV (pe_v (pv 5)) pa_nilA))) pa_nilA))) (pe_cst pe_non (fun _ => den_non)) (nomark _))))) (ss_one (ss_ret (pe_cst pe_bl (fun _ => den_bl _)))) ss_nil)
    (ss_cons (ss_if (PW.pt (pw_orB (pt_cmp2 (op_neD hr.units) rs_ne (pe_cf c_upper hr rfl (L2.takes_of rfl rfl rfl rfl) (pa_consV (pe_v (pv 4)) (pa_consV (pe_v (pv 6)) pa_nilA))) (pe_cf c_upper hr rfl (L2.takes_of rfl rfl rfl rfl) (pa_consV (pe_v (pv 3)) (pa_consV (pe_cf c_sum_of hr rfl (L2.takes_of rfl rfl rfl rfl) (pa_consV (pe_v (pv 5)) (pa_consV (pe_v (pv 6)) pa_nilA))) pa_nilA))) (nomark _)) (pw_or1 (pt_notB (pt_tru (pe_cf c__law_right hr rfl (L2.takes_of rfl rfl rfl rfl) (pa_consB (pe_v (pv 1)) (pa_consV (pe_v (pv 3)) (pa_consV (pe_v (pv 5)) (pa_consV (pe_v (pv 4)) pa_nilA))))) (fun _ => rfl)))))) (ss_one (ss_ret (pe_cst pe_bl (fun _ => den_bl _)))) ss_nil)
    (ss_cons (ss_if (PW.pt (pw_orB (pt_cmp2 (op_neD hr.units) rs_ne (pe_cf c_upper hr rfl (L2.takes_of rfl rfl rfl rfl) (pa_consV (pe_v (pv 3)) (pa_consV (pe_tupE (pa_consL (pe_cst pe_int (fun _ => den_int _)) (pa_consL (pe_cst pe_int (fun _ => den_int _)) pa_nilL)) (Nat.le_of_ble_eq_true rfl)) pa_nilA))) (pe_v (pv 3)) (nomark _)) (pw_or1 (pt_cmp2 (op_neD hr.units) rs_ne (pe_cf c_upper hr rfl (L2.takes_of rfl rfl rfl rfl) (pa_consV (pe_v (pv 3)) (pa_consV (pe_cf c_top_height hr rfl (L2.takes_of rfl rfl rfl rfl) (pa_consV (pe_v (pv 3)) pa_nilA)) pa_nilA))) (pe_tupE pa_nilL (Nat.le_of_ble_eq_true rfl)) (nomark _))))) (ss_one (ss_ret (pe_cst pe_bl (fun _ => den_bl _)))) ss_nil)
    (ss_one (ss_if (pt_cmp2 op_notN rs_notN (pe_cf c_size_of hr rfl (L2.takes_of rfl rfl rfl rfl) (pa_consV (pe_v (pv 3)) pa_nilA)) (pe_cst pe_non (fun _ => den_non)) (nomark _)) (ss_cons (ss_set nd rfl (by first | exact .inl rfl | exact .inr rfl) (pe_cb1 (call_sumA rfl) rc_sum rfl fr_sum (by decide +kernel) (pe_lcV rfl nd (pi_rng1 rfl fr_range (pe_cb2 (call_min2D rfl hr.units) rc_min2 rfl fr_min (by decide +kernel) (pe_ixE (pe_v (pv 5)) (pe_cst pe_int (fun _ => den_int _)) (fun _ _ => rfl)) (pe_cst pe_int (fun _ => den_int _)))) (blkOk_by (own := [("n", 8)]) (by show blkC ["script", "state", "turn", "forest", "part", "cut", "other", "below", "n"] (defScope (top 69)) _ _ = true; decide +kernel)) (fun _ _ _ _ _ => (pg_n (pg_name nd rfl (by first | exact .inl rfl | exact .inr rfl)))) (fun _ _ _ _ _ => pts_yes) (fun _ _ _ _ _ => (pe_cf c_nodes_at hr rfl takes0 (pa_consV (pe_v (pv 3)) (pa_consV (pe_tupE (pa_consL (pe_cst pe_int (fun _ => den_int _)) (pa_consL (pe_v (pv 8)) pa_nilL)) (Nat.le_of_ble_eq_true rfl)) pa_nilA)))) (by decide))))
    (ss_one (ss_if (pt_cmp2 (op_neD hr.units) rs_ne (pe_cf c_size_of hr rfl (L2.takes_of rfl rfl rfl rfl) (pa_consV (pe_v (pv 4)) pa_nilA)) (pe_op2 op_sub rs_sub (pe_cf c_size_of hr rfl (L2.takes_of rfl rfl rfl rfl) (pa_consV (pe_v (pv 3)) pa_nilA)) (pe_v (pv 7))) (nomark _)) (ss_one (ss_ret (pe_cst pe_bl (fun _ => den_bl _)))) ss_nil))) ss_nil)))))))))
    (ss_one (ss_ret (pe_cst pe_bl (fun _ => den_bl _))))))
end
noncomputable section
def F_is_integer : FF := S_is_integer
def F_is_natural : FF := S_is_natural F_is_integer
def F_is_height : FF := S_is_height F_is_natural
def F_check_height : FF := S_check_height F_is_height
def F_sum_in : FF := S_sum_in
def F_sum_of : FF := S_sum_of F_sum_in F_check_height
def F_are_numbers : FF := S_are_numbers F_is_integer
def F_is_block : FF := S_is_block F_are_numbers
def F_are_blocks : FF := S_are_blocks F_is_block
def F_shortest_round : FF := S_shortest_round
def F_block_in : FF := S_block_in F_shortest_round
def F_table_in : FF := S_table_in F_block_in
def F_is_table : FF := S_is_table F_table_in F_are_blocks
def F_check_table : FF := S_check_table F_is_table
def F_block_number : FF := S_block_number
def F_block_at : FF := S_block_at
def F_number_in : FF := S_number_in F_block_number F_block_at
def F_number_at : FF := S_number_at F_number_in F_check_height F_check_table
def F_plus_number : FF := S_plus_number
def F_spans_of : FF := S_spans_of
def F_unlike_in : FF := S_unlike_in F_spans_of F_block_number F_block_at
def F_unlike_at : FF := S_unlike_at F_unlike_in F_check_table
def F_shifted : FF := S_shifted F_block_in
def F_tail_in : FF := S_tail_in F_table_in F_shifted F_block_at
def F_tail_of : FF := S_tail_of F_tail_in F_check_height F_check_table
def F_is_term : FF := S_is_term F_is_integer F_is_natural
def F_is_forest : FF := S_is_forest F_is_term
def F_check_forest : FF := S_check_forest F_is_forest
def Y_top_in (X : FF) : FF := S_top_in X
def R_top_in : Nat → FF
  | 0 => fun _ => .stuck
  | n + 1 => Y_top_in (R_top_in n)
def F_top_in : FF := R_top_in 8
def F_top_height : FF := S_top_height F_top_in F_check_forest
def F_times_number : FF := S_times_number
def Y_size_in (X : FF) : FF := S_size_in X
def R_size_in : Nat → FF
  | 0 => fun _ => .stuck
  | n + 1 => Y_size_in (R_size_in n)
def F_size_in : FF := R_size_in 8
def F_size_of : FF := S_size_of F_size_in F_check_forest
def F_first_strands : FF := S_first_strands F_top_in
def F_without_one : FF := S_without_one
def F_kid_strands : FF := S_kid_strands F_without_one F_first_strands F_top_in
def Y_upper_strands (X : FF) : FF := S_upper_strands F_kid_strands X F_times_number
def R_upper_strands : Nat → FF
  | 0 => fun _ => .stuck
  | n + 1 => Y_upper_strands (R_upper_strands n)
def F_upper_strands : FF := R_upper_strands 8
def F_strand_number : FF := S_strand_number
def F_strands_block : FF := S_strands_block F_plus_number F_strand_number
def F_table_of_in : FF := S_table_of_in F_table_in F_strands_block F_first_strands F_upper_strands
def F_table_of : FF := S_table_of F_table_of_in F_check_forest
def F_line_nodes : FF := S_line_nodes F_top_in
def Y_nodes_at_in (X : FF) : FF := S_nodes_at_in F_plus_number F_times_number F_line_nodes X
def R_nodes_at_in : Nat → FF
  | 0 => fun _ => .stuck
  | n + 1 => Y_nodes_at_in (R_nodes_at_in n)
def F_nodes_at_in : FF := R_nodes_at_in 8
def F_nodes_at : FF := S_nodes_at F_nodes_at_in F_check_height F_check_forest
def Y_upper_term (X : FF) : FF := S_upper_term X F_top_in
def Y_upper_terms (X : FF) : FF := S_upper_terms (Y_upper_term X)
def Y_upper_in (X : FF) : FF := S_upper_in (Y_upper_terms X)
def R_upper_in : Nat → FF
  | 0 => fun _ => .stuck
  | n + 1 => Y_upper_in (R_upper_in n)
def F_upper_in : FF := R_upper_in 8
def F_upper_term : FF := Y_upper_term F_upper_in
def F_upper_terms : FF := Y_upper_terms F_upper_in
def F_upper : FF := S_upper F_upper_in F_check_height F_check_forest
def F__law_begin : FF := S__law_begin
def F__law_draw : FF := S__law_draw
def Y__law_terms (X : FF) : FF := S__law_terms X
def R__law_terms : Nat → FF
  | 0 => fun _ => .stuck
  | n + 1 => Y__law_terms (R__law_terms n)
def F__law_terms : FF := R__law_terms 8
def Y__law_forest (X : FF) : FF := S__law_forest F__law_terms F__law_draw X
def R__law_forest : Nat → FF
  | 0 => fun _ => .stuck
  | n + 1 => Y__law_forest (R__law_forest n)
def F__law_forest : FF := R__law_forest 8
def F__law_deep : FF := S__law_deep F__law_draw
def Y__law_top (X : FF) : FF := S__law_top X
def R__law_top : Nat → FF
  | 0 => fun _ => .stuck
  | n + 1 => Y__law_top (R__law_top n)
def F__law_top : FF := R__law_top 8
def F__law_cut : FF := S__law_cut F__law_draw F__law_top
def F__law_right : FF := S__law_right F_number_at F_table_of F_sum_of F_nodes_at F__law_draw
def F_law : FF := S_law F_size_of F_nodes_at F_upper F_top_height F__law_right F_sum_of F_unlike_at F_tail_of F_table_of F__law_cut F__law_draw F__law_forest F__law_deep F__law_begin
end
end Wk
set_option Elab.async false
set_option linter.all false
set_option maxRecDepth 100000
set_option maxHeartbeats 4000000
namespace Wk
open PySem PySem.Spec Eng
@[simp] theorem v_is_integer (i : Int) : gv F_is_integer [.int i] = .ok (.val (.bool true)) := by
  rw [F_is_integer, S_is_integer, gv1_1]; simp []
@[simp] theorem v_is_natural (i l : Int) : gv F_is_natural [.int i, .int l] = .ok (.val (.bool (decide (l ≤ i)))) := by
  rw [F_is_natural, S_is_natural, gv2_2]; simp []
abbrev H2 := Int × Int
def hD (h : H2) : D := .tuple [.int h.1, .int h.2]
@[simp] theorem v_is_height (h : H2) : gv F_is_height [hD h] = .ok (.val (.bool (decide (0 ≤ h.1 ∧ 0 ≤ h.2)))) := by
  by_cases h1 : 0 ≤ h.1
  · rw [F_is_height, S_is_height, gv1_1]; simp [hD, h1]
  · rw [F_is_height, S_is_height, gv1_1]; simp [hD, h1]
def okH (h : H2) : Prop := 0 ≤ h.1 ∧ 0 ≤ h.2
theorem v_check_height (h : H2) (h1 : okH h) : gv F_check_height [hD h] = .ok (.val .none) := by
  rw [F_check_height, S_check_height, gv1_1]; simp [h1.1, h1.2]
def sumH (h o : H2) : H2 := if o.1 = 0 then (h.1, h.2 + o.2) else (h.1 + o.1, o.2)
@[simp] theorem v_sum_in (h o : H2) : gv F_sum_in [hD h, hD o] = .ok (.val (hD (sumH h o))) := by
  by_cases z : o.1 = 0 <;> (rw [F_sum_in, S_sum_in, gv2_2]; simp [hD, sumH, z])
theorem v_sum_of (h o : H2) (h1 : okH h) (h2 : okH o) : gv F_sum_of [hD h, hD o] = .ok (.val (hD (sumH h o))) := by
  rw [F_sum_of, S_sum_of, gv2_2]; simp [v_check_height, h1, h2]
/-! numbers: -1 without end -/
def plusN (x y : Int) : Int := if x = -1 ∨ y = -1 then -1 else x + y
def timesN (x y : Int) : Int := if x = 0 ∨ y = 0 then 0 else if x = -1 ∨ y = -1 then -1 else x * y
@[simp] theorem v_plus (x y : Int) : gv F_plus_number [.int x, .int y] = .ok (.val (.int (plusN x y))) := by
  by_cases h1 : x = -1
  · rw [F_plus_number, S_plus_number, gv2_2]; simp [plusN, h1]
  · by_cases h2 : y = -1 <;> (rw [F_plus_number, S_plus_number, gv2_2]; simp [plusN, h1, h2])
theorem v_times (x y : Int) (h : mulOk x y = true) : gv F_times_number [.int x, .int y] = .ok (.val (.int (timesN x y))) := by
  by_cases h1 : x = 0
  · rw [F_times_number, S_times_number, gv2_2]; simp [timesN, h1]
  · by_cases h2 : y = 0
    · rw [F_times_number, S_times_number, gv2_2]; simp [timesN, h1, h2]
    · by_cases h3 : x = -1
      · rw [F_times_number, S_times_number, gv2_2]; simp [timesN, h1, h2, h3]
      · by_cases h4 : y = -1
        · rw [F_times_number, S_times_number, gv2_2]; simp [timesN, h1, h2, h3, h4]
        · rw [F_times_number, S_times_number, gv2_2]; simp [timesN, h1, h2, h3, h4, h]
/-! blocks -/
open Rd
def bD (b : Blk) : D := .tuple [.tuple (iL b.1), .tuple (iL b.2)]
theorem v_block_number (b : Blk) (n : Nat) (h : b.2 ≠ []) : gv F_block_number [bD b, .int n] = .ok (.val (.int (num b n))) := by
  have hl : 0 < b.2.length := List.length_pos_iff.mpr h
  by_cases h1 : n < b.1.length
  · rw [F_block_number, S_block_number, gv2_4]; simp [bD, num, h1, at_iL]
  · have e1 : (((n - b.1.length : Nat) : Int)) = (n : Int) - (b.1.length : Int) := by omega
    have e2 : (n - b.1.length) % b.2.length < b.2.length := Nat.mod_lt _ hl
    have e3 := at_iL b.2 _ e2
    have e4 : ((((n - b.1.length) % b.2.length : Nat)) : Int) = ((n - b.1.length : Nat) : Int) % (b.2.length : Int) := rfl
    rw [e4] at e3
    rw [F_block_number, S_block_number, gv2_4]; simp [bD, num, h1, hl, ← e1, e3]
def tD (t : Tab) : D := .tuple (t.map bD)
@[simp] theorem not_D : (PyData.tuple [.tuple [], .tuple [.int 0]] : D) = bD NOT := rfl
theorem v_block_at (t : Tab) (k : Nat) : gv F_block_at [tD t, .int k] = .ok (.val (bD (atB t k))) := by
  by_cases h : k < t.length
  · have e : L2.atI (t.map bD) (k : Int) = some (bD (atB t k)) := by
      rw [at_nat, List.getElem?_map, List.getElem?_eq_getElem h]
      simp [atB, h]
    rw [F_block_at, S_block_at, gv2_2]; simp [tD, h, e]
  · have e : atB t k = NOT := by simp [atB, h]
    rw [F_block_at, S_block_at, gv2_2]; simp [tD, h, e]
def nH (k n : Nat) : D := .tuple [.int k, .int n]
theorem nH_hD (k n : Nat) : nH k n = hD (k, n) := rfl
theorem v_number_in (t : Tab) (k n : Nat) (h : ∀ b ∈ t, b.2 ≠ []) : gv F_number_in [tD t, nH k n] = .ok (.val (.int (numT t k n))) := by
  have hb : (atB t k).2 ≠ [] := by
    unfold atB
    rw [List.getD_eq_getElem?_getD]
    by_cases z : k < t.length
    · rw [List.getElem?_eq_getElem z]; exact h _ (List.getElem_mem z)
    · rw [List.getElem?_eq_none (by omega)]; simp [NOT]
  rw [F_number_in, S_number_in, gv2_2]; simp [nH, v_block_at, v_block_number, hb, numT]
/-! the shortest round -/
theorem mod_nat (a b : Nat) : ((a : Int) % (b : Int)) = ((a % b : Nat) : Int) := rfl
theorem div_nat (a b : Nat) : ((a : Int) / (b : Int)) = ((a / b : Nat) : Int) := rfl
def srB : SS := ifS (andB (asB (op2 gEq (op2 gMod (cb1 gLen (var 0)) (var 1)) (cst (.int 0)))) (asB (op2 gEq (var 0) (op2 gMul (slE (var 0) none (some (var 1))) (op2 gFdiv (cb1 gLen (var 0)) (var 1)))))) (retS (slE (var 0) none (some (var 1)))) nxS
theorem sr_body (l : List Int) (lo : Nat) (hl : l.length ≤ 1000) (h1 : 1 ≤ lo) (h2 : lo ≤ l.length) : srB [.val (.tuple (iL l)), .val (.int lo)] =
    if fits l lo = true then .rt (.val (.tuple (iL (l.take lo)))) [.val (.tuple (iL l)), .val (.int lo)] else .nx [.val (.tuple (iL l)), .val (.int lo)] := by
  have hlo : 0 < lo := h1
  have hdv : l.length / lo ≤ 1000 := Nat.le_trans (Nat.div_le_self _ _) hl
  have hd1 : 1 ≤ l.length / lo := (Nat.one_le_div_iff hlo).mpr h2
  have htl : (l.take lo).length = lo := by rw [List.length_take]; omega
  have htk : iL (l.take lo) ≠ [] := fun z => by
    have := congrArg List.length z
    rw [iL_len, htl] at this
    simp at this; omega
  have hb : (lo : Int) < 1073741824 := by omega
  have hq : (1 : Int) ≤ ((l.length / lo : Nat) : Int) ∧ ((l.length / lo : Nat) : Int) ≤ 1000 := by omega
  by_cases q1 : l.length % lo = 0
  · have q1' : ((l.length : Int) % (lo : Int)) = 0 := by
      have : ((l.length % lo : Nat) : Int) = 0 := by omega
      exact this
    have g : gMul (.tuple (iL (l.take lo))) (.int ((l.length : Int) / (lo : Int))) = some (.val (.tuple (iL (List.replicate (l.length / lo) (l.take lo)).flatten))) := by
      show gMul (.tuple (iL (l.take lo))) (.int ((l.length / lo : Nat) : Int)) = _
      rw [e_mulT, if_pos ⟨by rw [iL_len, htl]; omega, hq.2, hq.1, htk⟩, Int.toNat_natCast, iL_rep]
    have ff : fits l lo = decide (l = (List.replicate (l.length / lo) (l.take lo)).flatten) := by unfold fits; simp [q1]
    rw [ff]
    have gq := eq_iL l (List.replicate (l.length / lo) (l.take lo)).flatten
    unfold srB
    simp [q1', hlo, hb, g, gq, cut_to]
  · have q1' : ¬ ((l.length : Int) % (lo : Int)) = 0 := by
      have : ¬ ((l.length % lo : Nat) : Int) = 0 := by omega
      exact this
    have ff : fits l lo = false := by unfold fits; simp [q1]
    rw [ff]
    unfold srB
    simp [q1', hlo]
theorem shortest_loop (l : List Int) (hl : l.length ≤ 1000) : ∀ (k lo : Nat) (x : Cell), isIo (some x) = false → 1 ≤ lo → lo + k = l.length + 1 → ∃ c, isIo (some c) = false ∧
    forL (tgN 1) srB (rng lo k) [.val (.tuple (iL l)), x] =
      match (List.range k).find? (fun i => fits l (lo + i)) with
      | some i => .rt (.val (.tuple (iL (l.take (lo + i))))) [.val (.tuple (iL l)), c]
      | none => .nx [.val (.tuple (iL l)), c]
  | 0, lo, x, hx, h1, h2 => ⟨x, hx, rfl⟩
  | k + 1, lo, x, hx, h1, h2 => by
    rw [rng_succ]
    have e0 : ((lo : Int) + 1) = ((lo + 1 : Nat) : Int) := by omega
    rw [e0, List.range_succ_eq_map, List.find?_cons, Nat.add_zero, List.find?_map]
    unfold forL
    simp only [e_tgN, e_setT, List.getElem?_cons_succ, List.getElem?_cons_zero, hx, Bool.false_eq_true, if_false, List.set_cons_succ, List.set_cons_zero, e_ceT]
    rw [sr_body l lo hl h1 (by omega)]
    have ez : fits l (lo + 0) = fits l lo := rfl
    rw [ez]
    by_cases z : fits l lo = true
    · rw [if_pos z, z]
      exact ⟨.val (.int lo), rfl, rfl⟩
    · rw [if_neg z]
      have z' : fits l lo = false := by simpa using z
      rw [z']
      dsimp only
      obtain ⟨c, hc, ih⟩ := shortest_loop l hl k (lo + 1) (.val (.int lo)) rfl (by omega) (by omega)
      refine ⟨c, hc, ?_⟩
      rw [ih]
      have ef : ((fun i => fits l (lo + i)) ∘ Nat.succ) = fun i => fits l (lo + 1 + i) := by
        funext i
        simp only [Function.comp]
        congr 1
        omega
      rw [ef]
      cases (List.range k).find? (fun i => fits l (lo + 1 + i)) with
      | none => rfl
      | some i =>
        simp only [Option.map_some]
        have e2 : lo + 1 + i = lo + (i + 1) := by omega
        rw [e2]
theorem v_shortest (l : List Int) (hl : l.length ≤ 1000) : gv F_shortest_round [.tuple (iL l)] = .ok (.val (.tuple (iL (short l)))) := by
  rw [F_shortest_round, S_shortest_round, gv1_2]
  obtain ⟨c, hc, ih⟩ := shortest_loop l hl l.length 1 .no rfl (by omega) (by omega)
  unfold srB at ih
  have hb : (l.length : Int) < 4611686018427387904 := by omega
  have hb2 : (l.length : Int) + 1 < 4611686018427387904 := by omega
  have hb3 : -4611686018427387904 ≤ (l.length : Int) + 1 := by omega
  have e1 : (((l.length : Int) + 1 - 1).toNat) = l.length := by omega
  have e2 : ((1 : Nat) : Int) = 1 := rfl
  rw [e2] at ih
  simp only [e_seqS, e_forS, e_rng2, e_vl, e_cst, e_bind, e_frzV, e_op2, e_cb1, e_pk, e_var, List.getElem?_cons_zero, e_peekV, e_rsvV, Option.bind_some, e_lenT, iL_len, e_ofO, e_addI, e_doS]
  rw [if_pos ⟨by omega, by omega, hb3, hb2⟩]
  simp only [e_doS, e1]
  rw [ih]
  unfold short
  have ef : (fun i => fits l (1 + i)) = fun i => fits l (i + 1) := by funext i; rw [Nat.add_comm]
  rw [ef]
  cases (List.range l.length).find? (fun i => fits l (i + 1)) with
  | none => simp
  | some i => simp [Nat.add_comm]
/-! turned back -/
def biT : BB := andB (truB (var 0)) (asB (op2 gEq (ixE (var 0) (op1 gNeg (cst (.int 1)))) (ixE (var 1) (op1 gNeg (cst (.int 1))))))
def biB : SS := parV [0, 1] [(slE (var 0) none (some (op1 gNeg (cst (.int 1))))), (op2 gAddA (slE (var 1) (some (op1 gNeg (cst (.int 1)))) none) (slE (var 1) none (some (op1 gNeg (cst (.int 1))))))]
theorem bi_test (f p : List Int) (hp : p ≠ []) : biT [.val (.tuple (iL f)), .val (.tuple (iL p))] = .ok (decide (f ≠ [] ∧ f.getLast? = p.getLast?)) [.val (.tuple (iL f)), .val (.tuple (iL p))] := by
  have hpl : p.getLast? = some (p.getLast hp) := List.getLast?_eq_getLast hp
  by_cases hf : f = []
  · subst hf
    unfold biT
    simp [iL]
  · have hfl : f.getLast? = some (f.getLast hf) := List.getLast?_eq_getLast hf
    have he : (iL f).isEmpty = false := by cases f with
      | nil => exact (hf rfl).elim
      | cons _ _ => rfl
    unfold biT
    simp [he, last_iL, hfl, hpl, hf]
theorem bi_body (f p : List Int) (hl : p.length ≤ 1000) : biB [.val (.tuple (iL f)), .val (.tuple (iL p))] = .nx [.val (.tuple (iL f.dropLast)), .val (.tuple (iL (p.getLast?.toList ++ p.dropLast)))] := by
  have e1 : (iL p).getLast?.toList = iL p.getLast?.toList := by
    rw [last_iL]
    cases p.getLast? <;> rfl
  have e2 : (iL p.getLast?.toList).length + (iL p.dropLast).length ≤ LINE := by
    rw [iL_len, iL_len, List.length_dropLast]
    have : p.getLast?.toList.length ≤ 1 := by cases p.getLast? <;> simp
    unfold LINE; omega
  have e3 := e_addT (iL p.getLast?.toList) (iL p.dropLast)
  rw [if_pos e2, iL_app] at e3
  unfold biB
  simp [cut_last, cut_end, e1, e3]
theorem bi_loop : ∀ (k : Nat) (f p : List Int), f.length ≤ k → p ≠ [] → p.length ≤ 1000 → whS biT biB [.val (.tuple (iL f)), .val (.tuple (iL p))] = .nx [.val (.tuple (iL (turnB k (f, p)).1)), .val (.tuple (iL (turnB k (f, p)).2))]
  | k, f, p, hk, hp, hl => by
    rw [whS_eq, bi_test f p hp]
    by_cases z : f ≠ [] ∧ f.getLast? = p.getLast?
    · rw [decide_eq_true z]
      dsimp only
      rw [bi_body f p hl]
      dsimp only
      cases k with
      | zero =>
        have : f = [] := List.eq_nil_of_length_eq_zero (by omega)
        exact (z.1 this).elim
      | succ k =>
        have hpl : p.getLast? = some (p.getLast hp) := List.getLast?_eq_getLast hp
        rw [bi_loop k f.dropLast (p.getLast?.toList ++ p.dropLast) (by rw [List.length_dropLast]; omega) (by rw [hpl]; simp) (by rw [hpl, List.length_append, List.length_dropLast]; simp; omega)]
        have e : turnB (k + 1) (f, p) = turnB k (f.dropLast, p.getLast?.toList ++ p.dropLast) := by
          show (if _ then _ else _) = _
          rw [if_pos z]
        rw [e]
    · rw [decide_eq_false z]
      dsimp only
      have e : turnB k (f, p) = (f, p) := by
        cases k with
        | zero => rfl
        | succ k =>
          show (if _ then _ else _) = _
          rw [if_neg z]
      rw [e]
theorem v_block_in (b : Blk) (hl : b.2.length ≤ 1000) (hne : b.2 ≠ []) : gv F_block_in [.tuple (iL b.1), .tuple (iL b.2)] = .ok (.val (bD (blockIn b))) := by
  obtain ⟨f, p⟩ := b
  have h1 : (short p).length ≤ 1000 := by
    obtain ⟨s, _, h2, _, h4, _⟩ := short_ok hne
    dsimp only at hl
    rw [h4, List.length_take]
    exact Nat.le_trans (Nat.min_le_right _ _) hl
  have q := bi_loop f.length f (short p) (Nat.le_refl _) (short_ne hne) h1
  unfold biT biB at q
  rw [F_block_in, S_block_in, gv2_2]
  simp [v_shortest p hl, q, bD, blockIn]
/-! tables -/
theorem ok_bD (b : Blk) : okD (bD b) := ⟨by
  show (plainL (iL b.1) && (plainL (iL b.2) && true)) = true
  rw [plain_iL, plain_iL]; rfl, by
  show max (PyData.depthAll (iL b.1) + 1) (max (PyData.depthAll (iL b.2) + 1) 0) + 1 ≤ 64
  rw [depth_iL, depth_iL]; decide⟩
theorem bD_inj {b c : Blk} : bD b = bD c ↔ b = c := by
  constructor
  · intro h
    unfold bD at h
    injection h with h
    injection h with h1 h
    injection h with h2 h
    injection h1 with h1
    injection h2 with h2
    exact Prod.ext (iL_inj.mp h1) (iL_inj.mp h2)
  · intro h; rw [h]
instance : DecidableEq Blk := inferInstance
theorem eq_bD (b c : Blk) : gEq (bD b) (bD c) = some (.val (.bool (decide (b = c)))) := by
  rw [gEq_ok (ok_bD b) (ok_bD c)]
  congr 3
  exact decide_eq_decide.mpr bD_inj
def okB (b : Blk) : Prop := b.2 ≠ [] ∧ b.2.length ≤ 1000
def tiT : BB := andB (truB (var 1)) (asB (op2 gEq (ixE (var 1) (op1 gNeg (cst (.int 1)))) (cst (.tuple [.tuple [], .tuple [.int 0]]))))
def tiB : SS := drpS (popE (var 1))
theorem ti_test (x : D) (t : Tab) : tiT [.val x, .own (.list (t.map bD)), .no, .no] = .ok (decide (t.getLast? = some NOT)) [.val x, .own (.list (t.map bD)), .no, .no] := by
  cases z : t.getLast? with
  | none =>
    have : t = [] := List.getLast?_eq_none_iff.mp z
    subst this
    unfold tiT
    simp
  | some b =>
    have hne : t ≠ [] := fun q => by subst q; cases z
    have he : (t.map bD).isEmpty = false := by cases t with
      | nil => exact (hne rfl).elim
      | cons _ _ => rfl
    have hl : (t.map bD).getLast? = some (bD b) := by rw [List.getLast?_map, z]; rfl
    unfold tiT
    simp [he, hl, eq_bD, hne]
theorem ti_body (x : D) (t : Tab) (h : t.getLast? = some NOT) : tiB [.val x, .own (.list (t.map bD)), .no, .no] = .nx [.val x, .own (.list (t.dropLast.map bD)), .no, .no] := by
  have hl : (t.map bD)[(t.map bD).length - 1]? = some (bD NOT) := by
    rw [← List.getLast?_eq_getElem?, List.getLast?_map, h]; rfl
  rw [List.length_map] at hl
  unfold tiB
  simp [hl, List.map_dropLast]
theorem ti_loop (x : D) : ∀ (k : Nat) (t : Tab), t.length ≤ k → whS tiT tiB [.val x, .own (.list (t.map bD)), .no, .no] = .nx [.val x, .own (.list ((trim k t).map bD)), .no, .no]
  | k, t, hk => by
    rw [whS_eq, ti_test]
    by_cases z : t.getLast? = some NOT
    · rw [decide_eq_true z]
      dsimp only
      rw [ti_body x t z]
      dsimp only
      cases k with
      | zero =>
        have : t = [] := List.eq_nil_of_length_eq_zero (by omega)
        subst this; cases z
      | succ k =>
        rw [ti_loop x k t.dropLast (by rw [List.length_dropLast]; omega)]
        have e : trim (k + 1) t = trim k t.dropLast := by
          show (if _ then _ else _) = _
          rw [if_pos z]
        rw [e]
    · rw [decide_eq_false z]
      dsimp only
      have e : trim k t = t := by
        cases k with
        | zero => rfl
        | succ k =>
          show (if _ then _ else _) = _
          rw [if_neg z]
      rw [e]
theorem ti_lc (x : D) (t : Tab) (h : ∀ b ∈ t, okB b) (hl : t.length ≤ LINE) : lcL (tgT [(tgN 2), (tgN 3)]) yesB (callE F_block_in [] [.v (var 2), .v (var 3)]) [2, 3] (t.map bD) [] [.val x, .no, .no, .no] = .ok ((t.map blockIn).map bD) [.val x, .no, .no, .no] := by
  rw [List.map_map]
  refine lcL_mapT bD (fun b => bD (blockIn b)) okB (fun b hb => ?_) t h hl
  refine ⟨[.val x, .no, .val (.tuple (iL b.1)), .val (.tuple (iL b.2))], [.val x, .no, .val (.tuple (iL b.1)), .val (.tuple (iL b.2))], by simp [bD], ?_, by simp, by simp⟩
  simp [v_block_in b hb.2 hb.1]
theorem v_table_inL (t : Tab) (h : ∀ b ∈ t, okB b) (hl : t.length ≤ LINE) : gv F_table_in [.list (t.map bD)] = .ok (.val (tD (tableIn t))) := by
  have q1 := ti_lc (.list (t.map bD)) t h hl
  have q2 := ti_loop (.list (t.map bD)) t.length (t.map blockIn) (by rw [List.length_map]; exact Nat.le_refl _)
  unfold tiT tiB at q2
  rw [F_table_in, S_table_in, gv1_4]
  simp only [e_seqS, e_asgS, e_lcE, e_seqI, e_vl, e_var, List.getElem?_cons_zero, List.getElem?_cons_succ, e_bind, e_frzV, e_okC, e_okN, e_plN, Bool.and_true, if_true, e_wiC, e_wiN, List.set_cons_succ, List.set_cons_zero, q1, e_frzBO, e_doS, e_setT, e_reC, e_reN, List.getD_cons_succ, List.getD_cons_zero, e_ioNo, Bool.false_eq_true, if_false, e_ceO, e_toNx]
  rw [q2]
  simp [tableIn, tD]
theorem v_table_inT (t : Tab) (h : ∀ b ∈ t, okB b) (hl : t.length ≤ LINE) : gv F_table_in [tD t] = .ok (.val (tD (tableIn t))) := by
  have q1 := ti_lc (tD t) t h hl
  have q2 := ti_loop (tD t) t.length (t.map blockIn) (by rw [List.length_map]; exact Nat.le_refl _)
  unfold tiT tiB at q2
  unfold tD at q1 q2 ⊢
  rw [F_table_in, S_table_in, gv1_4]
  simp only [e_seqS, e_asgS, e_lcE, e_seqI, e_vl, e_var, List.getElem?_cons_zero, List.getElem?_cons_succ, e_bind, e_frzV, e_okC, e_okN, e_plN, Bool.and_true, if_true, e_wiC, e_wiN, List.set_cons_succ, List.set_cons_zero, q1, e_frzBO, e_doS, e_setT, e_reC, e_reN, List.getD_cons_succ, List.getD_cons_zero, e_ioNo, Bool.false_eq_true, if_false, e_ceO, e_toNx]
  rw [q2]
  simp [tableIn]
end Wk
set_option Elab.async false
set_option linter.all false
set_option maxRecDepth 100000
set_option maxHeartbeats 4000000
namespace Wk
open PySem PySem.Spec Eng Rd
theorem v_are_numbers (l : List Int) (hl : l.length ≤ LINE) (h : ∀ x ∈ l, -1 ≤ x) : gv F_are_numbers [.tuple (iL l)] = .ok (.val (.bool true)) := by
  have q : lcL (tgN 1) yesB ((bE (andB (vB (callE F_is_integer [] [.v (var 1)])) (vB (op2 gGe (var 1) (op1 gNeg (cst (.int 1)))))))) [1] (iL l) [] [.val (.tuple (iL l)), .no] = .ok (l.map fun x => PyData.bool (decide (-1 ≤ x))) [.val (.tuple (iL l)), .no] := by
    unfold iL
    refine lcL_mapT PyData.int (fun x => PyData.bool (decide (-1 ≤ x))) (fun _ => True) (fun x _ => ?_) l (fun _ _ => trivial) hl
    exact ⟨[.val (.tuple (iL l)), .val (.int x)], [.val (.tuple (iL l)), .val (.int x)], by simp [iL], by simp [iL], by simp, by simp [iL]⟩
  have ha : (l.all fun x => decide (-1 ≤ x)) = true := List.all_eq_true.mpr fun x hx => decide_eq_true (h x hx)
  rw [F_are_numbers, S_are_numbers, gv1_2]
  simp [q, all_map, ha]
theorem v_is_block (b : Blk) (h : Fit b) : gv F_is_block [bD b] = .ok (.val (.bool true)) := by
  obtain ⟨h1, h2, h3, h4, h5⟩ := h
  have hl : 0 < b.2.length := List.length_pos_iff.mpr h1
  have e1 : b.1.length ≤ LINE := by unfold LINE; omega
  have e2 : b.2.length ≤ LINE := by unfold LINE; omega
  rw [F_is_block, S_is_block, gv1_1]
  simp [bD, v_are_numbers b.1 e1 h4, v_are_numbers b.2 e2 h5, hl]
theorem v_are_blocks (t : Tab) (hl : t.length ≤ LINE) (h : ∀ b ∈ t, Fit b) : gv F_are_blocks [tD t] = .ok (.val (.bool true)) := by
  have q : lcL (tgN 1) yesB (callE F_is_block [] [.v (var 1)]) [1] (t.map bD) [] [.val (.tuple (t.map bD)), .no] = .ok (t.map fun _ => PyData.bool true) [.val (.tuple (t.map bD)), .no] := by
    refine lcL_mapT bD (fun _ => PyData.bool true) Fit (fun b hb => ?_) t h hl
    exact ⟨[.val (.tuple (t.map bD)), .val (bD b)], [.val (.tuple (t.map bD)), .val (bD b)], by simp, by simp [v_is_block b hb], by simp, by simp⟩
  have ha : (t.all fun _ => true) = true := List.all_eq_true.mpr fun x hx => rfl
  rw [F_are_blocks, S_are_blocks, gv1_2]
  simp [tD, q, all_map (fun _ => true) t, ha]
theorem okB_fit {b : Blk} (h : Fit b) : okB b := ⟨h.1, h.2.2.1⟩
theorem depth_bD (b : Blk) : (bD b).depth ≤ 2 := by
  show max (PyData.depthAll (iL b.1) + 1) (max (PyData.depthAll (iL b.2) + 1) 0) + 1 ≤ 2
  rw [depth_iL, depth_iL]; decide
theorem ok_tD (t : Tab) : okD (tD t) := by
  have h1 : plainL (t.map bD) = true := by
    induction t with
    | nil => rfl
    | cons b t ih =>
      show (plainD (bD b) && plainL (t.map bD)) = true
      rw [(ok_bD b).1, ih]; rfl
  have h2 : PyData.depthAll (t.map bD) ≤ 2 := by
    induction t with
    | nil => exact Nat.zero_le _
    | cons b t ih => exact Nat.max_le.mpr ⟨depth_bD b, ih (by
        have := h1
        unfold plainL at this
        rw [List.map_cons] at h1
        show plainL (t.map bD) = true
        have h3 : (plainD (bD b) && plainL (t.map bD)) = true := h1
        exact (Bool.and_eq_true_iff.mp h3).2)⟩
  exact ⟨h1, by show PyData.depthAll (t.map bD) + 1 ≤ 64; omega⟩
theorem tD_inj {t u : Tab} : tD t = tD u ↔ t = u := by
  constructor
  · intro h
    unfold tD at h
    injection h with h
    induction t generalizing u with
    | nil => cases u with
      | nil => rfl
      | cons _ _ => cases h
    | cons b t ih => cases u with
      | nil => cases h
      | cons c u =>
        rw [List.map_cons, List.map_cons] at h
        injection h with h1 h2
        rw [bD_inj.mp h1, ih h2]
  · intro h; rw [h]
theorem eq_tD (t u : Tab) : gEq (tD t) (tD u) = some (.val (.bool (decide (t = u)))) := by
  rw [gEq_ok (ok_tD t) (ok_tD u)]
  congr 3
  exact decide_eq_decide.mpr tD_inj
theorem ne_tD (t u : Tab) : gNe (tD t) (tD u) = some (.val (.bool (!decide (t = u)))) := by
  rw [gNe_ok (ok_tD t) (ok_tD u)]
  congr 4
  exact decide_eq_decide.mpr tD_inj
def TabOk (t : Tab) : Prop := CanT t ∧ t.length ≤ 1000 ∧ ∀ b ∈ t, Fit b
theorem tab_line {t : Tab} (h : TabOk t) : t.length ≤ LINE := by have := h.2.1; unfold LINE; omega
theorem v_is_table (t : Tab) (h : TabOk t) : gv F_is_table [tD t] = .ok (.val (.bool true)) := by
  have q := v_table_inT t (fun b hb => okB_fit (h.2.2 b hb)) (tab_line h)
  rw [table_can h.1] at q
  rw [F_is_table, S_is_table, gv1_1]
  simp [v_are_blocks t (tab_line h) h.2.2, q, eq_tD]
theorem v_check_table (t : Tab) (h : TabOk t) : gv F_check_table [tD t] = .ok (.val .none) := by
  rw [F_check_table, S_check_table, gv1_1]
  simp [v_is_table t h]
theorem okH_nat (k n : Nat) : okH (k, n) := ⟨by show (0 : Int) ≤ (k : Int); omega, by show (0 : Int) ≤ (n : Int); omega⟩
theorem v_check_nH (k n : Nat) : gv F_check_height [nH k n] = .ok (.val .none) := by
  rw [nH_hD]
  exact v_check_height ((k : Int), (n : Int)) (okH_nat k n)
theorem v_number_at (t : Tab) (h : TabOk t) (k n : Nat) : gv F_number_at [tD t, nH k n] = .ok (.val (.int (numT t k n))) := by
  rw [F_number_at, S_number_at, gv2_2]
  simp [v_check_table t h, v_check_nH, v_number_in t k n (fun b hb => (h.2.2 b hb).1)]
theorem v_shifted (b : Blk) (n : Nat) (h : Fit b) : gv F_shifted [bD b, .int n] = .ok (.val (bD (shiftB b n))) := by
  have hf := fit_shift h n
  have q := v_block_in (shiftR b n) hf.2.2.1 hf.1
  have hl : 0 < b.2.length := List.length_pos_iff.mpr h.1
  by_cases z : n ≤ b.1.length
  · have e : shiftR b n = (b.1.drop n, b.2) := by unfold shiftR; rw [if_pos z]
    rw [e] at q
    dsimp only at q
    rw [F_shifted, S_shifted, gv2_5]
    simp [bD, z, cut_from, q, shiftB, e]
  · have e : shiftR b n = ([], b.2.drop ((n - b.1.length) % b.2.length) ++ b.2.take ((n - b.1.length) % b.2.length)) := by unfold shiftR; rw [if_neg z]
    rw [e] at q
    dsimp only at q
    have e1 : (n : Int) - (b.1.length : Int) = ((n - b.1.length : Nat) : Int) := by omega
    have e2 : (((n - b.1.length : Nat) : Int) % (b.2.length : Int)) = (((n - b.1.length) % b.2.length : Nat) : Int) := rfl
    have e3 : (b.2.drop ((n - b.1.length) % b.2.length)).length + (b.2.take ((n - b.1.length) % b.2.length)).length ≤ LINE := by
      have := h.2.2.1
      rw [List.length_drop, List.length_take]
      unfold LINE; omega
    have e4 := e_addT (iL (b.2.drop ((n - b.1.length) % b.2.length))) (iL (b.2.take ((n - b.1.length) % b.2.length)))
    rw [iL_len, iL_len, if_pos e3, iL_app] at e4
    have z' : ¬ ((n : Int) ≤ (b.1.length : Int)) := by omega
    have hl' : (0 : Int) < (b.2.length : Int) := by omega
    have q' : gv F_block_in [.tuple [], .tuple (iL (b.2.drop ((n - b.1.length) % b.2.length) ++ b.2.take ((n - b.1.length) % b.2.length)))] = _ := q
    rw [F_shifted, S_shifted, gv2_5]
    simp only [e_seqS, e_asgT, e_vl, e_var, List.getElem?_cons_zero, List.getElem?_cons_succ, e_bind, e_frzV, e_doS, bD, e_tgT, e_tgLC, e_tgLN, e_tgN, e_setT, e_ioNo, e_ioV, Bool.false_eq_true, if_false, List.set_cons_succ, List.set_cons_zero, e_ceT, Option.bind_some, e_toNx, e_ifS, e_asB, e_op2, e_cb1, e_pk, e_peekV, e_rsvV, e_lenT, iL_len, e_ofO, e_le, decide_eq_false z', e_nxS, e_asgS, e_sub, e_mod, if_pos hl', e1, e2, e_frzBV, e_retS, e_callE, e_asV, e_asN, e_tupE, e_vsN, e_slE, e_optN, e_optS, e_slcT, cut_from, cut_to, iL_drop, iL_take, e4, call_v2, q', e_outO, e_ouV]
    unfold shiftB
    rw [e]
theorem v_tail_in (t : Tab) (k n : Nat) (h : TabOk t) : gv F_tail_in [tD t, nH k n] = .ok (.val (tD (tailT t k n))) := by
  have hf := fit_at h.2.2 k
  have e1 : ((k : Int) + 1) = ((k + 1 : Nat) : Int) := by omega
  have e2 : (t.map bD).drop (k + 1) = (t.drop (k + 1)).map bD := by rw [List.map_drop]
  have e3 := e_addT [bD (shiftB (atB t k) n)] ((t.drop (k + 1)).map bD)
  have hl := h.2.1
  rw [if_pos (by rw [List.length_map, List.length_drop, List.length_singleton]; unfold LINE; omega)] at e3
  have q := v_table_inT (shiftB (atB t k) n :: t.drop (k + 1)) (fun b hb => by
    rcases List.mem_cons.mp hb with e | hb
    · rw [e]; exact okB_fit (fit_block (fit_shift hf n))
    · exact okB_fit (h.2.2 b (List.mem_of_mem_drop hb))) (by rw [List.length_cons, List.length_drop]; unfold LINE; omega)
  have q' : gv F_table_in [.tuple ([bD (shiftB (atB t k) n)] ++ (t.drop (k + 1)).map bD)] = .ok (.val (tD (tailT t k n))) := q
  have qa := v_block_at t k
  unfold tD at qa ⊢
  rw [F_tail_in, S_tail_in, gv2_4]
  simp only [e_seqS, e_asgT, e_vl, e_var, List.getElem?_cons_zero, List.getElem?_cons_succ, e_bind, e_frzV, e_doS, nH, e_tgT, e_tgLC, e_tgLN, e_tgN, e_setT, e_ioNo, e_ioV, Bool.false_eq_true, if_false, List.set_cons_succ, List.set_cons_zero, e_ceT, Option.bind_some, e_toNx, e_retS, e_callE, e_asV, e_asN, e_op2, e_tupE, e_vsC, e_vsN, call_v2, qa, e_outO, v_shifted _ n hf, e_slE, e_pk, e_peekV, e_optS, e_cst, e_addI, e_ofO, e1, e_optN, e_rsvV, e_slcT, cut_from, e2, e3, call_v1, q', e_ouV]
  rfl
theorem tail_ok {t : Tab} (h : TabOk t) (k n : Nat) : TabOk (tailT t k n) := by
  have hf := fit_tail h.2.2 k n
  refine ⟨?_, ?_, hf⟩
  · refine (table_ok fun b hb => ?_).1
    rcases List.mem_cons.mp hb with e | hb
    · rw [e]; exact (fit_block (fit_shift (fit_at h.2.2 k) n)).1
    · exact (h.2.2 b (List.mem_of_mem_drop hb)).1
  · have := table_len (shiftB (atB t k) n :: t.drop (k + 1))
    have h2 := h.2.1
    rw [List.length_cons, List.length_drop] at this
    show (tableIn _).length ≤ 1000
    omega
theorem v_tail_of (t : Tab) (k n : Nat) (h : TabOk t) : gv F_tail_of [tD t, nH k n] = .ok (.val (tD (tailT t k n))) := by
  rw [F_tail_of, S_tail_of, gv2_2]
  simp [v_check_table t h, v_check_nH, v_tail_in t k n h]
end Wk
set_option Elab.async false
set_option linter.all false
set_option maxRecDepth 100000
set_option maxHeartbeats 4000000
namespace Wk
open PySem PySem.Spec Eng Rd
/-! unlike tables: one with itself -/
theorem mem_rng {lo : Nat} {k : Nat} {d : D} (h : d ∈ rng (lo : Int) k) : ∃ n : Nat, d = .int (n : Int) := by
  unfold rng at h
  obtain ⟨i, _, rfl⟩ := List.mem_map.mp h
  exact ⟨lo + i, by simp⟩
theorem mem_rng0 {k : Nat} {d : D} (h : d ∈ rng 0 k) : ∃ n : Nat, d = .int (n : Int) := mem_rng (lo := 0) h
def unI : SS := ifS (asB (op2 gNe (callE F_block_number [] [.v (var 4), .v (var 3)]) (callE F_block_number [] [.v (var 5), .v (var 3)]))) (retS (tupE [(var 2), (var 3)])) nxS
theorem un_inner (T : D) (k : D) (b : Blk) (hb : b.2 ≠ []) (ds : List D) (hd : ∀ d ∈ ds, ∃ n : Nat, d = .int (n : Int)) (x : Cell) (hx : isIo (some x) = false) :
    ∃ x', isIo (some x') = false ∧ forL (tgN 3) unI ds [.val T, .val T, .val k, x, .val (bD b), .val (bD b)] = .nx [.val T, .val T, .val k, x', .val (bD b), .val (bD b)] := by
  obtain ⟨sl, e1, x', hx', _, e2⟩ := forL_nx (tg := tgN 3) (body := unI) (fun ds sl => ∃ x, isIo (some x) = false ∧ (∀ d ∈ ds, ∃ n : Nat, d = .int (n : Int)) ∧ sl = [.val T, .val T, .val k, x, .val (bD b), .val (bD b)]) (fun d ds sl ⟨x, hx, h1, h2⟩ => by
    obtain ⟨n, rfl⟩ := h1 d List.mem_cons_self
    subst h2
    refine ⟨[.val T, .val T, .val k, .val (.int n), .val (bD b), .val (bD b)], [.val T, .val T, .val k, .val (.int n), .val (bD b), .val (bD b)], by simp [hx], ?_, .val (.int n), rfl, fun d hd => h1 d (List.mem_cons_of_mem _ hd), rfl⟩
    unfold unI
    simp [v_block_number b n hb]) ds _ ⟨x, hx, hd, rfl⟩
  exact ⟨x', hx', by rw [e1, e2]⟩
theorem v_spans (b : Blk) (h1 : b.1.length ≤ 1000) (h2 : b.2.length ≤ 1000) : gv F_spans_of [bD b, bD b] = .ok (.val (.tuple [.int b.1.length, .int b.2.length])) := by
  have e : gLcm (.int (b.2.length : Int)) (.int (b.2.length : Int)) = some (.val (.int (b.2.length : Int))) := by
    show (if _ then _ else _) = _
    have ea : ((b.2.length : Int)).natAbs = b.2.length := Int.natAbs_natCast _
    rw [ea, if_pos ⟨by omega, by omega⟩, Nat.lcm_self]
  rw [F_spans_of, S_spans_of, gv2_2]
  simp [bD, e]
def unO : SS := seqS (parV [4, 5] [(callE F_block_at [] [.v (var 0), .v (var 2)]), (callE F_block_at [] [.v (var 1), .v (var 2)])]) (forS (rngI1 (cb1 gSum (callE F_spans_of [] [.v (var 4), .v (var 5)]))) (tgN 3) unI)
theorem un_outer (t : Tab) (ht : ∀ b ∈ t, Fit b) (ds : List D) (hd : ∀ d ∈ ds, ∃ n : Nat, d = .int (n : Int)) (sl : Sl) (hs : ∃ x y z w, isIo (some x) = false ∧ isIo (some y) = false ∧ isIo (some z) = false ∧ isIo (some w) = false ∧ sl = [.val (tD t), .val (tD t), x, y, z, w]) :
    ∃ sl', forL (tgN 2) unO ds sl = .nx sl' := by
  obtain ⟨sl', e1, _⟩ := forL_nx (tg := tgN 2) (body := unO) (fun ds sl => (∀ d ∈ ds, ∃ n : Nat, d = .int (n : Int)) ∧ ∃ x y z w, isIo (some x) = false ∧ isIo (some y) = false ∧ isIo (some z) = false ∧ isIo (some w) = false ∧ sl = [.val (tD t), .val (tD t), x, y, z, w]) (fun d ds sl ⟨h1, x, y, z, w, hx, hy, hz, hw, h2⟩ => by
    obtain ⟨n, rfl⟩ := h1 d List.mem_cons_self
    subst h2
    have hf := fit_at ht n
    obtain ⟨y', hy', e⟩ := un_inner (tD t) (.int n) (atB t n) hf.1 (rng 0 ((atB t n).1.length + (atB t n).2.length)) (fun d hd => mem_rng0 hd) y hy
    refine ⟨[.val (tD t), .val (tD t), .val (.int n), y, z, w], [.val (tD t), .val (tD t), .val (.int n), y', .val (bD (atB t n)), .val (bD (atB t n))], by simp [hx], ?_, fun d hd => h1 d (List.mem_cons_of_mem _ hd), .val (.int n), y', .val (bD (atB t n)), .val (bD (atB t n)), rfl, hy', rfl, rfl, rfl⟩
    have es : gSum (.tuple [.int ((atB t n).1.length : Int), .int ((atB t n).2.length : Int)]) = some (.val (.int (((atB t n).1.length : Int) + ((atB t n).2.length : Int)))) := by
      show some (Tm.val (PyData.int ([((atB t n).1.length : Int), ((atB t n).2.length : Int)]).sum)) = _
      simp
    have hc : -4611686018427387904 ≤ (((atB t n).1.length : Int) + ((atB t n).2.length : Int)) ∧ (((atB t n).1.length : Int) + ((atB t n).2.length : Int)) < 4611686018427387904 := by
      have := hf.2.1
      have := hf.2.2.1
      omega
    have en : (((atB t n).1.length : Int) + ((atB t n).2.length : Int)).toNat = (atB t n).1.length + (atB t n).2.length := by omega
    unfold unO
    simp only [e_seqS, e_parV, e_vsC, e_vsN, e_callE, e_asV, e_asN, e_vl, e_var, List.getElem?_cons_zero, List.getElem?_cons_succ, e_bind, e_frzV, call_v2, v_block_at, e_outO, e_doS, List.map_cons, List.map_nil, e_tgLC, e_tgLN, e_tgN, e_setT, hz, hw, e_ioV, Bool.false_eq_true, if_false, List.set_cons_succ, List.set_cons_zero, e_ceT, Option.bind_some, e_toNx, e_forS, e_rng1, e_cb1, e_pk, v_spans _ hf.2.1 hf.2.2.1, e_peekV, e_rsvV, es, e_ofO, if_pos hc, en, e]) ds sl ⟨hd, hs⟩
  exact ⟨sl', e1⟩
theorem v_unlike_in (t : Tab) (h : TabOk t) : gv F_unlike_in [tD t, tD t] = .ok (.val .none) := by
  obtain ⟨sl', e⟩ := un_outer t h.2.2 (rng 0 t.length) (fun d hd => mem_rng0 hd) [.val (tD t), .val (tD t), .no, .no, .no, .no] ⟨.no, .no, .no, .no, rfl, rfl, rfl, rfl, rfl⟩
  have hc : -4611686018427387904 ≤ (t.length : Int) ∧ (t.length : Int) < 4611686018427387904 := by
    have := h.2.1
    omega
  have en : ((t.length : Int)).toNat = t.length := by omega
  have el : gLen (tD t) = some (.val (.int t.length)) := by
    unfold tD
    rw [e_lenT, List.length_map]
  unfold unO unI at e
  rw [F_unlike_in, S_unlike_in, gv2_6]
  simp only [e_seqS, e_forS, e_rng1, e_op2, e_cb1, e_pk, e_vl, e_var, List.getElem?_cons_zero, List.getElem?_cons_succ, e_bind, e_peekV, e_rsvV, Option.bind_some, el, e_ofO, e_frzV, max2_int, Int.max_self, if_pos hc, en, e_doS, e, e_retS, e_cst, e_ouV]
theorem v_unlike_at (t : Tab) (h : TabOk t) : gv F_unlike_at [tD t, tD t] = .ok (.val .none) := by
  rw [F_unlike_at, S_unlike_at, gv2_2]
  simp [v_check_table t h, v_unlike_in t h]
end Wk
set_option Elab.async false
set_option linter.all false
set_option maxRecDepth 100000
set_option maxHeartbeats 4000000
namespace Wk
open PySem PySem.Spec Eng Rd
open Ft (Fo He topF maxH over)
/-! forests as data -/
def encF : Fo → List D
  | .nil => []
  | .cons a d m i r => .tuple [.int a, .int d, .int m, .tuple (encF i)] :: encF r
def fD (f : Fo) : D := .tuple (encF f)
def hN (h : He) : D := .tuple [.int h.1, .int h.2]
theorem enc_len : ∀ f : Fo, (encF f).length ≤ Ft.trm f
  | .nil => Nat.le_refl _
  | .cons a d m i r => by
    have := enc_len r
    show (encF r).length + 1 ≤ 1 + Ft.trm i + Ft.trm r
    omega
theorem plain_enc : ∀ f : Fo, plainL (encF f) = true
  | .nil => rfl
  | .cons a d m i r => by
    show ((true && (true && (true && (plainL (encF i) && true)))) && plainL (encF r)) = true
    rw [plain_enc i, plain_enc r]; rfl
theorem depth_enc : ∀ f : Fo, PyData.depthAll (encF f) ≤ 2 * Ft.dep f
  | .nil => Nat.le_refl _
  | .cons a d m i r => by
    have h1 := depth_enc i
    have h2 := depth_enc r
    show max (max 0 (max 0 (max 0 (max (PyData.depthAll (encF i) + 1) 0))) + 1) (PyData.depthAll (encF r)) ≤ 2 * max (Ft.dep i + 1) (Ft.dep r)
    omega
theorem ok_fD (f : Fo) (h : Ft.dep f ≤ 20) : okD (fD f) := ⟨plain_enc f, by
  have := depth_enc f
  show PyData.depthAll (encF f) + 1 ≤ 64
  omega⟩
theorem enc_inj : ∀ {f g : Fo}, encF f = encF g ↔ f = g := by
  intro f
  induction f with
  | nil => intro g; cases g with
    | nil => simp
    | cons _ _ _ _ _ => simp [encF]
  | cons a d m i r hi hr => intro g; cases g with
    | nil => simp [encF]
    | cons a' d' m' i' r' =>
      constructor
      · intro h
        have h' : (PyData.tuple [.int a, .int d, .int m, .tuple (encF i)]) :: encF r = PyData.tuple [.int a', .int d', .int m', .tuple (encF i')] :: encF r' := h
        injection h' with h1 h2
        injection h1 with h1
        injection h1 with e1 h1
        injection h1 with e2 h1
        injection h1 with e3 h1
        injection h1 with e4 h1
        injection e1 with e1
        injection e2 with e2
        injection e3 with e3
        injection e4 with e4
        have q1 : a = a' := by omega
        have q2 : d = d' := by omega
        rw [q1, q2, e3, hi.mp e4, hr.mp h2]
      · intro h; rw [h]
theorem eq_fD (f g : Fo) (hf : Ft.dep f ≤ 20) (hg : Ft.dep g ≤ 20) : (gEq (fD f) (fD g) = some (.val (.bool true)) ↔ f = g) ∧ (gNe (fD f) (fD g) = some (.val (.bool false)) ↔ f = g) := by
  rw [gEq_ok (ok_fD f hf) (ok_fD g hg), gNe_ok (ok_fD f hf) (ok_fD g hg)]
  have e : fD f = fD g ↔ f = g := by
    unfold fD
    rw [← enc_inj]
    exact ⟨fun h => by injection h, fun h => by rw [h]⟩
  constructor
  · simp [e]
  · simp [e]
/-! heights compared -/
theorem lt_hN (x y : He) : PySem.W.dataLt (hN x) (hN y) = decide (Ft.ltH x y) := by
  unfold hN
  rw [PySem.W.dataLt_ii]
  refine decide_eq_decide.mpr ?_
  unfold Ft.ltH
  omega
theorem max_hN (x y : He) : gMax2 (hN x) (hN y) = some (.val (hN (maxH x y))) := by
  have h : cmp2Ok (hN x) (hN y) = true := rfl
  unfold gMax2
  rw [if_pos h, lt_hN]
  unfold maxH
  by_cases z : Ft.ltH x y
  · rw [decide_eq_true z, if_pos rfl, if_pos z]
  · rw [decide_eq_false z, if_neg (by simp), if_neg z]
theorem ge_hN (x y : He) : gGe (hN x) (hN y) = some (.val (.bool (decide (Ft.leH y x)))) := by
  have h : cmpOk (hN x) (hN y) = true := rfl
  show (if cmpOk _ _ = true then some (Tm.val (.bool (!PySem.W.dataLt (hN x) (hN y)))) else _) = _
  rw [if_pos h, lt_hN]
  by_cases z : Ft.ltH x y
  · have : ¬ Ft.leH y x := fun q => (Ft.not_ltH.mpr q) z
    rw [decide_eq_true z, decide_eq_false this]; rfl
  · rw [decide_eq_false z, decide_eq_true (Ft.not_ltH.mp z)]; rfl
/-! tops -/
def toB (X : FF) : SS := seqS (asgT (tgT [(tgN 6), (tgN 7)]) (callE X [] [.v (var 5)])) (asgS 1 (op2 gMax2 (var 1) (ifE (asB (op2 gGt (var 3) (cst (.int 0)))) (tupE [(op2 gAddA (var 6) (cst (.int 1))), (cst (.int 0))]) (tupE [(var 6), (op2 gAddA (op2 gAddA (var 7) (var 2)) (cst (.int 1)))]))))
theorem over_hN (x : He) (a d : Nat) : hN (over x a d) = if 0 < d then .tuple [.int ((x.1 : Int) + 1), .int 0] else .tuple [.int x.1, .int ((x.2 : Int) + a + 1)] := by
  unfold hN over
  split <;> rfl
theorem to_body (X : FF) (v : D) (acc : He) (a d : Nat) (m : Int) (i : Fo) (x6 x7 : Cell) (h6 : isIo (some x6) = false) (h7 : isIo (some x7) = false) (hX : gv X [fD i] = .ok (.val (hN (topF i)))) :
    toB X [.val v, .val (hN acc), .val (.int a), .val (.int d), .val (.int m), .val (fD i), x6, x7] = .nx [.val v, .val (hN (maxH acc (over (topF i) a d))), .val (.int a), .val (.int d), .val (.int m), .val (fD i), .val (.int (topF i).1), .val (.int (topF i).2)] := by
  have q := max_hN acc (over (topF i) a d)
  rw [over_hN] at q
  unfold hN at hX
  by_cases z : 0 < d
  · rw [if_pos z] at q
    unfold toB
    simp [hX, h6, h7, z, q]
  · rw [if_neg z] at q
    unfold toB
    simp [hX, h6, h7, z, q]
theorem to_loop (X : FF) (v : D) : ∀ (r : Fo) (acc : He) (x2 x3 x4 x5 x6 x7 : Cell), isIo (some x2) = false → isIo (some x3) = false → isIo (some x4) = false → isIo (some x5) = false → isIo (some x6) = false → isIo (some x7) = false →
    (∀ i : Fo, Ft.dep i < Ft.dep r → gv X [fD i] = .ok (.val (hN (topF i)))) →
    ∃ y2 y3 y4 y5 y6 y7, forL (tgT [(tgN 2), (tgN 3), (tgN 4), (tgN 5)]) (toB X) (encF r) [.val v, .val (hN acc), x2, x3, x4, x5, x6, x7] = .nx [.val v, .val (hN (maxH acc (topF r))), y2, y3, y4, y5, y6, y7]
  | .nil, acc, x2, x3, x4, x5, x6, x7, h2, h3, h4, h5, h6, h7, hX => ⟨x2, x3, x4, x5, x6, x7, by
    show SR.nx _ = _
    rw [show maxH acc (topF .nil) = acc from Ft.max_zeroR acc]⟩
  | .cons a d m i r, acc, x2, x3, x4, x5, x6, x7, h2, h3, h4, h5, h6, h7, hX => by
    have hi : gv X [fD i] = .ok (.val (hN (topF i))) := hX i (by show Ft.dep i < max (Ft.dep i + 1) (Ft.dep r); omega)
    obtain ⟨y2, y3, y4, y5, y6, y7, e⟩ := to_loop X v r (maxH acc (over (topF i) a d)) (.val (.int a)) (.val (.int d)) (.val (.int m)) (.val (fD i)) (.val (.int (topF i).1)) (.val (.int (topF i).2)) rfl rfl rfl rfl rfl rfl (fun i' h => hX i' (by show Ft.dep i' < max (Ft.dep i + 1) (Ft.dep r); omega))
    refine ⟨y2, y3, y4, y5, y6, y7, ?_⟩
    have hb := to_body X v acc a d m i x6 x7 h6 h7 hi
    show forL _ _ (.tuple [.int a, .int d, .int m, .tuple (encF i)] :: encF r) _ = _
    unfold forL
    have ht : tgT [(tgN 2), (tgN 3), (tgN 4), (tgN 5)] (.tuple [.int a, .int d, .int m, .tuple (encF i)]) [.val v, .val (hN acc), x2, x3, x4, x5, x6, x7] = some [.val v, .val (hN acc), .val (.int a), .val (.int d), .val (.int m), .val (fD i), x6, x7] := by
      simp [h2, h3, h4, h5, fD]
    rw [ht]
    dsimp only
    rw [hb]
    dsimp only
    rw [e, Ft.max_assoc]
    rfl
theorem v_R_top : ∀ (n : Nat) (f : Fo), Ft.dep f < n → gv (R_top_in n) [fD f] = .ok (.val (hN (topF f)))
  | 0, f, h => by omega
  | n + 1, f, h => by
    obtain ⟨y2, y3, y4, y5, y6, y7, e⟩ := to_loop (R_top_in n) (fD f) f (0, 0) .no .no .no .no .no .no rfl rfl rfl rfl rfl rfl (fun i hi => v_R_top n i (by omega))
    rw [Ft.max_zero] at e
    unfold toB at e
    show gv (S_top_in (R_top_in n)) [fD f] = _
    rw [S_top_in, gv1_8]
    have e0 : hN (0, 0) = .tuple [.int 0, .int 0] := rfl
    rw [e0] at e
    unfold fD at e ⊢
    simp only [e_seqS, e_asgS, e_tupE, e_vsC, e_vsN, e_vl, e_cst, e_bind, e_frzV, e_frzBV, e_doS, e_setT, List.getElem?_cons_zero, List.getElem?_cons_succ, e_ioNo, Bool.false_eq_true, if_false, List.set_cons_succ, List.set_cons_zero, e_ceT, e_toNx, e_forS, e_seqI, e_var, e, e_retS, e_ouV]
theorem v_top (f : Fo) (h : Ft.dep f ≤ 7) : gv F_top_in [fD f] = .ok (.val (hN (topF f))) := v_R_top 8 f (by omega)
end Wk
set_option Elab.async false
set_option linter.all false
set_option maxRecDepth 100000
set_option maxHeartbeats 4000000
namespace Wk
open PySem PySem.Spec Eng Rd
open Ft (Fo He topF maxH over Sd firstS woS kidS upS mulS copies less)
def sD (s : Sd) : D := .tuple [.int s.1, .int s.2.1, .int s.2.2.1, .int s.2.2.2]
def sL (L : List Sd) : List D := L.map sD
def fiB (X : FF) : SS := seqS (asgT (tgT [(tgN 6), (tgN 7)]) (callE X [] [.v (var 5)])) (drpS (appE (var 1) (tupE [(var 6), (op2 gAddA (var 7) (var 2)), (var 3), (var 4)])))
theorem fi_body (X : FF) (v : D) (acc : List Sd) (a d : Nat) (m : Int) (i : Fo) (x6 x7 : Cell) (h6 : isIo (some x6) = false) (h7 : isIo (some x7) = false) (hX : gv X [fD i] = .ok (.val (hN (topF i)))) (hl : acc.length < LINE) :
    fiB X [.val v, .own (.list (sL acc)), .val (.int a), .val (.int d), .val (.int m), .val (fD i), x6, x7] = .nx [.val v, .own (.list (sL (acc ++ [((topF i).1, (topF i).2 + a, d, m)]))), .val (.int a), .val (.int d), .val (.int m), .val (fD i), .val (.int (topF i).1), .val (.int (topF i).2)] := by
  have hl' : (sL acc).length < LINE := by unfold sL; rw [List.length_map]; exact hl
  have e : sL (acc ++ [((topF i).1, (topF i).2 + a, d, m)]) = sL acc ++ [.tuple [.int (topF i).1, .int ((topF i).2 + a), .int d, .int m]] := by
    unfold sL
    rw [List.map_append]
    rfl
  rw [e]
  unfold hN at hX
  unfold fiB
  simp [hX, h6, h7, hl']
theorem fi_loop (X : FF) (v : D) : ∀ (r : Fo) (acc : List Sd) (x2 x3 x4 x5 x6 x7 : Cell), isIo (some x2) = false → isIo (some x3) = false → isIo (some x4) = false → isIo (some x5) = false → isIo (some x6) = false → isIo (some x7) = false →
    (∀ i : Fo, Ft.dep i < Ft.dep r → gv X [fD i] = .ok (.val (hN (topF i)))) → acc.length + (firstS r).length ≤ LINE →
    ∃ y2 y3 y4 y5 y6 y7, forL (tgT [(tgN 2), (tgN 3), (tgN 4), (tgN 5)]) (fiB X) (encF r) [.val v, .own (.list (sL acc)), x2, x3, x4, x5, x6, x7] = .nx [.val v, .own (.list (sL (acc ++ firstS r))), y2, y3, y4, y5, y6, y7]
  | .nil, acc, x2, x3, x4, x5, x6, x7, h2, h3, h4, h5, h6, h7, hX, hl => ⟨x2, x3, x4, x5, x6, x7, by
    show SR.nx _ = _
    rw [show acc ++ firstS .nil = acc from List.append_nil acc]⟩
  | .cons a d m i r, acc, x2, x3, x4, x5, x6, x7, h2, h3, h4, h5, h6, h7, hX, hl => by
    have hi : gv X [fD i] = .ok (.val (hN (topF i))) := hX i (by show Ft.dep i < max (Ft.dep i + 1) (Ft.dep r); omega)
    have hl2 : acc.length + ((firstS r).length + 1) ≤ LINE := hl
    obtain ⟨y2, y3, y4, y5, y6, y7, e⟩ := fi_loop X v r (acc ++ [((topF i).1, (topF i).2 + a, d, m)]) (.val (.int a)) (.val (.int d)) (.val (.int m)) (.val (fD i)) (.val (.int (topF i).1)) (.val (.int (topF i).2)) rfl rfl rfl rfl rfl rfl (fun i' h => hX i' (by show Ft.dep i' < max (Ft.dep i + 1) (Ft.dep r); omega)) (by rw [List.length_append, List.length_singleton]; omega)
    refine ⟨y2, y3, y4, y5, y6, y7, ?_⟩
    have hb := fi_body X v acc a d m i x6 x7 h6 h7 hi (by omega)
    show forL _ _ (.tuple [.int a, .int d, .int m, .tuple (encF i)] :: encF r) _ = _
    unfold forL
    have ht : tgT [(tgN 2), (tgN 3), (tgN 4), (tgN 5)] (.tuple [.int a, .int d, .int m, .tuple (encF i)]) [.val v, .own (.list (sL acc)), x2, x3, x4, x5, x6, x7] = some [.val v, .own (.list (sL acc)), .val (.int a), .val (.int d), .val (.int m), .val (fD i), x6, x7] := by
      simp [h2, h3, h4, h5, fD]
    rw [ht]
    dsimp only
    rw [hb]
    dsimp only
    rw [e, List.append_assoc]
    rfl
theorem v_first (f : Fo) (h : Ft.dep f ≤ 7) (hl : (firstS f).length ≤ LINE) : gv F_first_strands [fD f] = .ok (.own (.list (sL (firstS f)))) := by
  obtain ⟨y2, y3, y4, y5, y6, y7, e⟩ := fi_loop F_top_in (fD f) f [] .no .no .no .no .no .no rfl rfl rfl rfl rfl rfl (fun i hi => v_top i (by omega)) (by simpa using hl)
  unfold fiB at e
  have e0 : sL [] = [] := rfl
  rw [e0, List.nil_append] at e
  rw [F_first_strands, S_first_strands, gv1_8]
  unfold fD at e ⊢
  simp only [e_seqS, e_asgS, e_lstE, e_vsN, e_vl, e_bind, e_frzV, e_frzBO, e_doS, e_setT, List.getElem?_cons_zero, List.getElem?_cons_succ, e_ioNo, Bool.false_eq_true, if_false, List.set_cons_succ, List.set_cons_zero, e_ceO, e_toNx, e_forS, e_seqI, e_var, e, e_retS, e_ouB]
/-! without one -/
def woB : SS := seqS (ifS (andB (asB (op2 gEq (var 3) (cst (.int 1)))) (andB (asB (op2 gEq (var 6) (cst (.int 0)))) (asB (op2 gEq (tupE [(var 4), (var 5)]) (var 1))))) (seqS (asgS 3 (cst (.int 0))) (asgS 7 (ifE (asB (op2 gEq (var 7) (op1 gNeg (cst (.int 1))))) (var 7) (op2 gSub (var 7) (cst (.int 1)))))) nxS) (drpS (appE (var 2) (tupE [(var 4), (var 5), (var 6), (var 7)])))
theorem ok_hN (h : He) : okD (hN h) := ⟨rfl, by show (1 : Nat) ≤ 64; decide⟩
theorem eq_hN (x y : He) : gEq (hN x) (hN y) = some (.val (.bool (decide (x = y)))) := by
  rw [gEq_ok (ok_hN x) (ok_hN y)]
  congr 3
  refine decide_eq_decide.mpr ⟨fun h => ?_, fun h => by rw [h]⟩
  unfold hN at h
  injection h with h
  injection h with h1 h
  injection h with h2 h
  injection h1 with h1
  injection h2 with h2
  exact Prod.ext (by omega) (by omega)
def woG (h : He) (left : Bool) (L : List Sd) : List Sd := if left then woS h L else L
theorem wo_body (v : D) (h : He) (left : Bool) (acc : List Sd) (s : Sd) (hl : acc.length < LINE) :
    woB [.val v, .val (hN h), .own (.list (sL acc)), .val (.int (if left then 1 else 0)), .val (.int s.1), .val (.int s.2.1), .val (.int s.2.2.1), .val (.int s.2.2.2)] =
      if left = true ∧ s.2.2.1 = 0 ∧ (s.1, s.2.1) = h then .nx [.val v, .val (hN h), .own (.list (sL (acc ++ [(s.1, s.2.1, s.2.2.1, less s.2.2.2)]))), .val (.int 0), .val (.int s.1), .val (.int s.2.1), .val (.int s.2.2.1), .val (.int (less s.2.2.2))]
      else .nx [.val v, .val (hN h), .own (.list (sL (acc ++ [s]))), .val (.int (if left then 1 else 0)), .val (.int s.1), .val (.int s.2.1), .val (.int s.2.2.1), .val (.int s.2.2.2)] := by
  have hl' : (sL acc).length < LINE := by unfold sL; rw [List.length_map]; exact hl
  have e1 : ∀ s' : Sd, sL (acc ++ [s']) = sL acc ++ [.tuple [.int s'.1, .int s'.2.1, .int s'.2.2.1, .int s'.2.2.2]] := fun s' => by
    unfold sL
    rw [List.map_append]
    rfl
  have q := eq_hN (s.1, s.2.1) h
  rw [show hN (s.1, s.2.1) = .tuple [.int s.1, .int s.2.1] from rfl] at q
  rw [e1, e1]
  cases left with
  | false =>
    unfold woB
    simp [hl']
  | true =>
    by_cases z : s.2.2.1 = 0
    · by_cases z2 : (s.1, s.2.1) = h
      · rw [decide_eq_true z2] at q
        unfold woB less
        by_cases zm : s.2.2.2 = -1
        · simp [z, q, hl', zm, z2]
        · simp [z, q, hl', zm, z2]
      · rw [decide_eq_false z2] at q
        unfold woB
        simp [z, q, hl', z2]
    · have z' : ¬ ((s.2.2.1 : Int) = 0) := by omega
      unfold woB
      simp [z, hl']
theorem wo_loop (v : D) (h : He) : ∀ (L : List Sd) (left : Bool) (acc : List Sd) (x4 x5 x6 x7 : Cell), isIo (some x4) = false → isIo (some x5) = false → isIo (some x6) = false → isIo (some x7) = false → acc.length + L.length ≤ LINE →
    ∃ y3 y4 y5 y6 y7, forL (tgT [(tgN 4), (tgN 5), (tgN 6), (tgN 7)]) woB (sL L) [.val v, .val (hN h), .own (.list (sL acc)), .val (.int (if left then 1 else 0)), x4, x5, x6, x7] = .nx [.val v, .val (hN h), .own (.list (sL (acc ++ woG h left L))), y3, y4, y5, y6, y7]
  | [], left, acc, x4, x5, x6, x7, h4, h5, h6, h7, hl => by
    refine ⟨.val (.int (if left then 1 else 0)), x4, x5, x6, x7, ?_⟩
    have e : acc ++ woG h left [] = acc := by
      unfold woG
      split
      · exact List.append_nil acc
      · exact List.append_nil acc
    rw [e]
    rfl
  | s :: L, left, acc, x4, x5, x6, x7, h4, h5, h6, h7, hl => by
    rw [List.length_cons] at hl
    have ht : tgT [(tgN 4), (tgN 5), (tgN 6), (tgN 7)] (sD s) [.val v, .val (hN h), .own (.list (sL acc)), .val (.int (if left then 1 else 0)), x4, x5, x6, x7] = some [.val v, .val (hN h), .own (.list (sL acc)), .val (.int (if left then 1 else 0)), .val (.int s.1), .val (.int s.2.1), .val (.int s.2.2.1), .val (.int s.2.2.2)] := by
      unfold sD
      simp [h4, h5, h6, h7]
    have hb := wo_body v h left acc s (by omega)
    show ∃ y3 y4 y5 y6 y7, forL _ _ (sD s :: sL L) _ = _
    unfold forL
    rw [ht]
    dsimp only
    rw [hb]
    by_cases z : left = true ∧ s.2.2.1 = 0 ∧ (s.1, s.2.1) = h
    · rw [if_pos z]
      obtain ⟨y3, y4, y5, y6, y7, e⟩ := wo_loop v h L false (acc ++ [(s.1, s.2.1, s.2.2.1, less s.2.2.2)]) (.val (.int s.1)) (.val (.int s.2.1)) (.val (.int s.2.2.1)) (.val (.int (less s.2.2.2))) rfl rfl rfl rfl (by rw [List.length_append, List.length_singleton]; omega)
      refine ⟨y3, y4, y5, y6, y7, ?_⟩
      have ew : woG h left (s :: L) = (s.1, s.2.1, s.2.2.1, less s.2.2.2) :: L := by
        unfold woG
        rw [z.1, if_pos rfl, Ft.wo_cons, if_pos z.2]
      rw [ew]
      have ef : woG h false L = L := rfl
      rw [ef, List.append_assoc] at e
      exact e
    · rw [if_neg z]
      obtain ⟨y3, y4, y5, y6, y7, e⟩ := wo_loop v h L left (acc ++ [s]) (.val (.int s.1)) (.val (.int s.2.1)) (.val (.int s.2.2.1)) (.val (.int s.2.2.2)) rfl rfl rfl rfl (by rw [List.length_append, List.length_singleton]; omega)
      refine ⟨y3, y4, y5, y6, y7, ?_⟩
      have ew : woG h left (s :: L) = s :: woG h left L := by
        unfold woG
        cases left with
        | false => rfl
        | true => rw [if_pos rfl, if_pos rfl, Ft.wo_cons, if_neg fun q => z ⟨rfl, q⟩]
      rw [ew]
      rw [List.append_assoc] at e
      exact e
theorem v_without (L : List Sd) (h : He) (hl : L.length ≤ LINE) : gv F_without_one [.list (sL L), hN h] = .ok (.own (.list (sL (woS h L)))) := by
  obtain ⟨y3, y4, y5, y6, y7, e⟩ := wo_loop (.list (sL L)) h L true [] .no .no .no .no rfl rfl rfl rfl (by simpa using hl)
  unfold woB at e
  have e0 : sL [] = [] := rfl
  have e1 : woG h true L = woS h L := rfl
  rw [e0, List.nil_append, e1, if_pos rfl] at e
  rw [F_without_one, S_without_one, gv2_8]
  simp only [e_seqS, e_parS, e_lstE, e_vsN, e_bind, e_doS, e_cst, e_nbO, e_nbV, Bool.and_true, if_true, e_setT, List.getElem?_cons_zero, List.getElem?_cons_succ, e_ioNo, Bool.false_eq_true, if_false, List.set_cons_succ, List.set_cons_zero, e_ceO, e_ceT, e_toNx, e_forS, e_seqI, e_vl, e_var, e_frzV, e, e_retS, e_ouB]
theorem v_kid (f : Fo) (h : Ft.dep f ≤ 7) (hl : (firstS f).length ≤ LINE) : gv F_kid_strands [fD f] = .ok (.own (.list (sL (kidS f)))) := by
  have q1 := v_top f h
  have q2 := v_first f h hl
  unfold hN at q1
  rw [F_kid_strands, S_kid_strands, gv1_4]
  by_cases z : 0 < (topF f).2
  · have e : kidS f = woS ((topF f).1, (topF f).2 - 1) (firstS f) := by unfold kidS; rw [if_pos z]
    have q3 := v_without (firstS f) ((topF f).1, (topF f).2 - 1) hl
    have e2 : hN ((topF f).1, (topF f).2 - 1) = .tuple [.int (topF f).1, .int (((topF f).2 : Int) - 1)] := by
      unfold hN
      have : (((topF f).2 - 1 : Nat) : Int) = ((topF f).2 : Int) - 1 := by omega
      rw [this]
    rw [e2] at q3
    rw [e]
    simp [q1, q2, q3, z]
  · have e : kidS f = firstS f := by unfold kidS; rw [if_neg z]
    rw [e]
    simp [q1, q2, z]
end Wk
set_option Elab.async false
set_option linter.all false
set_option maxRecDepth 100000
set_option maxHeartbeats 4000000
namespace Wk
open PySem PySem.Spec Eng Rd
open Ft (Fo He topF maxH over Sd firstS woS kidS upS mulS copies less strands)
theorem tN_eq (x y : Int) : timesN x y = Ft.timesN x y := rfl
theorem pN_eq (x y : Int) : plusN x y = Ft.plusN x y := rfl
def usI : SS := drpS (appE (var 1) (tupE [(var 7), (var 8), (var 9), (callE F_times_number [] [.v (var 6), .v (var 10)])]))
theorem us_inner (v x2 x3 x4 x5 : Cell) (c : Int) (hc : -1 ≤ c ∧ c ≤ 9) : ∀ (L : List Sd) (acc : List Sd) (x7 x8 x9 x10 : Cell), isIo (some x7) = false → isIo (some x8) = false → isIo (some x9) = false → isIo (some x10) = false → acc.length + L.length ≤ LINE →
    ∃ y7 y8 y9 y10, isIo (some y7) = false ∧ isIo (some y8) = false ∧ isIo (some y9) = false ∧ isIo (some y10) = false ∧ forL (tgT [(tgN 7), (tgN 8), (tgN 9), (tgN 10)]) usI (sL L) [v, .own (.list (sL acc)), x2, x3, x4, x5, .val (.int c), x7, x8, x9, x10] = .nx [v, .own (.list (sL (acc ++ L.map (mulS c)))), x2, x3, x4, x5, .val (.int c), y7, y8, y9, y10]
  | [], acc, x7, x8, x9, x10, h7, h8, h9, h10, hl => ⟨x7, x8, x9, x10, h7, h8, h9, h10, by rw [List.map_nil, List.append_nil]; rfl⟩
  | s :: L, acc, x7, x8, x9, x10, h7, h8, h9, h10, hl => by
    rw [List.length_cons] at hl
    have hl' : (sL acc).length < LINE := by unfold sL; rw [List.length_map]; omega
    obtain ⟨y7, y8, y9, y10, g7, g8, g9, g10, e⟩ := us_inner v x2 x3 x4 x5 c hc L (acc ++ [mulS c s]) (.val (.int s.1)) (.val (.int s.2.1)) (.val (.int s.2.2.1)) (.val (.int s.2.2.2)) rfl rfl rfl rfl (by rw [List.length_append, List.length_singleton]; omega)
    refine ⟨y7, y8, y9, y10, g7, g8, g9, g10, ?_⟩
    have hm : mulOk c s.2.2.2 = true := by
      unfold mulOk
      simp only [Bool.or_eq_true, Bool.and_eq_true, decide_eq_true_eq]
      exact .inl ⟨by omega, by omega⟩
    have ht := v_times c s.2.2.2 hm
    have e1 : sL (acc ++ [mulS c s]) = sL acc ++ [.tuple [.int s.1, .int s.2.1, .int s.2.2.1, .int (timesN c s.2.2.2)]] := by
      unfold sL
      rw [List.map_append]
      rfl
    have hb : usI [v, .own (.list (sL acc)), x2, x3, x4, x5, .val (.int c), .val (.int s.1), .val (.int s.2.1), .val (.int s.2.2.1), .val (.int s.2.2.2)] = .nx [v, .own (.list (sL (acc ++ [mulS c s]))), x2, x3, x4, x5, .val (.int c), .val (.int s.1), .val (.int s.2.1), .val (.int s.2.2.1), .val (.int s.2.2.2)] := by
      rw [e1]
      unfold usI
      simp [ht, hl']
    have hg : tgT [(tgN 7), (tgN 8), (tgN 9), (tgN 10)] (sD s) [v, .own (.list (sL acc)), x2, x3, x4, x5, .val (.int c), x7, x8, x9, x10] = some [v, .own (.list (sL acc)), x2, x3, x4, x5, .val (.int c), .val (.int s.1), .val (.int s.2.1), .val (.int s.2.2.1), .val (.int s.2.2.2)] := by
      unfold sD
      simp [h7, h8, h9, h10]
    show forL _ _ (sD s :: sL L) _ = _
    unfold forL
    rw [hg]
    dsimp only
    rw [hb]
    dsimp only
    rw [e, List.append_assoc]
    rfl
def usB (X : FF) : SS := seqS (asgS 6 (ifE (asB (op2 gGt (var 3) (cst (.int 0)))) (op1 gNeg (cst (.int 1))) (var 4))) (forS (seqI (op2 gAddA (callE F_kid_strands [] [.v (var 5)]) (callE X [] [.v (var 5)]))) (tgT [(tgN 7), (tgN 8), (tgN 9), (tgN 10)]) usI)
theorem us_body (X : FF) (v : D) (acc : List Sd) (a d : Nat) (m : Int) (i : Fo) (x6 x7 x8 x9 x10 : Cell) (h6 : isIo (some x6) = false) (h7 : isIo (some x7) = false) (h8 : isIo (some x8) = false) (h9 : isIo (some x9) = false) (h10 : isIo (some x10) = false)
    (hm : m = -1 ∨ (1 ≤ m ∧ m ≤ 9)) (hK : gv F_kid_strands [fD i] = .ok (.own (.list (sL (kidS i))))) (hX : gv X [fD i] = .ok (.own (.list (sL (upS i))))) (hl : acc.length + ((kidS i).length + (upS i).length) ≤ LINE) :
    ∃ y7 y8 y9 y10, isIo (some y7) = false ∧ isIo (some y8) = false ∧ isIo (some y9) = false ∧ isIo (some y10) = false ∧ usB X [.val v, .own (.list (sL acc)), .val (.int a), .val (.int d), .val (.int m), .val (fD i), x6, x7, x8, x9, x10] =
      .nx [.val v, .own (.list (sL (acc ++ (kidS i ++ upS i).map (mulS (copies d m))))), .val (.int a), .val (.int d), .val (.int m), .val (fD i), .val (.int (copies d m)), y7, y8, y9, y10] := by
  have hc : -1 ≤ copies d m ∧ copies d m ≤ 9 := by
    unfold copies
    split <;> omega
  obtain ⟨y7, y8, y9, y10, g7, g8, g9, g10, e⟩ := us_inner (.val v) (.val (.int a)) (.val (.int d)) (.val (.int m)) (.val (fD i)) (copies d m) hc (kidS i ++ upS i) acc x7 x8 x9 x10 h7 h8 h9 h10 (by rw [List.length_append]; exact hl)
  refine ⟨y7, y8, y9, y10, g7, g8, g9, g10, ?_⟩
  have ea := e_addL (sL (kidS i)) (sL (upS i))
  rw [if_pos (by unfold sL; rw [List.length_map, List.length_map]; omega)] at ea
  have es : sL (kidS i) ++ sL (upS i) = sL (kidS i ++ upS i) := by unfold sL; rw [List.map_append]
  rw [es] at ea
  unfold usI at e
  unfold usB usI
  unfold copies at e ⊢
  by_cases z : 0 < d
  · rw [if_pos z] at e ⊢
    simp only [e_seqS, e_asgS, e_ifE, e_asB, e_op2, e_vl, e_var, List.getElem?_cons_zero, List.getElem?_cons_succ, e_bind, e_frzV, e_cst, e_gt, e_ofO, show decide ((0 : Int) < (d : Int)) = true from decide_eq_true (by omega), if_true, e_op1, e_neg, e_frzBV, e_doS, e_setT, h6, Bool.false_eq_true, if_false, List.set_cons_succ, List.set_cons_zero, e_ceT, e_toNx, e_forS, e_seqI, e_callE, e_asV, e_asN, call_v1, hK, hX, e_outO, e_frzO, ea, e]
  · rw [if_neg z] at e ⊢
    simp only [e_seqS, e_asgS, e_ifE, e_asB, e_op2, e_vl, e_var, List.getElem?_cons_zero, List.getElem?_cons_succ, e_bind, e_frzV, e_cst, e_gt, e_ofO, show decide ((0 : Int) < (d : Int)) = false from decide_eq_false (by omega), if_true, e_op1, e_neg, e_frzBV, e_doS, e_setT, h6, Bool.false_eq_true, if_false, List.set_cons_succ, List.set_cons_zero, e_ceT, e_toNx, e_forS, e_seqI, e_callE, e_asV, e_asN, call_v1, hK, hX, e_outO, e_frzO, ea, e]
theorem us_loop (X : FF) (v : D) : ∀ (r : Fo) (acc : List Sd) (x2 x3 x4 x5 x6 x7 x8 x9 x10 : Cell), isIo (some x2) = false → isIo (some x3) = false → isIo (some x4) = false → isIo (some x5) = false → isIo (some x6) = false → isIo (some x7) = false → isIo (some x8) = false → isIo (some x9) = false → isIo (some x10) = false →
    Ft.shp r → Ft.dep r ≤ 8 → acc.length + Ft.trm r ≤ LINE → (∀ i : Fo, Ft.shp i → Ft.dep i < Ft.dep r → Ft.trm i ≤ LINE → gv X [fD i] = .ok (.own (.list (sL (upS i))))) →
    ∃ y2 y3 y4 y5 y6 y7 y8 y9 y10, forL (tgT [(tgN 2), (tgN 3), (tgN 4), (tgN 5)]) (usB X) (encF r) [.val v, .own (.list (sL acc)), x2, x3, x4, x5, x6, x7, x8, x9, x10] = .nx [.val v, .own (.list (sL (acc ++ upS r))), y2, y3, y4, y5, y6, y7, y8, y9, y10]
  | .nil, acc, x2, x3, x4, x5, x6, x7, x8, x9, x10, h2, h3, h4, h5, h6, h7, h8, h9, h10, hs, hd, hl, hX => ⟨x2, x3, x4, x5, x6, x7, x8, x9, x10, by
    show SR.nx _ = _
    rw [show acc ++ upS .nil = acc from List.append_nil acc]⟩
  | .cons a d m i r, acc, x2, x3, x4, x5, x6, x7, x8, x9, x10, h2, h3, h4, h5, h6, h7, h8, h9, h10, hs, hd, hl, hX => by
    obtain ⟨s1, s2, s3, s4⟩ := hs
    have hd' : max (Ft.dep i + 1) (Ft.dep r) ≤ 8 := hd
    have hl' : acc.length + (1 + Ft.trm i + Ft.trm r) ≤ LINE := hl
    have q1 := Ft.strands_len i
    have q2 := Ft.kid_len i
    have q3 := Ft.strands_len r
    have hi := hX i s3 (by show Ft.dep i < max (Ft.dep i + 1) (Ft.dep r); omega) (by omega)
    have hk := v_kid i (by omega) (by omega)
    obtain ⟨y7, y8, y9, y10, g7, g8, g9, g10, eb⟩ := us_body X v acc a d m i x6 x7 x8 x9 x10 h6 h7 h8 h9 h10 s2 hk hi (by omega)
    have el : ((kidS i ++ upS i).map (mulS (copies d m))).length = Ft.trm i := by rw [List.length_map, List.length_append]; omega
    obtain ⟨z2, z3, z4, z5, z6, z7, z8, z9, z10, e⟩ := us_loop X v r (acc ++ (kidS i ++ upS i).map (mulS (copies d m))) (.val (.int a)) (.val (.int d)) (.val (.int m)) (.val (fD i)) (.val (.int (copies d m))) y7 y8 y9 y10 rfl rfl rfl rfl rfl g7 g8 g9 g10 s4 (by omega) (by rw [List.length_append, el]; omega) (fun i' a1 a2 a3 => hX i' a1 (by show Ft.dep i' < max (Ft.dep i + 1) (Ft.dep r); omega) a3)
    refine ⟨z2, z3, z4, z5, z6, z7, z8, z9, z10, ?_⟩
    have ht : tgT [(tgN 2), (tgN 3), (tgN 4), (tgN 5)] (.tuple [.int a, .int d, .int m, .tuple (encF i)]) [.val v, .own (.list (sL acc)), x2, x3, x4, x5, x6, x7, x8, x9, x10] = some [.val v, .own (.list (sL acc)), .val (.int a), .val (.int d), .val (.int m), .val (fD i), x6, x7, x8, x9, x10] := by
      simp [h2, h3, h4, h5, fD]
    show forL _ _ (.tuple [.int a, .int d, .int m, .tuple (encF i)] :: encF r) _ = _
    unfold forL
    rw [ht]
    dsimp only
    rw [eb]
    dsimp only
    rw [e, List.append_assoc]
    rfl
theorem v_R_up : ∀ (n : Nat) (f : Fo), Ft.shp f → Ft.dep f < n → n ≤ 8 → Ft.trm f ≤ LINE → gv (R_upper_strands n) [fD f] = .ok (.own (.list (sL (upS f))))
  | 0, f, _, h, _, _ => by omega
  | n + 1, f, hs, h, hn, hl => by
    obtain ⟨y2, y3, y4, y5, y6, y7, y8, y9, y10, e⟩ := us_loop (R_upper_strands n) (fD f) f [] .no .no .no .no .no .no .no .no .no rfl rfl rfl rfl rfl rfl rfl rfl rfl hs (by omega) (by simpa using hl) (fun i a1 a2 a3 => v_R_up n i a1 (by omega) (by omega) a3)
    unfold usB usI at e
    have e0 : sL [] = [] := rfl
    rw [e0, List.nil_append] at e
    show gv (S_upper_strands F_kid_strands (R_upper_strands n) F_times_number) [fD f] = _
    rw [S_upper_strands, gv1_11]
    unfold fD at e ⊢
    simp only [e_seqS, e_asgS, e_lstE, e_vsN, e_vl, e_bind, e_frzV, e_frzBO, e_doS, e_setT, List.getElem?_cons_zero, List.getElem?_cons_succ, e_ioNo, Bool.false_eq_true, if_false, List.set_cons_succ, List.set_cons_zero, e_ceO, e_toNx, e_forS, e_seqI, e_var, e, e_retS, e_ouB]
theorem v_up (f : Fo) (hs : Ft.shp f) (h : Ft.dep f ≤ 7) (hl : Ft.trm f ≤ LINE) : gv F_upper_strands [fD f] = .ok (.own (.list (sL (upS f)))) := v_R_up 8 f hs (by omega) (by omega) hl
/-! a strand's number -/
theorem v_strand (s : Sd) (n : Nat) : gv F_strand_number [sD s, .int n] = .ok (.val (.int (Ft.snum s n))) := by
  obtain ⟨k, p, d, m⟩ := s
  rw [F_strand_number, S_strand_number, gv2_6]
  unfold sD Ft.snum
  dsimp only
  by_cases z : d = 0
  · subst z
    by_cases q : n = p
    · subst q
      simp
    · have q' : ¬ ((n : Int) = (p : Int)) := by omega
      simp [q, q']
  · have z' : ¬ ((d : Int) = 0) := by omega
    have hd : 0 < d := by omega
    by_cases q : p ≤ n
    · have e : ((n : Int) - (p : Int)) = ((n - p : Nat) : Int) := by omega
      have e2 : (((n - p : Nat) : Int) % (d : Int)) = 0 ↔ (n - p) % d = 0 := by
        show (((n - p) % d : Nat) : Int) = 0 ↔ _
        omega
      by_cases g : (n - p) % d = 0
      · simp [z, hd, q, e, e2.mpr g, g]
      · have g' : ¬ (((n - p : Nat) : Int) % (d : Int)) = 0 := fun w => g (e2.mp w)
        simp [z, hd, q, e, g', g]
    · simp [z, q]
end Wk
set_option Elab.async false
set_option linter.all false
set_option maxRecDepth 100000
set_option maxHeartbeats 4000000
namespace Wk
open PySem PySem.Spec Eng Rd
open Ft (Fo He topF maxH over Sd firstS woS kidS upS mulS copies less strands SdOk startS perS rowS blkS sumS)
/-! the block of strands -/
def sbA : SS := seqS (asgS 3 (op2 gMax2 (var 3) (op2 gAddA (var 2) (cst (.int 1))))) (asgS 4 (ifE (asB (op2 gGt (var 6) (cst (.int 0)))) (op2 gLcm (var 4) (var 6)) (var 4)))
theorem lcm_int (a b : Nat) (ha : a ≤ 1000) (hb : b ≤ 1000) : gLcm (.int a) (.int b) = some (.val (.int (Nat.lcm a b))) := by
  show (if _ then _ else _) = _
  rw [Int.natAbs_natCast, Int.natAbs_natCast, if_pos ⟨by omega, by omega⟩]
theorem sb_first (v : D) : ∀ (L : List Sd) (st p : Nat) (x1 x2 x5 x6 x7 x8 : Cell), isIo (some x2) = false → isIo (some x5) = false → isIo (some x6) = false → (∀ s ∈ L, s.2.2.1 = 0 ∨ s.2.2.1 ∣ 6) → p ∣ 6 →
    ∃ y2 y5 y6, isIo (some y2) = false ∧ forL (tgT [(tgN 5), (tgN 2), (tgN 6), (tgN 5)]) sbA (sL L) [.val v, x1, x2, .val (.int st), .val (.int p), x5, x6, x7, x8] =
      .nx [.val v, x1, y2, .val (.int (L.foldl (fun t s => max t (s.2.1 + 1)) st : Nat)), .val (.int (L.foldl (fun p s => if 0 < s.2.2.1 then Nat.lcm p s.2.2.1 else p) p : Nat)), y5, y6, x7, x8]
  | [], st, p, x1, x2, x5, x6, x7, x8, h2, h5, h6, hq, hp => ⟨x2, x5, x6, h2, rfl⟩
  | s :: L, st, p, x1, x2, x5, x6, x7, x8, h2, h5, h6, hq, hp => by
    have hqs := hq s List.mem_cons_self
    have hp6 : p ≤ 6 := Nat.le_of_dvd (by decide) hp
    have hd6 : s.2.2.1 ≤ 6 := by
      rcases hqs with q | q
      · omega
      · exact Nat.le_of_dvd (by decide) q
    have hp' : (if 0 < s.2.2.1 then Nat.lcm p s.2.2.1 else p) ∣ 6 := by
      split
      · rcases hqs with q | q
        · omega
        · exact Nat.lcm_dvd hp q
      · exact hp
    obtain ⟨y2, y5, y6, g2, e⟩ := sb_first v L (max st (s.2.1 + 1)) (if 0 < s.2.2.1 then Nat.lcm p s.2.2.1 else p) x1 (.val (.int s.2.1)) (.val (.int s.2.2.2)) (.val (.int s.2.2.1)) x7 x8 rfl rfl rfl (fun s hs => hq s (List.mem_cons_of_mem _ hs)) hp'
    refine ⟨y2, y5, y6, g2, ?_⟩
    have hg : tgT [(tgN 5), (tgN 2), (tgN 6), (tgN 5)] (sD s) [.val v, x1, x2, .val (.int st), .val (.int p), x5, x6, x7, x8] = some [.val v, x1, .val (.int s.2.1), .val (.int st), .val (.int p), .val (.int s.2.2.2), .val (.int s.2.2.1), x7, x8] := by
      unfold sD
      simp [h2, h5, h6]
    have em : (max (st : Int) ((s.2.1 : Int) + 1)) = ((max st (s.2.1 + 1) : Nat) : Int) := by omega
    have hb : sbA [.val v, x1, .val (.int s.2.1), .val (.int st), .val (.int p), .val (.int s.2.2.2), .val (.int s.2.2.1), x7, x8] = .nx [.val v, x1, .val (.int s.2.1), .val (.int (max st (s.2.1 + 1) : Nat)), .val (.int (if 0 < s.2.2.1 then Nat.lcm p s.2.2.1 else p : Nat)), .val (.int s.2.2.2), .val (.int s.2.2.1), x7, x8] := by
      rw [← em]
      unfold sbA
      by_cases z : 0 < s.2.2.1
      · rw [if_pos z]
        simp [z, lcm_int p s.2.2.1 (by omega) (by omega)]
      · rw [if_neg z]
        simp [z]
    show forL _ _ (sD s :: sL L) _ = _
    unfold forL
    rw [hg]
    dsimp only
    rw [hb]
    exact e
def sbP : SS := asgS 7 (callE F_plus_number [] [.v (var 7), .v (callE F_strand_number [] [.v (var 8), .v (var 2)])])
theorem sb_sum (v x1 x3 x4 x5 x6 : Cell) (n : Nat) : ∀ (L : List Sd) (t : Int) (x8 : Cell), isIo (some x8) = false → ∃ y8, isIo (some y8) = false ∧
    forL (tgN 8) sbP (sL L) [v, x1, .val (.int n), x3, x4, x5, x6, .val (.int t), x8] = .nx [v, x1, .val (.int n), x3, x4, x5, x6, .val (.int (sumS L n t)), y8]
  | [], t, x8, h8 => ⟨x8, h8, rfl⟩
  | s :: L, t, x8, h8 => by
    obtain ⟨y8, g8, e⟩ := sb_sum v x1 x3 x4 x5 x6 n L (plusN t (Ft.snum s n)) (.val (sD s)) rfl
    refine ⟨y8, g8, ?_⟩
    have hb : sbP [v, x1, .val (.int n), x3, x4, x5, x6, .val (.int t), .val (sD s)] = .nx [v, x1, .val (.int n), x3, x4, x5, x6, .val (.int (plusN t (Ft.snum s n))), .val (sD s)] := by
      unfold sbP
      simp [v_strand]
    have hg : tgN 8 (sD s) [v, x1, .val (.int n), x3, x4, x5, x6, .val (.int t), x8] = some [v, x1, .val (.int n), x3, x4, x5, x6, .val (.int t), .val (sD s)] := by
      simp [h8]
    show forL _ _ (sD s :: sL L) _ = _
    unfold forL
    rw [hg]
    dsimp only
    rw [hb]
    exact e
def sbN : SS := seqS (asgS 7 (cst (.int 0))) (seqS (forS (seqI (var 0)) (tgN 8) sbP) (drpS (appE (var 1) (var 7))))
theorem sb_row (L : List Sd) (st p : D) (x5 x6 : Cell) : ∀ (k lo : Nat) (acc : List Int) (x2 x7 x8 : Cell), isIo (some x2) = false → isIo (some x7) = false → isIo (some x8) = false → acc.length + k ≤ LINE →
    ∃ y2 y7 y8, forL (tgN 2) sbN (rng lo k) [.val (.list (sL L)), .own (.list (iL acc)), x2, .val st, .val p, x5, x6, x7, x8] =
      .nx [.val (.list (sL L)), .own (.list (iL (acc ++ (List.range k).map fun i => sumS L (lo + i) 0))), y2, .val st, .val p, x5, x6, y7, y8]
  | 0, lo, acc, x2, x7, x8, h2, h7, h8, hl => ⟨x2, x7, x8, by
    have : acc ++ (List.range 0).map (fun i => sumS L (lo + i) 0) = acc := List.append_nil acc
    rw [this]; rfl⟩
  | k + 1, lo, acc, x2, x7, x8, h2, h7, h8, hl => by
    have hl' : (iL acc).length < LINE := by rw [iL_len]; omega
    obtain ⟨y2, y7, y8, e⟩ := sb_row L st p x5 x6 k (lo + 1) (acc ++ [sumS L lo 0]) (.val (.int lo)) (.val (.int (sumS L lo 0))) (Classical.choose (sb_sum (.val (.list (sL L))) (.own (.list (iL acc))) (.val st) (.val p) x5 x6 lo L 0 x8 h8)) rfl rfl (Classical.choose_spec (sb_sum (.val (.list (sL L))) (.own (.list (iL acc))) (.val st) (.val p) x5 x6 lo L 0 x8 h8)).1 (by rw [List.length_append, List.length_singleton]; omega)
    have es := (Classical.choose_spec (sb_sum (.val (.list (sL L))) (.own (.list (iL acc))) (.val st) (.val p) x5 x6 lo L 0 x8 h8)).2
    generalize Classical.choose (sb_sum (.val (.list (sL L))) (.own (.list (iL acc))) (.val st) (.val p) x5 x6 lo L 0 x8 h8) = w at *
    refine ⟨y2, y7, y8, ?_⟩
    have hg : tgN 2 (.int lo) [.val (.list (sL L)), .own (.list (iL acc)), x2, .val st, .val p, x5, x6, x7, x8] = some [.val (.list (sL L)), .own (.list (iL acc)), .val (.int lo), .val st, .val p, x5, x6, x7, x8] := by
      simp [h2]
    have ei : iL acc ++ [.int (sumS L lo 0)] = iL (acc ++ [sumS L lo 0]) := by unfold iL; rw [List.map_append]; rfl
    have hb : sbN [.val (.list (sL L)), .own (.list (iL acc)), .val (.int lo), .val st, .val p, x5, x6, x7, x8] = .nx [.val (.list (sL L)), .own (.list (iL (acc ++ [sumS L lo 0]))), .val (.int lo), .val st, .val p, x5, x6, .val (.int (sumS L lo 0)), w] := by
      rw [← ei]
      unfold sbP at es
      unfold sbN sbP
      simp only [e_seqS, e_asgS, e_cst, e_bind, e_frzBV, e_doS, e_setT, List.getElem?_cons_zero, List.getElem?_cons_succ, h7, Bool.false_eq_true, if_false, List.set_cons_succ, List.set_cons_zero, e_ceT, e_toNx, e_forS, e_seqI, e_vl, e_var, e_frzV, es, e_drpS, e_app, e_obL, e_ob, e_obj, Option.map_some, if_pos hl', e_put, e_putO]
    rw [rng_succ]
    have e0 : ((lo : Int) + 1) = ((lo + 1 : Nat) : Int) := by omega
    rw [e0]
    unfold forL
    rw [hg]
    dsimp only
    rw [hb]
    dsimp only
    rw [e, List.append_assoc]
    have er : [sumS L lo 0] ++ (List.range k).map (fun i => sumS L (lo + 1 + i) 0) = (List.range (k + 1)).map fun i => sumS L (lo + i) 0 := by
      rw [List.range_succ_eq_map, List.map_cons, List.map_map]
      show sumS L lo 0 :: _ = sumS L (lo + 0) 0 :: _
      congr 1
      refine List.map_congr_left fun i _ => ?_
      show sumS L (lo + 1 + i) 0 = sumS L (lo + (i + 1)) 0
      congr 1
      omega
    rw [er]
theorem v_strands_block (L : List Sd) (h : ∀ s ∈ L, SdOk s) : gv F_strands_block [.list (sL L)] = .ok (.val (bD (blkS L))) := by
  have hq : ∀ s ∈ L, s.2.2.1 = 0 ∨ s.2.2.1 ∣ 6 := fun s hs => (h s hs).2.2.1
  obtain ⟨hp, hp6⟩ := Ft.per_pos L hq
  have hs : startS L ≤ 501 := Ft.start_le (fun s hs => by have := (h s hs).2.1; omega) 0 (by omega)
  obtain ⟨y2, y5, y6, g2, e1⟩ := sb_first (.list (sL L)) L 0 1 .no .no .no .no .no .no rfl rfl rfl hq (Nat.one_dvd 6)
  obtain ⟨z2, z7, z8, e2⟩ := sb_row L (.int (startS L)) (.int (perS L)) y5 y6 (startS L + perS L) 0 [] y2 .no .no g2 rfl rfl (by simp; unfold LINE; omega)
  have e1' : forL (tgT [(tgN 5), (tgN 2), (tgN 6), (tgN 5)]) sbA (sL L) [.val (.list (sL L)), .no, .no, .val (.int 0), .val (.int 1), .no, .no, .no, .no] = .nx [.val (.list (sL L)), .no, y2, .val (.int (startS L)), .val (.int (perS L)), y5, y6, .no, .no] := e1
  have er : [] ++ (List.range (startS L + perS L)).map (fun i => sumS L (0 + i) 0) = rowS L := by
    rw [List.nil_append]
    unfold rowS
    refine List.map_congr_left fun i _ => ?_
    rw [Nat.zero_add]
  rw [er] at e2
  have ei : iL [] = [] := rfl
  rw [ei] at e2
  have en : ((startS L : Int) + (perS L : Int)).toNat = startS L + perS L := by omega
  have hc : -4611686018427387904 ≤ ((startS L : Int) + (perS L : Int)) ∧ ((startS L : Int) + (perS L : Int)) < 4611686018427387904 := by omega
  have e2' : forL (tgN 2) sbN (rng 0 (startS L + perS L)) [.val (.list (sL L)), .own (.list []), y2, .val (.int (startS L)), .val (.int (perS L)), y5, y6, .no, .no] = _ := e2
  unfold sbA at e1'
  unfold sbN sbP at e2'
  rw [F_strands_block, S_strands_block, gv1_9]
  simp only [e_seqS, e_asgT, e_tupE, e_vsC, e_vsN, e_vl, e_cst, e_bind, e_frzV, e_doS, e_tgT, e_tgLC, e_tgLN, e_tgN, e_setT, List.getElem?_cons_zero, List.getElem?_cons_succ, e_ioNo, Bool.false_eq_true, if_false, List.set_cons_succ, List.set_cons_zero, e_ceT, Option.bind_some, e_toNx, e_forS, e_seqI, e_var, e1', e_asgS, e_lstE, e_frzBO, e_ceO, e_rng1, e_op2, e_addI, e_ofO, if_pos hc, en, e2', e_retS, e_cb1, e_slE, e_pk, e_peekI, e_optN, e_optS, e_rsvI, e_slcL, e_peekO, e_rsvV, e_tuL, cut_to, cut_from, iL_take, iL_drop, e_ouV]
  rfl
end Wk
set_option Elab.async false
set_option linter.all false
set_option maxRecDepth 100000
set_option maxHeartbeats 4000000
namespace Wk
open PySem PySem.Spec Eng Rd
open Ft (Fo He topF maxH over Sd firstS upS strands SdOk blkS kB rawS tabS)
/-- the number of blocks -/
theorem kB_max : ∀ (L : List Sd) (t : Nat), (L.map fun s => (s.1 : Int)).foldl max ((t : Int) - 1) = ((L.foldl (fun b s => max b (s.1 + 1)) t : Nat) : Int) - 1
  | [], t => rfl
  | s :: L, t => by
    show (L.map fun s => (s.1 : Int)).foldl max (max ((t : Int) - 1) (s.1 : Int)) = _
    have e : max ((t : Int) - 1) (s.1 : Int) = ((max t (s.1 + 1) : Nat) : Int) - 1 := by omega
    rw [e, kB_max L]
    rfl
theorem max_list (L : List Sd) : gMaxL (.list (L.map (fun s => PyData.int (s.1 : Int)) ++ [.int (-1)])) = some (.val (.int ((kB L : Int) - 1))) := by
  have e1 : L.map (fun s => PyData.int (s.1 : Int)) ++ [.int (-1)] = iL ((L.map fun s => (s.1 : Int)) ++ [-1]) := by
    unfold iL
    rw [List.map_append, List.map_map]
    rfl
  have e2 : ∀ l : List Int, intsOf (iL l) = some l := fun l => by
    have := ints_map (fun x : Int => x) l
    rw [List.map_id'] at this
    exact this
  rw [e1]
  unfold gMaxL
  dsimp only
  rw [e2]
  cases L with
  | nil => rfl
  | cons s L =>
    show some (Tm.val (PyData.int (((L.map fun (s : Sd) => (s.1 : Int)) ++ [-1]).foldl max (s.1 : Int)))) = _
    rw [List.foldl_append]
    have q := kB_max L (s.1 + 1)
    have e3 : (((s.1 + 1 : Nat) : Int) - 1) = (s.1 : Int) := by omega
    rw [e3] at q
    rw [q]
    have hk : kB (s :: L) = L.foldl (fun b s => max b (s.1 + 1)) (s.1 + 1) := by
      unfold kB
      rw [List.foldl_cons, Nat.zero_max]
    rw [hk]
    have hge := (Ft.kB_ge (L := L) (s.1 + 1)).1
    show some (Tm.val (PyData.int (max (((L.foldl (fun b s => max b (s.1 + 1)) (s.1 + 1) : Nat) : Int) - 1) (-1)))) = _
    congr 3
    omega
theorem tb_inner (v x2 : Cell) (L : List Sd) (k : Nat) (hl : L.length ≤ LINE) : lcL (tgN 4) (asB (op2 gEq (ixE (var 4) (cst (.int 0))) (var 3))) (var 4) [4] (sL L) [] [v, .val (.list (sL L)), x2, .val (.int k), .no] = .ok (sL (L.filter fun s => s.1 = k)) [v, .val (.list (sL L)), x2, .val (.int k), .no] := by
  have q := lcL_fmT (sl := [v, .val (.list (sL L)), x2, .val (.int k), .no]) (tg := tgN 4) (cond := asB (op2 gEq (ixE (var 4) (cst (.int 0))) (var 3))) (elt := var 4) (vs := [4]) sD (fun s => if s.1 = k then some (sD s) else none) (fun _ => True) (fun s _ => by
    refine ⟨[v, .val (.list (sL L)), x2, .val (.int k), .val (sD s)], [v, .val (.list (sL L)), x2, .val (.int k), .val (sD s)], decide (s.1 = k), by simp, ?_, ?_⟩
    · have e : decide ((s.1 : Int) = (k : Int)) = decide (s.1 = k) := decide_eq_decide.mpr (by omega)
      have es : sD s = .tuple [.int s.1, .int s.2.1, .int s.2.2.1, .int s.2.2.2] := rfl
      simp [es]
      omega
    · by_cases z : s.1 = k
      · simp [z]
      · simp [z]) L [] (fun _ _ => trivial) (by simpa using hl)
  unfold sL at q ⊢
  rw [q, List.nil_append]
  congr 1
  clear q hl
  induction L with
  | nil => rfl
  | cons s L ih =>
    by_cases z : s.1 = k
    · rw [List.filterMap_cons_some (by simp [z]; rfl), List.filter_cons_of_pos (by simpa using z), List.map_cons, ih]
    · rw [List.filterMap_cons_none (by simp [z]), List.filter_cons_of_neg (by simpa using z), ih]
theorem v_table_of_in (f : Fo) (h : Ft.FOk f) : gv F_table_of_in [fD f] = .ok (.val (tD (tabS (strands f)))) := by
  obtain ⟨hs, hd, hh, ht⟩ := h
  have hok := Ft.strands_ok (f := f) ⟨hs, hd, hh, ht⟩
  have hlen : (strands f).length = Ft.trm f := by
    unfold strands
    rw [List.length_append]; exact Ft.strands_len f
  have hL : (strands f).length ≤ LINE := by rw [hlen]; unfold LINE; omega
  have hfl := Ft.first_len f
  have q1 := v_first f hd (by unfold LINE; omega)
  have q2 := v_up f hs hd (by unfold LINE; omega)
  have ea := e_addL (sL (firstS f)) (sL (upS f))
  have hsl := Ft.strands_len f
  rw [if_pos (by unfold sL; rw [List.length_map, List.length_map]; unfold LINE; omega)] at ea
  have es : sL (firstS f) ++ sL (upS f) = sL (strands f) := by unfold sL strands; rw [List.map_append]
  rw [es] at ea
  have hk : kB (strands f) ≤ 21 := Ft.kB_le (fun s hs => by have := (hok s hs).1; omega) 0 (by omega)
  have e1 : lcL (tgN 4) yesB (ixE (var 4) (cst (.int 0))) [4] (sL (strands f)) [] [.val (fD f), .val (.list (sL (strands f))), .no, .no, .no] = .ok ((strands f).map fun s => PyData.int (s.1 : Int)) [.val (fD f), .val (.list (sL (strands f))), .no, .no, .no] := by
    unfold sL
    refine lcL_mapT sD (fun s => PyData.int (s.1 : Int)) (fun _ => True) (fun s _ => ?_) _ (fun _ _ => trivial) hL
    have es : sD s = .tuple [.int s.1, .int s.2.1, .int s.2.2.1, .int s.2.2.2] := rfl
    exact ⟨[.val (fD f), .val (.list ((strands f).map sD)), .no, .no, .val (sD s)], [.val (fD f), .val (.list ((strands f).map sD)), .no, .no, .val (sD s)], by simp, by simp [es], by simp, by simp⟩
  have em := e_addL ((strands f).map fun s => PyData.int (s.1 : Int)) [.int (-1)]
  rw [if_pos (by rw [List.length_map, List.length_singleton, hlen]; unfold LINE; omega)] at em
  have e3 : lcL (tgN 3) yesB (callE F_strands_block [] [.v (lcE (seqI (var 1)) [4] (tgN 4) (asB (op2 gEq (ixE (var 4) (cst (.int 0))) (var 3))) (var 4))]) [3] (rng 0 (kB (strands f))) [] [.val (fD f), .val (.list (sL (strands f))), .val (.int (kB (strands f))), .no, .no] = .ok ((rawS (strands f)).map bD) [.val (fD f), .val (.list (sL (strands f))), .val (.int (kB (strands f))), .no, .no] := by
    have hr : rng 0 (kB (strands f)) = (List.range (kB (strands f))).map fun i => PyData.int ((i : Nat) : Int) := by
      unfold rng
      refine List.map_congr_left fun i _ => ?_
      rw [Int.zero_add]
    have hw : (rawS (strands f)).map bD = (List.range (kB (strands f))).map fun k => bD (blkS ((strands f).filter fun s => s.1 = k)) := by
      unfold rawS
      rw [List.map_map]
      rfl
    rw [hr, hw]
    refine lcL_mapT (fun i : Nat => PyData.int (i : Int)) (fun k => bD (blkS ((strands f).filter fun s => s.1 = k))) (fun _ => True) (fun k _ => ?_) _ (fun _ _ => trivial) (by rw [List.length_range]; unfold LINE; omega)
    have q4 := tb_inner (.val (fD f)) (.val (.int (kB (strands f)))) (strands f) k hL
    have q5 := v_strands_block ((strands f).filter fun s => s.1 = k) (fun s hs => hok s (List.mem_filter.mp hs).1)
    refine ⟨[.val (fD f), .val (.list (sL (strands f))), .val (.int (kB (strands f))), .val (.int k), .no], [.val (fD f), .val (.list (sL (strands f))), .val (.int (kB (strands f))), .val (.int k), .no], by simp, ?_, by simp, by simp⟩
    simp only [e_vl, e_callE, e_asV, e_asN, e_lcE, e_seqI, e_var, List.getElem?_cons_zero, List.getElem?_cons_succ, e_bind, e_frzV, e_okC, e_okN, e_plN, Bool.and_true, if_true, e_wiC, e_wiN, List.set_cons_succ, List.set_cons_zero, q4, e_frzO, e_reC, e_reN, List.getD_cons_succ, List.getD_cons_zero, call_v1, q5, e_outO]
  have q6 := v_table_inL (rawS (strands f)) (fun b hb => okB_fit (Ft.raw_fit _ hok b hb)) (by unfold rawS; rw [List.length_map, List.length_range]; unfold LINE; omega)
  have ek : (1 : Int) + ((kB (strands f) : Int) - 1) = (kB (strands f) : Int) := by omega
  have hc : -4611686018427387904 ≤ (kB (strands f) : Int) ∧ (kB (strands f) : Int) < 4611686018427387904 := by omega
  have en : ((kB (strands f) : Int)).toNat = kB (strands f) := by omega
  rw [F_table_of_in, S_table_of_in, gv1_5]
  simp only [e_seqS, e_asgS, e_op2, e_vl, e_callE, e_asV, e_asN, e_var, List.getElem?_cons_zero, List.getElem?_cons_succ, e_bind, e_frzV, call_v1, q1, q2, e_outO, e_frzO, ea, e_ofO, e_frzBO, e_doS, e_setT, e_ioNo, Bool.false_eq_true, if_false, List.set_cons_succ, List.set_cons_zero, e_ceO, e_toNx, e_cst, e_cb1, e_pk, e_lcE, e_seqI, e_frzI, e_okC, e_okN, e_plN, Bool.and_true, if_true, e_wiC, e_wiN, e1, e_reC, e_reN, List.getD_cons_succ, List.getD_cons_zero, e_lstE, e_vsC, e_vsN, e_op1, e_neg, em, e_peekO, e_rsvV, Option.bind_some, max_list, e_addI, ek, e_frzBV, e_ceT, e_retS, e_rng1, if_pos hc, en, e3, q6, e_ouV]
  rfl
end Wk
set_option Elab.async false
set_option linter.all false
set_option maxRecDepth 100000
set_option maxHeartbeats 4000000
namespace Wk
open PySem PySem.Spec Eng Rd
open Ft (Fo He topF maxH over Sd firstS upS strands SdOk blkS kB rawS tabS lineN nod)
/-! nodes at a height -/
theorem v_line (f : Fo) (a d : Nat) (m : Int) (i : Fo) (h : He) (hi : Ft.dep i ≤ 7) : gv F_line_nodes [.tuple [.int a, .int d, .int m, fD i], hN h] = .ok (.val (.int (lineN (topF i) a d h))) := by
  have q1 := v_top i hi
  obtain ⟨hk, hn⟩ := h
  unfold hN at q1
  rw [F_line_nodes, S_line_nodes, gv2_8]
  unfold lineN hN
  dsimp only
  by_cases z1 : (topF i).1 = hk
  · by_cases z2 : hn < (topF i).2
    · simp [q1, z1, z2]
    · by_cases zd : 0 < d
      · simp [q1, z1, z2, zd]
      · by_cases g : hn ≤ (topF i).2 + a
        · have g' : (hn : Int) ≤ ((topF i).2 : Int) + (a : Int) := by omega
          simp [q1, z1, z2, zd, g, g']
        · have g' : ¬ (hn : Int) ≤ ((topF i).2 : Int) + (a : Int) := by omega
          simp [q1, z1, z2, zd, g, g']
  · have z1' : ¬ ((topF i).1 : Int) = (hk : Int) := by omega
    simp [q1, z1, z1']
def noB (X : FF) : SS := seqS (asgT (tgT [(tgN 5), (tgN 6), (tgN 7), (tgN 8)]) (var 3)) (seqS (asgS 4 (callE F_times_number [] [.v (ifE (asB (op2 gGt (var 6) (cst (.int 0)))) (op1 gNeg (cst (.int 1))) (cst (.int 1))), .v (callE X [] [.v (var 8), .v (var 1)])])) (asgS 2 (callE F_plus_number [] [.v (var 2), .v (callE F_times_number [] [.v (var 7), .v (callE F_plus_number [] [.v (callE F_line_nodes [] [.v (var 3), .v (var 1)]), .v (var 4)])])])))
theorem mulOk_small (x y : Int) (h : -1 ≤ x ∧ x ≤ 9) : mulOk x y = true := by
  unfold mulOk
  simp only [Bool.or_eq_true, Bool.and_eq_true, decide_eq_true_eq]
  exact .inl ⟨by omega, by omega⟩
theorem no_body (X : FF) (v : D) (h : He) (t : Int) (a d : Nat) (m : Int) (i : Fo) (x4 x5 x6 x7 x8 : Cell) (h4 : isIo (some x4) = false) (h5 : isIo (some x5) = false) (h6 : isIo (some x6) = false) (h7 : isIo (some x7) = false) (h8 : isIo (some x8) = false)
    (hm : m = -1 ∨ (1 ≤ m ∧ m ≤ 9)) (hi : Ft.dep i ≤ 7) (hX : gv X [fD i, hN h] = .ok (.val (.int (nod h i 0)))) :
    ∃ y, noB X [.val v, .val (hN h), .val (.int t), .val (.tuple [.int a, .int d, .int m, fD i]), x4, x5, x6, x7, x8] = .nx [.val v, .val (hN h), .val (.int (Ft.plusN t (Ft.timesN m (Ft.plusN (lineN (topF i) a d h) (Ft.timesN (if 0 < d then -1 else 1) (nod h i 0)))))), .val (.tuple [.int a, .int d, .int m, fD i]), .val y, .val (.int a), .val (.int d), .val (.int m), .val (fD i)] := by
  have q1 := v_line .nil a d m i h hi
  have q2 := v_times m (Ft.plusN (lineN (topF i) a d h) (Ft.timesN (if 0 < d then -1 else 1) (nod h i 0))) (mulOk_small m _ (by omega))
  refine ⟨.int (Ft.timesN (if 0 < d then -1 else 1) (nod h i 0)), ?_⟩
  unfold noB
  by_cases z : 0 < d
  · rw [if_pos z] at q2 ⊢
    have q3 := v_times (-1) (nod h i 0) (mulOk_small _ _ (by omega))
    simp only [e_seqS, e_asgT, e_vl, e_var, List.getElem?_cons_zero, List.getElem?_cons_succ, e_bind, e_frzV, e_doS, e_tgT, e_tgLC, e_tgLN, e_tgN, e_setT, h4, h5, h6, h7, h8, Bool.false_eq_true, if_false, List.set_cons_succ, List.set_cons_zero, e_ceT, Option.bind_some, e_toNx, e_asgS, e_callE, e_asV, e_asN, e_ifE, e_asB, e_op2, e_cst, e_gt, e_ofO, show decide ((0 : Int) < (d : Int)) = true from decide_eq_true (by omega), if_true, e_op1, e_neg, call_v2, hX, e_outO, q3, e_frzBV, q1, v_plus, q2, e_ioV, pN_eq, tN_eq]
  · rw [if_neg z] at q2 ⊢
    have q3 := v_times 1 (nod h i 0) (mulOk_small _ _ (by omega))
    simp only [e_seqS, e_asgT, e_vl, e_var, List.getElem?_cons_zero, List.getElem?_cons_succ, e_bind, e_frzV, e_doS, e_tgT, e_tgLC, e_tgLN, e_tgN, e_setT, h4, h5, h6, h7, h8, Bool.false_eq_true, if_false, List.set_cons_succ, List.set_cons_zero, e_ceT, Option.bind_some, e_toNx, e_asgS, e_callE, e_asV, e_asN, e_ifE, e_asB, e_op2, e_cst, e_gt, e_ofO, show decide ((0 : Int) < (d : Int)) = false from decide_eq_false (by omega), if_true, e_op1, e_neg, call_v2, hX, e_outO, q3, e_frzBV, q1, v_plus, q2, e_ioV, pN_eq, tN_eq]
theorem no_loop (X : FF) (v : D) (h : He) : ∀ (r : Fo) (t : Int) (x3 x4 x5 x6 x7 x8 : Cell), isIo (some x3) = false → isIo (some x4) = false → isIo (some x5) = false → isIo (some x6) = false → isIo (some x7) = false → isIo (some x8) = false →
    Ft.shp r → Ft.dep r ≤ 8 → (∀ i : Fo, Ft.shp i → Ft.dep i < Ft.dep r → gv X [fD i, hN h] = .ok (.val (.int (nod h i 0)))) →
    ∃ y3 y4 y5 y6 y7 y8, forL (tgN 3) (noB X) (encF r) [.val v, .val (hN h), .val (.int t), x3, x4, x5, x6, x7, x8] = .nx [.val v, .val (hN h), .val (.int (nod h r t)), y3, y4, y5, y6, y7, y8]
  | .nil, t, x3, x4, x5, x6, x7, x8, h3, h4, h5, h6, h7, h8, hs, hd, hX => ⟨x3, x4, x5, x6, x7, x8, rfl⟩
  | .cons a d m i r, t, x3, x4, x5, x6, x7, x8, h3, h4, h5, h6, h7, h8, hs, hd, hX => by
    obtain ⟨s1, s2, s3, s4⟩ := hs
    have hd' : max (Ft.dep i + 1) (Ft.dep r) ≤ 8 := hd
    have hi := hX i s3 (by show Ft.dep i < max (Ft.dep i + 1) (Ft.dep r); omega)
    obtain ⟨y, hb⟩ := no_body X v h t a d m i x4 x5 x6 x7 x8 h4 h5 h6 h7 h8 s2 (by omega) hi
    obtain ⟨y3, y4, y5, y6, y7, y8, e⟩ := no_loop X v h r (Ft.plusN t (Ft.timesN m (Ft.plusN (lineN (topF i) a d h) (Ft.timesN (if 0 < d then -1 else 1) (nod h i 0))))) (.val (.tuple [.int a, .int d, .int m, fD i])) (.val y) (.val (.int a)) (.val (.int d)) (.val (.int m)) (.val (fD i)) rfl rfl rfl rfl rfl rfl s4 (by omega) (fun i' a1 a2 => hX i' a1 (by show Ft.dep i' < max (Ft.dep i + 1) (Ft.dep r); omega))
    refine ⟨y3, y4, y5, y6, y7, y8, ?_⟩
    have ht : tgN 3 (.tuple [.int a, .int d, .int m, .tuple (encF i)]) [.val v, .val (hN h), .val (.int t), x3, x4, x5, x6, x7, x8] = some [.val v, .val (hN h), .val (.int t), .val (.tuple [.int a, .int d, .int m, fD i]), x4, x5, x6, x7, x8] := by
      simp [h3, fD]
    show forL _ _ (.tuple [.int a, .int d, .int m, .tuple (encF i)] :: encF r) _ = _
    unfold forL
    rw [ht]
    dsimp only
    rw [hb]
    dsimp only
    rw [e]
    rfl
theorem v_R_nod (h : He) : ∀ (n : Nat) (f : Fo), Ft.shp f → Ft.dep f < n → n ≤ 8 → gv (R_nodes_at_in n) [fD f, hN h] = .ok (.val (.int (nod h f 0)))
  | 0, f, _, h, _ => by omega
  | n + 1, f, hs, hd, hn => by
    obtain ⟨y3, y4, y5, y6, y7, y8, e⟩ := no_loop (R_nodes_at_in n) (fD f) h f 0 .no .no .no .no .no .no rfl rfl rfl rfl rfl rfl hs (by omega) (fun i a1 a2 => v_R_nod h n i a1 (by omega) (by omega))
    unfold noB at e
    show gv (S_nodes_at_in F_plus_number F_times_number F_line_nodes (R_nodes_at_in n)) [fD f, hN h] = _
    rw [S_nodes_at_in, gv2_9]
    unfold fD at e ⊢
    simp only [e_seqS, e_asgS, e_cst, e_bind, e_frzBV, e_doS, e_setT, List.getElem?_cons_zero, List.getElem?_cons_succ, e_ioNo, Bool.false_eq_true, if_false, List.set_cons_succ, List.set_cons_zero, e_ceT, e_toNx, e_forS, e_seqI, e_vl, e_var, e_frzV, e, e_retS, e_ouV]
theorem v_nodes_in (f : Fo) (h : He) (hs : Ft.shp f) (hd : Ft.dep f ≤ 7) : gv F_nodes_at_in [fD f, hN h] = .ok (.val (.int (nod h f 0))) := v_R_nod h 8 f hs (by omega) (by omega)
end Wk
set_option Elab.async false
set_option linter.all false
set_option maxRecDepth 100000
set_option maxHeartbeats 4000000
namespace Wk
open PySem PySem.Spec Eng Rd
open Ft (Fo He topF maxH over Sd upF rs leH)
/-! the upper part's terms: what is told of a term -/
def upT (h : He) (a d : Nat) (m : Int) (i : Fo) : Option (Nat × Fo) :=
  if leH h (topF i) then some (a, upF h i) else match rs h ((topF i).1, (topF i).2 + a, d, m) with
    | some s => some (s.2.1, .nil)
    | none => none
theorem upF_upT (h : He) (a d : Nat) (m : Int) (i r : Fo) : upF h (.cons a d m i r) = match upT h a d m i with
    | some p => .cons p.1 d m p.2 (upF h r)
    | none => upF h r := by
  rw [Ft.upF_cons]
  unfold upT
  split
  · rfl
  · cases e : rs h ((topF i).1, (topF i).2 + a, d, m) <;> rfl
def skT (h : He) (a d : Nat) (i : Fo) : Int := if leH h (topF i) then 0 else if (a : Int) - h.2 + (topF i).2 < 0 then -(((a : Int) - h.2 + (topF i).2) / (d : Int)) else 0
def upD (h : He) (a d : Nat) (m : Int) (i : Fo) : D := match upT h a d m i with
  | some p => .tuple [.int (skT h a d i), .tuple [.int p.1, .int d, .int m, fD p.2]]
  | none => .none
theorem v_term (X : FF) (h : He) (a d : Nat) (m : Int) (i : Fo) (hd : d = 0 ∨ d ∣ 6) (hi : Ft.dep i ≤ 7) (hX : gv X [fD i, hN h] = .ok (.val (fD (upF h i)))) :
    gv (Y_upper_term X) [.tuple [.int a, .int d, .int m, fD i], hN h] = .ok (.val (upD h a d m i)) := by
  have q1 := v_top i hi
  have q2 := ge_hN (topF i) h
  have hd6 : d ≤ 6 := by
    rcases hd with z | z
    · omega
    · exact Nat.le_of_dvd (by decide) z
  unfold hN at q1 q2 hX
  show gv (S_upper_term X F_top_in) _ = _
  rw [S_upper_term, gv2_10]
  unfold upD upT skT hN
  by_cases z : leH h (topF i)
  · rw [decide_eq_true z] at q2
    rw [if_pos z]
    dsimp only
    rw [if_pos z]
    simp [q1, q2, hX]
  · rw [decide_eq_false z] at q2
    rw [if_neg z]
    have hlt := Ft.not_leH.mp z
    unfold Ft.ltH at hlt
    unfold rs
    dsimp only
    rw [if_neg (by omega)]
    by_cases zk : (topF i).1 = h.1
    · have zk' : ((topF i).1 : Int) = (h.1 : Int) := by omega
      rw [if_pos zk]
      rw [zk'] at q1 q2
      by_cases zl : h.2 ≤ (topF i).2 + a
      · have zl' : ¬ ((a : Int) - h.2 + (topF i).2 < 0) := by omega
        have e1 : ((((topF i).2 + a - h.2 : Nat)) : Int) = (a : Int) - h.2 + (topF i).2 := by omega
        rw [if_pos zl]
        dsimp only
        rw [if_neg z, if_neg zl', e1]
        have hm0 := mulOk_small (d : Int) 0 (by omega)
        have fn : fD .nil = .tuple [] := rfl
        simp [q1, q2, zk', zl', hm0, fn]
      · have zl' : ((a : Int) - h.2 + (topF i).2 < 0) := by omega
        rw [if_neg zl]
        by_cases zd : d = 0
        · rw [if_pos zd]
          subst zd
          simp [q1, q2, zk', zl']
        · rw [if_neg zd]
          dsimp only
          rw [if_neg z, if_pos zl']
          have zd' : ¬ (d : Int) = 0 := by omega
          have hb : (0 : Int) < (d : Int) ∧ (d : Int) < 1073741824 := by omega
          have hm := mulOk_small (d : Int) (-(((a : Int) - h.2 + (topF i).2) / (d : Int))) (by omega)
          have e1 : ((((((topF i).2 + a : Nat) : Int) - h.2) % (d : Int)).toNat : Int) = (a : Int) - h.2 + (topF i).2 + (d : Int) * (-(((a : Int) - h.2 + (topF i).2) / (d : Int))) := by
            have e2 : (((topF i).2 + a : Nat) : Int) - h.2 = (a : Int) - h.2 + (topF i).2 := by omega
            rw [e2]
            have e3 := Int.emod_nonneg ((a : Int) - h.2 + (topF i).2) (show (d : Int) ≠ 0 by omega)
            rw [Int.toNat_of_nonneg e3, Int.emod_def, Int.mul_neg]
            exact Int.sub_eq_add_neg
          rw [e1]
          have fn : fD .nil = .tuple [] := rfl
          have zp : 0 < d := by omega
          simp [q1, q2, zk', zl', zd, zp, hb.2, hm, fn]
    · have zk' : ¬ ((topF i).1 : Int) = (h.1 : Int) := by omega
      rw [if_neg zk]
      simp [q1, q2, zk']
/-! list comprehensions, step by step -/
theorem lcL_y {tg : TGf} {elt : EE} {vs : List Nat} {d : D} {ds acc : List D} {sl sl1 sl3 : Sl} {y : D} (e1 : tg d sl = some sl1) (e2 : vl elt sl1 = .ok y sl3) (e3 : okW sl3 vs = true) (e4 : wipeS sl3 vs = sl) (hl : acc.length < LINE) :
    lcL tg yesB elt vs (d :: ds) acc sl = lcL tg yesB elt vs ds (acc ++ [y]) sl := by
  conv => lhs; unfold lcL
  rw [e1]
  show (match vl elt sl1 with
        | .ok y sl3 => if okW sl3 vs = true ∧ acc.length < LINE then lcL tg yesB elt vs ds (acc ++ [y]) (wipeS sl3 vs) else .stuck
        | _ => .stuck) = _
  rw [e2]
  dsimp only
  rw [if_pos ⟨e3, hl⟩, e4]
theorem lcL_t {tg : TGf} {cond : BB} {elt : EE} {vs : List Nat} {d : D} {ds acc : List D} {sl sl1 sl2 sl3 : Sl} {y : D} (e1 : tg d sl = some sl1) (e0 : cond sl1 = .ok true sl2) (e2 : vl elt sl2 = .ok y sl3) (e3 : okW sl3 vs = true) (e4 : wipeS sl3 vs = sl) (hl : acc.length < LINE) :
    lcL tg cond elt vs (d :: ds) acc sl = lcL tg cond elt vs ds (acc ++ [y]) sl := by
  conv => lhs; unfold lcL
  rw [e1]
  dsimp only
  rw [e0]
  dsimp only
  rw [e2]
  dsimp only
  rw [if_pos ⟨e3, hl⟩, e4]
theorem lcL_f {tg : TGf} {cond : BB} {elt : EE} {vs : List Nat} {d : D} {ds acc : List D} {sl sl1 sl2 : Sl} (e1 : tg d sl = some sl1) (e0 : cond sl1 = .ok false sl2) (e3 : okW sl2 vs = true) (e4 : wipeS sl2 vs = sl) :
    lcL tg cond elt vs (d :: ds) acc sl = lcL tg cond elt vs ds acc sl := by
  conv => lhs; unfold lcL
  rw [e1]
  dsimp only
  rw [e0]
  dsimp only
  rw [if_pos e3, e4]
/-- the terms told, by place -/
def utL (h : He) : Fo → Nat → List D
  | .nil, _ => []
  | .cons a d m i r, t => .tuple [.int (t : Nat), upD h a d m i] :: utL h r (t + 1)
def usL (h : He) : Fo → Nat → List D
  | .nil, _ => []
  | .cons a d m i r, t => match upT h a d m i with
    | some p => .tuple [.int (t : Nat), .int (skT h a d i), .tuple [.int p.1, .int d, .int m, fD p.2]] :: usL h r (t + 1)
    | none => usL h r (t + 1)
theorem utL_len (h : He) : ∀ (f : Fo) (t : Nat), (utL h f t).length = (encF f).length
  | .nil, _ => rfl
  | .cons a d m i r, t => congrArg (· + 1) (utL_len h r (t + 1))
theorem usL_len (h : He) : ∀ (f : Fo) (t : Nat), (usL h f t).length ≤ (encF f).length
  | .nil, _ => Nat.le_refl _
  | .cons a d m i r, t => by
    have q := usL_len h r (t + 1)
    unfold usL
    show _ ≤ (encF r).length + 1
    split
    · show (usL h r (t + 1)).length + 1 ≤ _; omega
    · omega
theorem ut_loop (X : FF) (v : D) (h : He) : ∀ (r : Fo) (t : Nat) (acc : List D), Ft.shp r → Ft.dep r ≤ 8 → acc.length + (encF r).length ≤ LINE → (∀ i : Fo, Ft.shp i → Ft.dep i < Ft.dep r → Ft.trm i < Ft.trm r → gv X [fD i, hN h] = .ok (.val (fD (upF h i)))) →
    lcL (tgT [(tgN 3), (tgN 4)]) yesB (tupE [(var 3), (callE (Y_upper_term X) [] [.v (var 4), .v (var 1)])]) [3, 4] (enumD t (encF r)) acc [.val v, .val (hN h), .no, .no, .no, .no] = .ok (acc ++ utL h r t) [.val v, .val (hN h), .no, .no, .no, .no]
  | .nil, t, acc, hs, hd, hl, hX => by
    show lcL _ _ _ _ [] acc _ = .ok (acc ++ []) _
    rw [List.append_nil]
    rfl
  | .cons a d m i r, t, acc, hs, hd, hl, hX => by
    obtain ⟨s1, s2, s3, s4⟩ := hs
    have hd' : max (Ft.dep i + 1) (Ft.dep r) ≤ 8 := hd
    have hl' : acc.length + ((encF r).length + 1) ≤ LINE := hl
    have hi := hX i s3 (by show Ft.dep i < max (Ft.dep i + 1) (Ft.dep r); omega) (by show Ft.trm i < 1 + Ft.trm i + Ft.trm r; omega)
    have q := v_term X h a d m i s1 (by omega) hi
    have ih := ut_loop X v h r (t + 1) (acc ++ [.tuple [.int (t : Nat), upD h a d m i]]) s4 (by omega) (by rw [List.length_append, List.length_singleton]; omega) (fun i' a1 a2 a3 => hX i' a1 (by show Ft.dep i' < max (Ft.dep i + 1) (Ft.dep r); omega) (by show Ft.trm i' < 1 + Ft.trm i + Ft.trm r; omega))
    show lcL _ _ _ _ (.tuple [.int (t : Nat), .tuple [.int a, .int d, .int m, fD i]] :: enumD (t + 1) (encF r)) acc _ = _
    rw [lcL_y (sl1 := [.val v, .val (hN h), .no, .val (.int (t : Nat)), .val (.tuple [.int a, .int d, .int m, fD i]), .no]) (sl3 := [.val v, .val (hN h), .no, .val (.int (t : Nat)), .val (.tuple [.int a, .int d, .int m, fD i]), .no]) (y := .tuple [.int (t : Nat), upD h a d m i]) (by simp) (by simp [q]) (by simp) (by simp) (by omega), ih, List.append_assoc]
    rfl
theorem us_loop2 (v : D) (h : He) (L : D) : ∀ (r : Fo) (t : Nat) (acc : List D), acc.length + (encF r).length ≤ LINE →
    lcL (tgT [(tgN 3), (tgN 5)]) (asB (op2 gNotN (var 5) (cst .none))) (tupE [(var 3), (ixE (var 5) (cst (.int 0))), (ixE (var 5) (cst (.int 1)))]) [3, 5] (utL h r t) acc [.val v, .val (hN h), .val L, .no, .no, .no] = .ok (acc ++ usL h r t) [.val v, .val (hN h), .val L, .no, .no, .no]
  | .nil, t, acc, hl => by
    show lcL _ _ _ _ [] acc _ = .ok (acc ++ []) _
    rw [List.append_nil]
    rfl
  | .cons a d m i r, t, acc, hl => by
    have hl' : acc.length + ((encF r).length + 1) ≤ LINE := hl
    unfold utL usL
    unfold upD
    cases z : upT h a d m i with
    | some p =>
      dsimp only
      rw [lcL_t (sl1 := [.val v, .val (hN h), .val L, .val (.int (t : Nat)), .no, .val (.tuple [.int (skT h a d i), .tuple [.int p.1, .int d, .int m, fD p.2]])]) (sl2 := [.val v, .val (hN h), .val L, .val (.int (t : Nat)), .no, .val (.tuple [.int (skT h a d i), .tuple [.int p.1, .int d, .int m, fD p.2]])]) (sl3 := [.val v, .val (hN h), .val L, .val (.int (t : Nat)), .no, .val (.tuple [.int (skT h a d i), .tuple [.int p.1, .int d, .int m, fD p.2]])]) (y := .tuple [.int (t : Nat), .int (skT h a d i), .tuple [.int p.1, .int d, .int m, fD p.2]]) (by simp) (by simp) (by simp) (by simp) (by simp) (by omega), us_loop2 v h L r (t + 1) _ (by rw [List.length_append, List.length_singleton]; omega), List.append_assoc]
      rfl
    | none =>
      dsimp only
      rw [lcL_f (sl1 := [.val v, .val (hN h), .val L, .val (.int (t : Nat)), .no, .val .none]) (sl2 := [.val v, .val (hN h), .val L, .val (.int (t : Nat)), .no, .val .none]) (by simp) (by simp) (by simp) (by simp), us_loop2 v h L r (t + 1) _ (by omega)]
theorem v_terms (X : FF) (h : He) (f : Fo) (hs : Ft.shp f) (hd : Ft.dep f ≤ 8) (hl : (encF f).length ≤ LINE) (hX : ∀ i : Fo, Ft.shp i → Ft.dep i < Ft.dep f → Ft.trm i < Ft.trm f → gv X [fD i, hN h] = .ok (.val (fD (upF h i)))) :
    gv (Y_upper_terms X) [fD f, hN h] = .ok (.own (.list (usL h f 0))) := by
  have q1 := ut_loop X (fD f) h f 0 [] hs hd (by simpa using hl) hX
  have q2 := us_loop2 (fD f) h (.list (utL h f 0)) f 0 [] (by simpa using hl)
  rw [List.nil_append] at q1 q2
  show gv (S_upper_terms (Y_upper_term X)) _ = _
  rw [S_upper_terms, gv2_6]
  unfold fD at q1 q2 ⊢
  simp only [e_seqS, e_asgS, e_lcE, e_enumI, e_seqI, e_vl, e_var, List.getElem?_cons_zero, List.getElem?_cons_succ, e_bind, e_frzV, e_okC, e_okN, e_plN, e_plV, Bool.and_true, Bool.and_self, if_true, e_wiC, e_wiN, List.set_cons_succ, List.set_cons_zero, q1, e_frzBO, e_doS, e_setT, e_reC, e_reN, List.getD_cons_succ, List.getD_cons_zero, e_ioNo, Bool.false_eq_true, if_false, e_ceO, e_toNx, e_retS, e_frzI, q2, e_ouO]
theorem ui_loop (v : D) (h : He) : ∀ (r : Fo) (t : Nat) (acc : List D), acc.length + (encF r).length ≤ LINE →
    lcL (tgT [(tgN 2), (tgN 2), (tgN 3)]) yesB (var 3) [2, 3] (usL h r t) acc [.val v, .val (hN h), .no, .no] = .ok (acc ++ encF (upF h r)) [.val v, .val (hN h), .no, .no]
  | .nil, t, acc, hl => by
    show lcL _ _ _ _ [] acc _ = .ok (acc ++ []) _
    rw [List.append_nil]
    rfl
  | .cons a d m i r, t, acc, hl => by
    have hl' : acc.length + ((encF r).length + 1) ≤ LINE := hl
    rw [upF_upT]
    unfold usL
    cases z : upT h a d m i with
    | some p =>
      dsimp only
      rw [lcL_y (sl1 := [.val v, .val (hN h), .val (.int (skT h a d i)), .val (.tuple [.int p.1, .int d, .int m, fD p.2])]) (sl3 := [.val v, .val (hN h), .val (.int (skT h a d i)), .val (.tuple [.int p.1, .int d, .int m, fD p.2])]) (y := .tuple [.int p.1, .int d, .int m, fD p.2]) (by simp) (by simp) (by simp) (by simp) (by omega), ui_loop v h r (t + 1) _ (by rw [List.length_append, List.length_singleton]; omega), List.append_assoc]
      rfl
    | none =>
      dsimp only
      rw [ui_loop v h r (t + 1) _ (by omega)]
theorem v_R_upper (h : He) : ∀ (n : Nat) (f : Fo), Ft.shp f → Ft.dep f < n → n ≤ 8 → Ft.trm f ≤ LINE → gv (R_upper_in n) [fD f, hN h] = .ok (.val (fD (upF h f)))
  | 0, f, _, hd, _, _ => by omega
  | n + 1, f, hs, hd, hn, ht => by
    have hl := enc_len f
    have q := v_terms (R_upper_in n) h f hs (by omega) (by omega) (fun i a1 a2 a3 => v_R_upper h n i a1 (by omega) (by omega) (by omega))
    have q2 := ui_loop (fD f) h f 0 [] (by simpa using (by omega : (encF f).length ≤ LINE))
    rw [List.nil_append] at q2
    show gv (S_upper_in (Y_upper_terms (R_upper_in n))) _ = _
    rw [S_upper_in, gv2_4]
    simp only [e_retS, e_cb1, e_pk, e_lcE, e_seqI, e_vl, e_callE, e_asV, e_asN, e_var, List.getElem?_cons_zero, List.getElem?_cons_succ, e_bind, e_frzV, call_v2, q, e_outO, e_frzO, e_okC, e_okN, e_plN, Bool.and_true, if_true, e_wiC, e_wiN, List.set_cons_succ, List.set_cons_zero, q2, e_reC, e_reN, List.getD_cons_succ, List.getD_cons_zero, e_peekO, e_rsvV, Option.bind_some, e_tuL, e_ofO, e_doS, e_ouV]
    rfl
theorem v_upper_in (f : Fo) (h : He) (hs : Ft.shp f) (hd : Ft.dep f ≤ 7) (ht : Ft.trm f ≤ LINE) : gv F_upper_in [fD f, hN h] = .ok (.val (fD (upF h f))) := v_R_upper h 8 f hs (by omega) (by omega) ht
end Wk
set_option Elab.async false
set_option linter.all false
set_option maxRecDepth 100000
set_option maxHeartbeats 4000000
namespace Wk
open PySem PySem.Spec Eng Rd
open Ft (Fo He topF maxH over Sd upF rs leH strands tabS nod)
/-! forests looked at -/
theorem v_is_term (a d : Nat) (m : Int) (x : D) (hm : m = -1 ∨ 1 ≤ m) : gv F_is_term [.tuple [.int a, .int d, .int m, x]] = .ok (.val (.bool true)) := by
  have h1 : (0 : Int) ≤ (a : Int) := by omega
  have h2 : (0 : Int) ≤ (d : Int) := by omega
  rw [F_is_term, S_is_term, gv1_1]
  by_cases z : m = -1
  · simp [h1, h2, z]
  · have z' : (0 : Int) < m := by omega
    simp [h1, h2, z, z']
def kids : Fo → List Fo
  | .nil => []
  | .cons _ _ _ i r => i :: kids r
def wgt (L : List Fo) : Nat := (L.map fun f => 1 + Ft.trm f).sum
theorem kids_wgt : ∀ f : Fo, wgt (kids f) = Ft.trm f
  | .nil => rfl
  | .cons a d m i r => by
    have := kids_wgt r
    show (1 + Ft.trm i) + wgt (kids r) = 1 + Ft.trm i + Ft.trm r
    omega
theorem kids_shp : ∀ f : Fo, Ft.shp f → ∀ g ∈ kids f, Ft.shp g
  | .nil, _, g, h => by cases h
  | .cons a d m i r, ⟨s1, s2, s3, s4⟩, g, h => by
    rcases List.mem_cons.mp h with e | e
    · rw [e]; exact s3
    · exact kids_shp r s4 g e
theorem kids_len : ∀ f : Fo, (kids f).length = (encF f).length
  | .nil => rfl
  | .cons a d m i r => congrArg (· + 1) (kids_len r)
theorem wgt_len : ∀ L : List Fo, L.length ≤ wgt L
  | [] => Nat.le_refl _
  | f :: L => by
    have := wgt_len L
    show L.length + 1 ≤ (1 + Ft.trm f) + wgt L
    omega
theorem wgt_app (L M : List Fo) : wgt (L ++ M) = wgt L + wgt M := by
  unfold wgt
  rw [List.map_append, List.sum_append]
theorem if_all (v x1 x2 : Cell) : ∀ (r : Fo) (acc : List D), Ft.shp r → acc.length + (encF r).length ≤ LINE → lcL (tgN 3) yesB (callE F_is_term [] [.v (var 3)]) [3] (encF r) acc [v, x1, x2, .no] = .ok (acc ++ (kids r).map fun _ => PyData.bool true) [v, x1, x2, .no]
  | .nil, acc, _, hl => by
    show lcL _ _ _ _ [] acc _ = .ok (acc ++ []) _
    rw [List.append_nil]; rfl
  | .cons a d m i r, acc, hs, hl => by
    obtain ⟨s1, s2, s3, s4⟩ := hs
    have hl' : acc.length + ((encF r).length + 1) ≤ LINE := hl
    have q := v_is_term a d m (.tuple (encF i)) (by omega)
    show lcL _ _ _ _ (.tuple [.int a, .int d, .int m, .tuple (encF i)] :: encF r) acc _ = _
    rw [lcL_y (sl1 := [v, x1, x2, .val (.tuple [.int a, .int d, .int m, .tuple (encF i)])]) (sl3 := [v, x1, x2, .val (.tuple [.int a, .int d, .int m, .tuple (encF i)])]) (y := .bool true) (by simp) (by simp [q]) (by simp) (by simp) (by omega), if_all v x1 x2 r _ s4 (by rw [List.length_append, List.length_singleton]; omega), List.append_assoc]
    rfl
theorem if_kids (v x1 x2 : Cell) : ∀ (r : Fo) (acc : List D), acc.length + (encF r).length ≤ LINE → lcL (tgN 3) yesB (ixE (var 3) (cst (.int 3))) [3] (encF r) acc [v, x1, x2, .no] = .ok (acc ++ (kids r).map fD) [v, x1, x2, .no]
  | .nil, acc, hl => by
    show lcL _ _ _ _ [] acc _ = .ok (acc ++ []) _
    rw [List.append_nil]; rfl
  | .cons a d m i r, acc, hl => by
    have hl' : acc.length + ((encF r).length + 1) ≤ LINE := hl
    show lcL _ _ _ _ (.tuple [.int a, .int d, .int m, .tuple (encF i)] :: encF r) acc _ = _
    rw [lcL_y (sl1 := [v, x1, x2, .val (.tuple [.int a, .int d, .int m, .tuple (encF i)])]) (sl3 := [v, x1, x2, .val (.tuple [.int a, .int d, .int m, .tuple (encF i)])]) (y := fD i) (by simp) (by simp [fD]) (by simp) (by simp) (by omega), if_kids v x1 x2 r _ (by rw [List.length_append, List.length_singleton]; omega), List.append_assoc]
    rfl
def ifT : BB := truB (var 1)
def ifB : SS := seqS (asgS 2 (popE (var 1))) (seqS (ifS (orB (notB (truB (isiE "tuple" (var 2)))) (notB (truB (cb1 gAll (lcE (seqI (var 2)) [3] (tgN 3) yesB (callE F_is_term [] [.v (var 3)])))))) (retS (cst (.bool false))) nxS) (drpS (extE (var 1) (lcE (seqI (var 2)) [3] (tgN 3) yesB (ixE (var 3) (cst (.int 3)))))))
theorem if_body (v : D) (L : List Fo) (f : Fo) (x2 : Cell) (h2 : isIo (some x2) = false) (hs : Ft.shp f) (hl : L.length + (encF f).length ≤ LINE) :
    ifB [.val v, .own (.list ((L ++ [f]).map fD)), x2, .no] = .nx [.val v, .own (.list ((L ++ kids f).map fD)), .val (fD f), .no] := by
  have e1 : ((L ++ [f]).map fD)[((L ++ [f]).map fD).length - 1]? = some (fD f) := by
    rw [← List.getLast?_eq_getElem?, List.getLast?_map, List.getLast?_append]; rfl
  have e2 : ((L ++ [f]).map fD).dropLast = L.map fD := by rw [← List.map_dropLast, List.dropLast_concat]
  have q1 := if_all (.val v) (.own (.list (L.map fD))) (.val (fD f)) f [] hs (by simpa using (by omega : (encF f).length ≤ LINE))
  have q2 := if_kids (.val v) (.own (.list (L.map fD))) (.val (fD f)) f [] (by simpa using (by omega : (encF f).length ≤ LINE))
  rw [List.nil_append] at q1 q2
  have q3 := all_map (fun _ : Fo => true) (kids f)
  have q4 : ((kids f).all fun _ => true) = true := List.all_eq_true.mpr fun _ _ => rfl
  rw [q4] at q3
  have e3 : (L ++ kids f).map fD = L.map fD ++ (kids f).map fD := List.map_append
  have e4 : (L.map fD).length + ((kids f).map fD).length ≤ LINE := by rw [List.length_map, List.length_map, kids_len]; exact hl
  rw [e3]
  unfold ifB
  rw [show fD f = .tuple (encF f) from rfl] at q1 q2 e1 ⊢
  simp only [e_seqS, e_asgS, e_pop, e_var, List.getElem?_cons_zero, List.getElem?_cons_succ, e_bind, e_obL, e_ob, e_obj, Option.map_some, e1, e2, e_put, e_putO, List.set_cons_succ, List.set_cons_zero, e_frzBV, e_doS, e_setT, h2, Bool.false_eq_true, if_false, e_ceT, e_toNx, e_ifS, e_orB, e_notB, e_truB, e_pk, e_isi, e_peekV, e_rsvV, Option.bind_some, isi_tuple_tuple, e_ofO, e_truBl, Bool.not_true, e_cb1, e_lcE, e_seqI, e_vl, e_frzV, e_okC, e_okN, e_plN, Bool.and_true, if_true, e_wiC, e_wiN, q1, e_reC, e_reN, List.getD_cons_succ, List.getD_cons_zero, e_peekO, q3, e_nxS, e_drpS, e_ext, q2, if_pos e4]
theorem if_loop (v : D) : ∀ (k : Nat) (L : List Fo) (x2 : Cell), isIo (some x2) = false → wgt L ≤ k → k ≤ LINE → (∀ f ∈ L, Ft.shp f) → ∃ y2, whS ifT ifB [.val v, .own (.list (L.map fD)), x2, .no] = .nx [.val v, .own (.list []), y2, .no]
  | k, L, x2, h2, hk, hb, hs => by
    rcases List.eq_nil_or_concat L with e | ⟨M, f, e⟩
    · subst e
      refine ⟨x2, ?_⟩
      rw [whS_eq]
      have ht : ifT [.val v, .own (.list (([] : List Fo).map fD)), x2, .no] = .ok false [.val v, .own (.list (([] : List Fo).map fD)), x2, .no] := by
        unfold ifT; simp
      rw [ht]
      rfl
    · rw [List.concat_eq_append] at e
      subst e
      have hw := wgt_app M [f]
      have hf : wgt [f] = 1 + Ft.trm f := by show 1 + Ft.trm f + 0 = _; omega
      have hw2 := wgt_app M (kids f)
      rw [kids_wgt] at hw2
      have hlM := wgt_len M
      have hlf := enc_len f
      have hb' := if_body v M f x2 h2 (hs f (by simp)) (by omega)
      have ht : ifT [.val v, .own (.list ((M ++ [f]).map fD)), x2, .no] = .ok true [.val v, .own (.list ((M ++ [f]).map fD)), x2, .no] := by
        unfold ifT; simp
      rw [whS_eq, ht]
      dsimp only
      rw [hb']
      dsimp only
      cases k with
      | zero => omega
      | succ k =>
        exact if_loop v k (M ++ kids f) (.val (fD f)) rfl (by omega) (by omega) (fun g hg => by
          rcases List.mem_append.mp hg with q | q
          · exact hs g (List.mem_append_left _ q)
          · exact kids_shp f (hs f (by simp)) g q)
theorem v_is_forest (f : Fo) (hs : Ft.shp f) (ht : Ft.trm f < LINE) : gv F_is_forest [fD f] = .ok (.val (.bool true)) := by
  obtain ⟨y2, e⟩ := if_loop (fD f) (1 + Ft.trm f) [f] .no rfl (by show 1 + Ft.trm f + 0 ≤ _; omega) (by omega) (fun g hg => by rw [List.mem_singleton.mp hg]; exact hs)
  unfold ifT ifB at e
  have e0 : [f].map fD = [fD f] := rfl
  rw [e0] at e
  rw [F_is_forest, S_is_forest, gv1_4]
  simp only [e_seqS, e_asgS, e_lstE, e_vsC, e_vsN, e_vl, e_var, List.getElem?_cons_zero, List.getElem?_cons_succ, e_bind, e_frzV, e_frzBO, e_doS, e_setT, e_ioNo, Bool.false_eq_true, if_false, List.set_cons_succ, List.set_cons_zero, e_ceO, e_toNx, e, e_retS, e_cst, e_ouV]
theorem v_check_forest (f : Fo) (hs : Ft.shp f) (ht : Ft.trm f < LINE) : gv F_check_forest [fD f] = .ok (.val .none) := by
  have q := v_is_forest f hs ht
  rw [F_check_forest, S_check_forest, gv1_1]; simp [q]
theorem line_1000 {n : Nat} (h : n ≤ 1000) : n < LINE := by unfold LINE; omega
theorem v_check_hN (h : He) : gv F_check_height [hN h] = .ok (.val .none) := v_check_nH h.1 h.2
theorem v_sum_hN (h o : He) : gv F_sum_of [hN h, hN o] = .ok (.val (hN (Ft.sumH h o))) := by
  have q := v_sum_of (h.1, h.2) (o.1, o.2) (okH_nat _ _) (okH_nat _ _)
  have e : hD (sumH ((h.1 : Int), (h.2 : Int)) ((o.1 : Int), (o.2 : Int))) = hN (Ft.sumH h o) := by
    unfold sumH Ft.sumH hD hN
    by_cases z : o.1 = 0
    · have z' : (o.1 : Int) = 0 := by omega
      rw [if_pos z, if_pos z']; dsimp only; rw [Int.natCast_add]
    · have z' : ¬ (o.1 : Int) = 0 := by omega
      rw [if_neg z, if_neg z']; dsimp only; rw [Int.natCast_add]
  rw [e] at q
  exact q
theorem v_table_of (f : Fo) (h : Ft.FOk f) : gv F_table_of [fD f] = .ok (.val (tD (tabS (strands f)))) := by
  have q1 := v_check_forest f h.1 (line_1000 h.2.2.2)
  have q2 := v_table_of_in f h
  rw [F_table_of, S_table_of, gv1_1]; simp [q1, q2]
theorem v_nodes_at (f : Fo) (o : He) (h : Ft.FOk f) : gv F_nodes_at [fD f, hN o] = .ok (.val (.int (nod o f 0))) := by
  have q1 := v_check_forest f h.1 (line_1000 h.2.2.2)
  have q2 := v_check_hN o
  have q3 := v_nodes_in f o h.1 h.2.1
  rw [F_nodes_at, S_nodes_at, gv2_2]; simp [q1, q2, q3]
theorem v_upper (f : Fo) (o : He) (h : Ft.FOk f) : gv F_upper [fD f, hN o] = .ok (.val (fD (upF o f))) := by
  have q1 := v_check_forest f h.1 (line_1000 h.2.2.2)
  have q2 := v_check_hN o
  have q3 := v_upper_in f o h.1 h.2.1 (Nat.le_of_lt (line_1000 h.2.2.2))
  rw [F_upper, S_upper, gv2_2]; simp [q1, q2, q3]
theorem v_top_height (f : Fo) (h : Ft.FOk f) : gv F_top_height [fD f] = .ok (.val (hN (topF f))) := by
  have q1 := v_check_forest f h.1 (line_1000 h.2.2.2)
  have q3 := v_top f h.2.1
  rw [F_top_height, S_top_height, gv1_1]; simp [q1, q3]
/-! sizes -/
def szD (f : Fo) : D := if Ft.fin f = true then .int (Ft.szF f) else .none
def siB (X : FF) : SS := seqS (asgS 6 (callE X [] [.v (var 5)])) (seqS (ifS (orB (asB (op2 gGt (var 3) (cst (.int 0)))) (orB (asB (op2 gEq (var 4) (op1 gNeg (cst (.int 1))))) (asB (op2 gIsN (var 6) (cst .none))))) (retS (cst .none)) nxS) (augS 1 (fun i j => i + j) (op2 gMul (var 4) (op2 gAddA (op2 gAddA (var 2) (cst (.int 1))) (var 6)))))
theorem si_loop (X : FF) (v : D) : ∀ (r : Fo) (t : Int) (x2 x3 x4 x5 x6 : Cell), isIo (some x2) = false → isIo (some x3) = false → isIo (some x4) = false → isIo (some x5) = false → isIo (some x6) = false → Ft.shp r →
    (∀ i : Fo, Ft.shp i → Ft.dep i < Ft.dep r → gv X [fD i] = .ok (.val (szD i))) →
    ∃ y1 y2 y3 y4 y5 y6, forL (tgT [(tgN 2), (tgN 3), (tgN 4), (tgN 5)]) (siB X) (encF r) [.val v, .val (.int t), x2, x3, x4, x5, x6] = if Ft.fin r = true then .nx [.val v, .val (.int (t + Ft.szF r)), y2, y3, y4, y5, y6] else .rt (.val .none) [.val v, y1, y2, y3, y4, y5, y6]
  | .nil, t, x2, x3, x4, x5, x6, h2, h3, h4, h5, h6, hs, hX => ⟨x2, x2, x3, x4, x5, x6, by
    rw [if_pos (show Ft.fin .nil = true from rfl)]
    show SR.nx [.val v, .val (.int t), x2, x3, x4, x5, x6] = .nx [.val v, .val (.int (t + 0)), x2, x3, x4, x5, x6]
    rw [Int.add_zero]⟩
  | .cons a d m i r, t, x2, x3, x4, x5, x6, h2, h3, h4, h5, h6, hs, hX => by
    obtain ⟨s1, s2, s3, s4⟩ := hs
    have hi := hX i s3 (by show Ft.dep i < max (Ft.dep i + 1) (Ft.dep r); omega)
    have ht : tgT [(tgN 2), (tgN 3), (tgN 4), (tgN 5)] (.tuple [.int a, .int d, .int m, .tuple (encF i)]) [.val v, .val (.int t), x2, x3, x4, x5, x6] = some [.val v, .val (.int t), .val (.int a), .val (.int d), .val (.int m), .val (fD i), x6] := by
      simp [h2, h3, h4, h5, fD]
    have hfin : Ft.fin (.cons a d m i r) = (decide (d = 0) && (decide (m ≠ -1) && (Ft.fin i && Ft.fin r))) := rfl
    by_cases z : d = 0 ∧ m ≠ -1 ∧ Ft.fin i = true
    · obtain ⟨z1, z2, z3⟩ := z
      have hb : siB X [.val v, .val (.int t), .val (.int a), .val (.int d), .val (.int m), .val (fD i), x6] = .nx [.val v, .val (.int (t + m * (a + 1 + Ft.szF i))), .val (.int a), .val (.int d), .val (.int m), .val (fD i), .val (.int (Ft.szF i))] := by
        unfold szD at hi
        rw [if_pos z3] at hi
        have hm := mulOk_small m (a + 1 + Ft.szF i) (by omega)
        subst z1
        unfold siB
        simp [hi, h6, z2, hm]
      obtain ⟨y1, y2, y3, y4, y5, y6, e⟩ := si_loop X v r (t + m * (a + 1 + Ft.szF i)) (.val (.int a)) (.val (.int d)) (.val (.int m)) (.val (fD i)) (.val (.int (Ft.szF i))) rfl rfl rfl rfl rfl s4 (fun i' a1 a2 => hX i' a1 (by show Ft.dep i' < max (Ft.dep i + 1) (Ft.dep r); omega))
      refine ⟨y1, y2, y3, y4, y5, y6, ?_⟩
      have e2 : Ft.fin (.cons a d m i r) = Ft.fin r := by rw [hfin, decide_eq_true z1, decide_eq_true z2, z3]; rfl
      have e3 : t + Ft.szF (.cons a d m i r) = t + m * (a + 1 + Ft.szF i) + Ft.szF r := by
        show t + (m * (a + 1 + Ft.szF i) + Ft.szF r) = _
        omega
      rw [e2, e3]
      show forL _ _ (.tuple [.int a, .int d, .int m, .tuple (encF i)] :: encF r) _ = _
      unfold forL
      rw [ht]
      dsimp only
      rw [hb]
      exact e
    · have hb : ∃ y6, siB X [.val v, .val (.int t), .val (.int a), .val (.int d), .val (.int m), .val (fD i), x6] = .rt (.val .none) [.val v, .val (.int t), .val (.int a), .val (.int d), .val (.int m), .val (fD i), y6] := by
        refine ⟨.val (szD i), ?_⟩
        unfold siB
        by_cases z1 : d = 0
        · by_cases z2 : m = -1
          · subst z1
            simp [hi, h6, z2]
          · have z3 : ¬ Ft.fin i = true := fun q => z ⟨z1, z2, q⟩
            have e : szD i = .none := if_neg z3
            rw [e] at hi
            subst z1
            simp [hi, h6, z2, e]
        · have z1' : (0 : Int) < (d : Int) := by omega
          have zp : 0 < d := by omega
          simp [hi, h6, zp]
      obtain ⟨y6, hb⟩ := hb
      refine ⟨.val (.int t), .val (.int a), .val (.int d), .val (.int m), .val (fD i), y6, ?_⟩
      have e2 : ¬ Ft.fin (.cons a d m i r) = true := by
        rw [hfin]
        simp only [Bool.and_eq_true, decide_eq_true_eq]
        exact fun q => z ⟨q.1, q.2.1, q.2.2.1⟩
      rw [if_neg e2]
      show forL _ _ (.tuple [.int a, .int d, .int m, .tuple (encF i)] :: encF r) _ = _
      unfold forL
      rw [ht]
      dsimp only
      rw [hb]
theorem v_R_size : ∀ (n : Nat) (f : Fo), Ft.shp f → Ft.dep f < n → gv (R_size_in n) [fD f] = .ok (.val (szD f))
  | 0, f, _, h => by omega
  | n + 1, f, hs, hd => by
    obtain ⟨y1, y2, y3, y4, y5, y6, e⟩ := si_loop (R_size_in n) (fD f) f 0 .no .no .no .no .no rfl rfl rfl rfl rfl hs (fun i a1 a2 => v_R_size n i a1 (by omega))
    unfold siB at e
    show gv (S_size_in (R_size_in n)) [fD f] = _
    rw [S_size_in, gv1_7]
    unfold szD
    rw [Int.zero_add] at e
    unfold fD at e ⊢
    simp only [e_seqS, e_asgS, e_cst, e_bind, e_frzBV, e_doS, e_setT, List.getElem?_cons_zero, List.getElem?_cons_succ, e_ioNo, Bool.false_eq_true, if_false, List.set_cons_succ, List.set_cons_zero, e_ceT, e_toNx, e_forS, e_seqI, e_vl, e_var, e_frzV]
    rw [e]
    by_cases z : Ft.fin f = true
    · rw [if_pos z, if_pos z]
      simp
    · rw [if_neg z, if_neg z]
      simp
theorem v_size_of (f : Fo) (h : Ft.FOk f) : gv F_size_of [fD f] = .ok (.val (szD f)) := by
  have q1 := v_check_forest f h.1 (line_1000 h.2.2.2)
  have q3 := v_R_size 8 f h.1 (by have := h.2.1; omega)
  rw [F_size_of, S_size_of, gv1_1]; simp [q1, F_size_in, q3]
end Wk
set_option Elab.async false
set_option linter.all false
set_option maxRecDepth 100000
set_option maxHeartbeats 4000000
namespace Wk
open PySem PySem.Spec Eng Rd
open Ft (Fo He topF maxH over Sd upF rs leH strands tabS nod)
/-! THE LAW'S DRAWS -/
structure St where
  c : List Int
  a : Nat
  l : Int
  n : Int
  s : Int
def stK (c : List Int) (a : Nat) (l n s : Int) : List (D × D) := [(.str "cells", .list (iL c)), (.str "at", .int a), (.str "left", .int l), (.str "count", .int n), (.str "sum", .int s)]
def stD (s : St) : D := .dict (stK s.c s.a s.l s.n s.s)
theorem sn_cells_at : (Str.ofString "cells" = Str.ofString "at") = False := eq_false (by decide +kernel)
theorem sn_cells_left : (Str.ofString "cells" = Str.ofString "left") = False := eq_false (by decide +kernel)
theorem sn_cells_count : (Str.ofString "cells" = Str.ofString "count") = False := eq_false (by decide +kernel)
theorem sn_cells_sum : (Str.ofString "cells" = Str.ofString "sum") = False := eq_false (by decide +kernel)
theorem sn_at_cells : (Str.ofString "at" = Str.ofString "cells") = False := eq_false (by decide +kernel)
theorem sn_at_left : (Str.ofString "at" = Str.ofString "left") = False := eq_false (by decide +kernel)
theorem sn_at_count : (Str.ofString "at" = Str.ofString "count") = False := eq_false (by decide +kernel)
theorem sn_at_sum : (Str.ofString "at" = Str.ofString "sum") = False := eq_false (by decide +kernel)
theorem sn_left_cells : (Str.ofString "left" = Str.ofString "cells") = False := eq_false (by decide +kernel)
theorem sn_left_at : (Str.ofString "left" = Str.ofString "at") = False := eq_false (by decide +kernel)
theorem sn_left_count : (Str.ofString "left" = Str.ofString "count") = False := eq_false (by decide +kernel)
theorem sn_left_sum : (Str.ofString "left" = Str.ofString "sum") = False := eq_false (by decide +kernel)
theorem sn_count_cells : (Str.ofString "count" = Str.ofString "cells") = False := eq_false (by decide +kernel)
theorem sn_count_at : (Str.ofString "count" = Str.ofString "at") = False := eq_false (by decide +kernel)
theorem sn_count_left : (Str.ofString "count" = Str.ofString "left") = False := eq_false (by decide +kernel)
theorem sn_count_sum : (Str.ofString "count" = Str.ofString "sum") = False := eq_false (by decide +kernel)
theorem sn_sum_cells : (Str.ofString "sum" = Str.ofString "cells") = False := eq_false (by decide +kernel)
theorem sn_sum_at : (Str.ofString "sum" = Str.ofString "at") = False := eq_false (by decide +kernel)
theorem sn_sum_left : (Str.ofString "sum" = Str.ofString "left") = False := eq_false (by decide +kernel)
theorem sn_sum_count : (Str.ofString "sum" = Str.ofString "count") = False := eq_false (by decide +kernel)
section
variable (c : List Int) (a : Nat) (l n s x : Int)
theorem stK_len : (stK c a l n s).length < LINE := by unfold LINE; show 5 < _; omega
@[simp] theorem lk_cells : dlook (stK c a l n s) (.inr "cells") = some (.list (iL c)) := by unfold stK dlook; rfl
@[simp] theorem lk_at :  dlook (stK c a l n s) (.inr "at") = some (.int a) := by simp [stK, dlook, sn_cells_at, sn_left_at, sn_count_at, sn_sum_at]
@[simp] theorem lk_left :  dlook (stK c a l n s) (.inr "left") = some (.int l) := by simp [stK, dlook, sn_cells_left, sn_at_left, sn_count_left, sn_sum_left]
@[simp] theorem lk_count :  dlook (stK c a l n s) (.inr "count") = some (.int n) := by simp [stK, dlook, sn_cells_count, sn_at_count, sn_left_count, sn_sum_count]
@[simp] theorem lk_sum :  dlook (stK c a l n s) (.inr "sum") = some (.int s) := by simp [stK, dlook, sn_cells_sum, sn_at_sum, sn_left_sum, sn_count_sum]
@[simp] theorem pt_at : dput (stK c a l n s) (.inr "at") (.int ((a : Int) + 1)) = stK c (a + 1) l n s := by simp [stK, dput, sn_cells_at, sn_left_at, sn_count_at, sn_sum_at]
@[simp] theorem pt_left : dput (stK c a l n s) (.inr "left") (.int x) = stK c a x n s := by simp [stK, dput, sn_cells_left, sn_at_left, sn_count_left, sn_sum_left]
@[simp] theorem pt_count : dput (stK c a l n s) (.inr "count") (.int x) = stK c a l x s := by simp [stK, dput, sn_cells_count, sn_at_count, sn_left_count, sn_sum_count]
end
def mod61 (x : Int) : Int := x % 2305843009213693951
def mixN (x n : Int) : Int :=
  if x < 1000000000000000000 then
    mod61 (mod61 (mod61 (x * 48271 + n * 69621 + 12345) * mod61 (x * 48271 + n * 69621 + 12345) + x + n * 7919) * mod61 (mod61 (x * 48271 + n * 69621 + 12345) * mod61 (x * 48271 + n * 69621 + 12345) + x + n * 7919) * 16807 + x * 40014 + 1)
  else x
def cellN (s : St) : Int := if s.a < s.c.length then s.c.getD s.a 0 else s.s + (s.n + 1)
def drL (s : St) (many : Int) : Int := if s.l < many then mixN (cellN s) (s.n + 1) else s.l
def drS (s : St) (many : Int) : St := ⟨s.c, if s.l < many ∧ s.a < s.c.length then s.a + 1 else s.a, drL s many / many, s.n + 1, s.s⟩
def drN (s : St) (many : Int) : Nat := (drL s many % many).toNat
theorem drN_lt (s : St) (many : Int) (h : 0 < many) : (drN s many : Int) < many := by
  unfold drN
  have e1 := Int.emod_nonneg (drL s many) (show many ≠ 0 by omega)
  have e2 := Int.emod_lt_of_pos (drL s many) h
  omega
theorem drN_eq (s : St) (many : Int) (h : 0 < many) : (drN s many : Int) = drL s many % many := by
  unfold drN
  exact Int.toNat_of_nonneg (Int.emod_nonneg (drL s many) (show many ≠ 0 by omega))
theorem mod61_b (x : Int) : 0 ≤ mod61 x ∧ mod61 x < 2305843009213693951 := ⟨Int.emod_nonneg _ (by decide), Int.emod_lt_of_pos _ (by decide)⟩
theorem mulR (x y : Int) (h : -18446744073709551616 < y ∧ y < 18446744073709551616) : mulOk x y = true := by
  unfold mulOk
  simp only [Bool.or_eq_true, Bool.and_eq_true, decide_eq_true_eq]
  exact .inr h
theorem e_pow18 : gPow (.int 10) (.int 18) = some (.val (.int 1000000000000000000)) := by
  show Option.map Tm.val (if 0 ≤ (18 : Int) ∧ (18 : Int) ≤ 1000000 ∧ (10 : Int).natAbs < 18446744073709551616 then some (PyData.int (10 ^ (18 : Int).toNat)) else none) = _
  rw [if_pos (by decide)]
  rfl
theorem e_mod61 (x : Int) : gMod (.int x) (.int 2305843009213693951) = some (.val (.int (mod61 x))) := by
  rw [e_mod, if_pos (by decide)]; rfl
def drB : SS := seqS (ifS (asB (op2 gLt (var 3) (op2 gPow (cst (.int 10)) (cst (.int 18))))) (seqS (asgS 4 (op2 gMod (cb1 gInt (op2 gAddA (op2 gAddA (op2 gMul (var 3) (cst (.int 48271))) (op2 gMul (dgE (var 0) (cst (.str "count"))) (cst (.int 69621)))) (cst (.int 12345)))) (cst (.int 2305843009213693951)))) (seqS (asgS 4 (op2 gMod (cb1 gInt (op2 gAddA (op2 gAddA (op2 gMul (var 4) (var 4)) (var 3)) (op2 gMul (dgE (var 0) (cst (.str "count"))) (cst (.int 7919))))) (cst (.int 2305843009213693951)))) (asgS 3 (op2 gMod (cb1 gInt (op2 gAddA (op2 gAddA (op2 gMul (op2 gMul (var 4) (var 4)) (cst (.int 16807))) (op2 gMul (var 3) (cst (.int 40014)))) (cst (.int 1)))) (cst (.int 2305843009213693951)))))) nxS) (putS (var 0) (cst (.str "left")) (var 3))
theorem dr_mix (c : List Int) (a : Nat) (l n s many x : Int) (x2 : Cell) : ∃ y3 y4, isIo (some y3) = false ∧ isIo (some y4) = false ∧ drB [.io (.dict (stK c a l n s)), .val (.int many), x2, .val (.int x), .no] = .nx [.io (.dict (stK c a (mixN x n) n s)), .val (.int many), x2, y3, y4] := by
  have b1 := mod61_b (x * 48271 + n * 69621 + 12345)
  have b2 := mod61_b (mod61 (x * 48271 + n * 69621 + 12345) * mod61 (x * 48271 + n * 69621 + 12345) + x + n * 7919)
  have m1 := mulR x 48271 (by decide)
  have m2 := mulR n 69621 (by decide)
  have m3 := mulR n 7919 (by decide)
  have m4 := mulR x 40014 (by decide)
  have m5 := mulR (mod61 (x * 48271 + n * 69621 + 12345)) (mod61 (x * 48271 + n * 69621 + 12345)) (by omega)
  have m6 := mulR (mod61 (mod61 (x * 48271 + n * 69621 + 12345) * mod61 (x * 48271 + n * 69621 + 12345) + x + n * 7919)) (mod61 (mod61 (x * 48271 + n * 69621 + 12345) * mod61 (x * 48271 + n * 69621 + 12345) + x + n * 7919)) (by omega)
  have m7 := mulR (mod61 (mod61 (x * 48271 + n * 69621 + 12345) * mod61 (x * 48271 + n * 69621 + 12345) + x + n * 7919) * mod61 (mod61 (x * 48271 + n * 69621 + 12345) * mod61 (x * 48271 + n * 69621 + 12345) + x + n * 7919)) 16807 (by decide)
  unfold mixN
  by_cases z : x < 1000000000000000000
  · rw [if_pos z]
    refine ⟨.val (.int (mod61 (mod61 (mod61 (x * 48271 + n * 69621 + 12345) * mod61 (x * 48271 + n * 69621 + 12345) + x + n * 7919) * mod61 (mod61 (x * 48271 + n * 69621 + 12345) * mod61 (x * 48271 + n * 69621 + 12345) + x + n * 7919) * 16807 + x * 40014 + 1))), .val (.int (mod61 (mod61 (x * 48271 + n * 69621 + 12345) * mod61 (x * 48271 + n * 69621 + 12345) + x + n * 7919))), rfl, rfl, ?_⟩
    unfold drB
    simp [-e_mod, e_pow18, z, e_mod61, m1, m2, m3, m4, m5, m6, m7, stK_len]
  · rw [if_neg z]
    refine ⟨.val (.int x), .no, rfl, rfl, ?_⟩
    unfold drB
    simp [e_pow18, z, stK_len]
theorem dr_eq : F__law_draw = fnOf 2 5 (seqS (putS (var 0) (cst (.str "count")) (op2 gAddA (dgE (var 0) (cst (.str "count"))) (cst (.int 1)))) (seqS (ifS (asB (op2 gLt (dgE (var 0) (cst (.str "left"))) (var 1))) (seqS (asgS 3 (op2 gAddA (dgE (var 0) (cst (.str "sum"))) (dgE (var 0) (cst (.str "count"))))) (seqS (ifS (asB (op2 gLt (dgE (var 0) (cst (.str "at"))) (cb1 gLen (dgE (var 0) (cst (.str "cells")))))) (seqS (asgS 3 (ixE (dgE (var 0) (cst (.str "cells"))) (dgE (var 0) (cst (.str "at"))))) (putS (var 0) (cst (.str "at")) (op2 gAddA (dgE (var 0) (cst (.str "at"))) (cst (.int 1))))) nxS) drB)) nxS) (seqS (asgS 2 (op2 gMod (cb1 gInt (dgE (var 0) (cst (.str "left")))) (var 1))) (seqS (putS (var 0) (cst (.str "left")) (op2 gFdiv (cb1 gInt (dgE (var 0) (cst (.str "left")))) (var 1))) (retS (var 2)))))) := rfl
theorem draw_ff (s : St) (many : Int) (h : 0 < many ∧ many < 1073741824) : F__law_draw [.io (stD s), .val (.int many)] = .ok (.val (.int (drN s many))) [.io (stD (drS s many)), .val (.int many)] := by
  obtain ⟨c, a, l, n, s⟩ := s
  rw [drN_eq _ _ h.1]
  unfold drS drL cellN stD
  dsimp only
  rw [dr_eq, e_fnOf]
  by_cases z1 : l < many
  · by_cases z2 : a < c.length
    · obtain ⟨y3, y4, h3, h4, e⟩ := dr_mix c (a + 1) l (n + 1) s many (c.getD a 0) .no
      have e2 := at_iL c a z2
      rw [if_pos z1, if_pos z2, if_pos ⟨z1, z2⟩]
      generalize c.getD a 0 = x at *
      simp [z1, z2, e, e2, stK_len, h3, h4, h]
    · obtain ⟨y3, y4, h3, h4, e⟩ := dr_mix c a l (n + 1) s many (s + (n + 1)) .no
      rw [if_pos z1, if_neg z2, if_neg (fun q => z2 q.2)]
      simp [z1, z2, e, stK_len, h3, h4, h]
  · rw [if_neg z1, if_neg (fun q => z1 q.1)]
    simp [z1, stK_len, h]
/-! calls that hand on the state -/
theorem cb0_1 {g : FF} {dds : List D} {d d' : D} {x : D} {sl : Sl} (h : g (.io d :: dds.map .val) = .ok (.val x) (.io d' :: dds.map .val)) : callR g dds [.bor 0] (.io d :: sl) = .ok (.val x) (.io d' :: sl) := by
  rw [e_callR]
  simp [h]
theorem cb0_2 {g : FF} {d d' : D} {x y : D} {sl : Sl} (h : g [.io d, .val y] = .ok (.val x) [.io d', .val y]) : callR g [] [.bor 0, .val y] (.io d :: sl) = .ok (.val x) (.io d' :: sl) := by
  rw [e_callR]
  simp [h]
theorem cb1_1 {g : FF} {d d' : D} {x : D} {c0 : Cell} {sl : Sl} (h : g [.io d] = .ok (.val x) [.io d']) : callR g [] [.bor 1] (c0 :: .own d :: sl) = .ok (.val x) (c0 :: .own d' :: sl) := by
  rw [e_callR]
  simp [h]
theorem cb1_2 {g : FF} {d d' : D} {x y : D} {c0 : Cell} {sl : Sl} (h : g [.io d, .val y] = .ok (.val x) [.io d', .val y]) : callR g [] [.bor 1, .val y] (c0 :: .own d :: sl) = .ok (.val x) (c0 :: .own d' :: sl) := by
  rw [e_callR]
  simp [h]
theorem cb1_4 {g : FF} {d d' : D} {x y1 y2 y3 : D} {c0 : Cell} {sl : Sl} (h : g [.io d, .val y1, .val y2, .val y3] = .ok (.val x) [.io d', .val y1, .val y2, .val y3]) : callR g [] [.bor 1, .val y1, .val y2, .val y3] (c0 :: .own d :: sl) = .ok (.val x) (c0 :: .own d' :: sl) := by
  rw [e_callR]
  simp [h]
@[simp] theorem draw0 (s : St) (many : Int) (sl : Sl) (h1 : 0 < many) (h2 : many < 1073741824) : callR F__law_draw [] [.bor 0, .val (.int many)] (.io (stD s) :: sl) = .ok (.val (.int (drN s many))) (.io (stD (drS s many)) :: sl) := cb0_2 (draw_ff s many ⟨h1, h2⟩)
@[simp] theorem draw1 (s : St) (many : Int) (c0 : Cell) (sl : Sl) (h1 : 0 < many) (h2 : many < 1073741824) : callR F__law_draw [] [.bor 1, .val (.int many)] (c0 :: .own (stD s) :: sl) = .ok (.val (.int (drN s many))) (c0 :: .own (stD (drS s many)) :: sl) := cb1_2 (draw_ff s many ⟨h1, h2⟩)
/-! picks -/
def pkN (l : List Nat) (n : Nat) : Nat := l.getD n 0
def pkI (l : List Int) (n : Nat) : Int := l.getD n 0
theorem pkN_at (l : List Nat) (n : Nat) (h : n < l.length) : L2.atI (l.map fun x : Nat => PyData.int (x : Int)) (n : Int) = some (.int (pkN l n)) := by
  rw [at_nat, List.getElem?_map]
  unfold pkN
  rw [List.getD_eq_getElem?_getD, List.getElem?_eq_getElem h]
  rfl
theorem pkI_at (l : List Int) (n : Nat) (h : n < l.length) : L2.atI (l.map fun x => PyData.int x) (n : Int) = some (.int (pkI l n)) := by
  rw [at_nat, List.getElem?_map]
  unfold pkI
  rw [List.getD_eq_getElem?_getD, List.getElem?_eq_getElem h]
  rfl
theorem pkN_mem (l : List Nat) (n : Nat) (h : n < l.length) : pkN l n ∈ l := by
  unfold pkN
  rw [List.getD_eq_getElem?_getD, List.getElem?_eq_getElem h]
  exact List.getElem_mem h
theorem pkI_mem (l : List Int) (n : Nat) (h : n < l.length) : pkI l n ∈ l := by
  unfold pkI
  rw [List.getD_eq_getElem?_getD, List.getElem?_eq_getElem h]
  exact List.getElem_mem h
theorem dr3 (s : St) : drN s 3 < 3 := by have := drN_lt s 3 (by decide); omega
theorem dr4 (s : St) : drN s 4 < 4 := by have := drN_lt s 4 (by decide); omega
theorem dr6 (s : St) : drN s 6 < 6 := by have := drN_lt s 6 (by decide); omega
@[simp] theorem pa1 (s : St) : L2.atI [PyData.int 2, .int 4, .int 9] (drN s 3 : Int) = some (.int (pkN [2, 4, 9] (drN s 3))) := pkN_at [2, 4, 9] _ (dr3 s)
@[simp] theorem pa2 (s : St) : L2.atI [PyData.int 0, .int 0, .int 0, .int 1, .int 2, .int 3] (drN s 6 : Int) = some (.int (pkN [0, 0, 0, 1, 2, 3] (drN s 6))) := pkN_at [0, 0, 0, 1, 2, 3] _ (dr6 s)
@[simp] theorem pa3 (s : St) : L2.atI [PyData.int 1, .int 1, .int 2, .int 3, .int 9, .int (-1)] (drN s 6 : Int) = some (.int (pkI [1, 1, 2, 3, 9, -1] (drN s 6))) := pkI_at [1, 1, 2, 3, 9, -1] _ (dr6 s)
@[simp] theorem pa4 (s : St) : L2.atI [PyData.int 0, .int 1, .int 1, .int 2] (drN s 4 : Int) = some (.int (pkN [0, 1, 1, 2] (drN s 4))) := pkN_at [0, 1, 1, 2] _ (dr4 s)
@[simp] theorem pa5 (s : St) : L2.atI [PyData.int 1, .int 1, .int (-1)] (drN s 3 : Int) = some (.int (pkI [1, 1, -1] (drN s 3))) := pkI_at [1, 1, -1] _ (dr3 s)
@[simp] theorem pa6 (s : St) : L2.atI [PyData.int 2, .int 6, .int 16, .int 401] (drN s 4 : Int) = some (.int (pkN [2, 6, 16, 401] (drN s 4))) := pkN_at [2, 6, 16, 401] _ (dr4 s)
theorem pb1 (s : St) : (0 : Int) < (pkN [2, 4, 9] (drN s 3) : Nat) ∧ ((pkN [2, 4, 9] (drN s 3) : Nat) : Int) < 10 := by
  have h := pkN_mem [2, 4, 9] _ (dr3 s)
  simp only [List.mem_cons, List.not_mem_nil, or_false] at h
  omega
theorem pb2 (s : St) : pkN [0, 0, 0, 1, 2, 3] (drN s 6) = 0 ∨ pkN [0, 0, 0, 1, 2, 3] (drN s 6) ∣ 6 := by
  have h := pkN_mem [0, 0, 0, 1, 2, 3] _ (dr6 s)
  simp only [List.mem_cons, List.not_mem_nil, or_false] at h
  rcases h with h | h | h | h | h | h <;> rw [h] <;> decide
theorem pb3 (s : St) : pkI [1, 1, 2, 3, 9, -1] (drN s 6) = -1 ∨ (1 ≤ pkI [1, 1, 2, 3, 9, -1] (drN s 6) ∧ pkI [1, 1, 2, 3, 9, -1] (drN s 6) ≤ 9) := by
  have h := pkI_mem [1, 1, 2, 3, 9, -1] _ (dr6 s)
  simp only [List.mem_cons, List.not_mem_nil, or_false] at h
  omega
theorem pb4 (s : St) : pkN [0, 1, 1, 2] (drN s 4) = 0 ∨ pkN [0, 1, 1, 2] (drN s 4) ∣ 6 := by
  have h := pkN_mem [0, 1, 1, 2] _ (dr4 s)
  simp only [List.mem_cons, List.not_mem_nil, or_false] at h
  rcases h with h | h | h | h <;> rw [h] <;> decide
theorem pb5 (s : St) : pkI [1, 1, -1] (drN s 3) = -1 ∨ (1 ≤ pkI [1, 1, -1] (drN s 3) ∧ pkI [1, 1, -1] (drN s 3) ≤ 9) := by
  have h := pkI_mem [1, 1, -1] _ (dr3 s)
  simp only [List.mem_cons, List.not_mem_nil, or_false] at h
  omega
theorem pb6 (s : St) : (0 : Int) < (pkN [2, 6, 16, 401] (drN s 4) : Nat) ∧ ((pkN [2, 6, 16, 401] (drN s 4) : Nat) : Int) < 402 := by
  have h := pkN_mem [2, 6, 16, 401] _ (dr4 s)
  simp only [List.mem_cons, List.not_mem_nil, or_false] at h
  omega
end Wk
set_option Elab.async false
set_option linter.all false
set_option maxRecDepth 100000
set_option maxHeartbeats 4000000
namespace Wk
open PySem PySem.Spec Eng Rd
open Ft (Fo He topF maxH over Sd upF rs leH strands tabS nod)
/-! the law's forests -/
def FB (K H T : Nat) (f : Fo) : Prop := Ft.shp f ∧ Ft.dep f ≤ K ∧ Ft.hgt f ≤ H ∧ Ft.trm f ≤ T
theorem FB.mono {K H T K' H' T' : Nat} {f : Fo} (h : FB K H T f) (h1 : K ≤ K') (h2 : H ≤ H') (h3 : T ≤ T') : FB K' H' T' f := ⟨h.1, by have := h.2.1; omega, by have := h.2.2.1; omega, by have := h.2.2.2; omega⟩
def snF : Fo → Nat → Nat → Int → Fo → Fo
  | .nil, a, d, m, i => .cons a d m i .nil
  | .cons a' d' m' i' r, a, d, m, i => .cons a' d' m' i' (snF r a d m i)
theorem sn_enc : ∀ (f : Fo) (a d : Nat) (m : Int) (i : Fo), encF (snF f a d m i) = encF f ++ [.tuple [.int a, .int d, .int m, fD i]]
  | .nil, a, d, m, i => rfl
  | .cons a' d' m' i' r, a, d, m, i => by
    show _ :: encF (snF r a d m i) = _ :: (encF r ++ _)
    rw [sn_enc r]
theorem sn_fb {K H T K' H' T' : Nat} : ∀ (f : Fo) (a d : Nat) (m : Int) (i : Fo), FB K H T f → FB K' H' T' i → K' + 1 ≤ K → H' + a + 1 ≤ H → (d = 0 ∨ d ∣ 6) → (m = -1 ∨ (1 ≤ m ∧ m ≤ 9)) → FB K H (T + 1 + T') (snF f a d m i)
  | .nil, a, d, m, i, ⟨f1, f2, f3, f4⟩, ⟨i1, i2, i3, i4⟩, hk, hh, hd, hm => by
    refine ⟨⟨hd, hm, i1, trivial⟩, ?_, ?_, ?_⟩
    · show max (Ft.dep i + 1) 0 ≤ K; omega
    · show max (Ft.hgt i + a + 1) 0 ≤ H; omega
    · show 1 + Ft.trm i + 0 ≤ _; omega
  | .cons a' d' m' i' r, a, d, m, i, ⟨f1, f2, f3, f4⟩, hi, hk, hh, hd, hm => by
    have f2' : max (Ft.dep i' + 1) (Ft.dep r) ≤ K := f2
    have f3' : max (Ft.hgt i' + a' + 1) (Ft.hgt r) ≤ H := f3
    have f4' : 1 + Ft.trm i' + Ft.trm r ≤ T := f4
    obtain ⟨g1, g2, g3, g4⟩ := f1
    obtain ⟨q1, q2, q3, q4⟩ := sn_fb (K := K) (H := H) (T := T - (1 + Ft.trm i')) r a d m i ⟨g4, by omega, by omega, by omega⟩ hi hk hh hd hm
    refine ⟨⟨g1, g2, g3, q1⟩, ?_, ?_, ?_⟩
    · show max (Ft.dep i' + 1) (Ft.dep (snF r a d m i)) ≤ K; omega
    · show max (Ft.hgt i' + a' + 1) (Ft.hgt (snF r a d m i)) ≤ H; omega
    · show 1 + Ft.trm i' + Ft.trm (snF r a d m i) ≤ _; omega
/-- without the inner ones -/
def flF : Fo → Fo
  | .nil => .nil
  | .cons a d m i r => .cons a d m .nil (flF r)
theorem fl_fb {K H T : Nat} : ∀ f : Fo, FB K H T f → FB K H T (flF f)
  | .nil, h => h
  | .cons a d m i r, ⟨⟨g1, g2, g3, g4⟩, f2, f3, f4⟩ => by
    have f2' : max (Ft.dep i + 1) (Ft.dep r) ≤ K := f2
    have f3' : max (Ft.hgt i + a + 1) (Ft.hgt r) ≤ H := f3
    have f4' : 1 + Ft.trm i + Ft.trm r ≤ T := f4
    obtain ⟨q1, q2, q3, q4⟩ := fl_fb (K := K) (H := H) (T := T - (1 + Ft.trm i)) r ⟨g4, by omega, by omega, by omega⟩
    refine ⟨⟨g1, g2, trivial, q1⟩, ?_, ?_, ?_⟩
    · show max (0 + 1) (Ft.dep (flF r)) ≤ K; omega
    · show max (0 + a + 1) (Ft.hgt (flF r)) ≤ H; omega
    · show 1 + 0 + Ft.trm (flF r) ≤ _; omega
/-! terms -/
def teL : Fo → List Int
  | .nil => []
  | .cons _ _ _ i r => (1 + (Ft.trm i : Int)) :: teL r
theorem te_sum : ∀ f : Fo, (teL f).sum = (Ft.trm f : Int)
  | .nil => rfl
  | .cons a d m i r => by
    have := te_sum r
    show (1 + (Ft.trm i : Int)) + (teL r).sum = ((1 + Ft.trm i + Ft.trm r : Nat) : Int)
    omega
theorem te_loop (X : FF) (v : Cell) : ∀ (r : Fo) (acc : List D), acc.length + (encF r).length ≤ LINE → (∀ i : Fo, Ft.dep i < Ft.dep r → Ft.trm i < Ft.trm r → gv X [fD i] = .ok (.val (.int (Ft.trm i)))) →
    lcL (tgT [(tgN 1), (tgN 2), (tgN 3), (tgN 4)]) yesB (op2 gAddA (cst (.int 1)) (callE X [] [.v (var 4)])) [1, 2, 3, 4] (encF r) acc [v, .no, .no, .no, .no] = .ok (acc ++ iL (teL r)) [v, .no, .no, .no, .no]
  | .nil, acc, hl, hX => by
    show lcL _ _ _ _ [] acc _ = .ok (acc ++ []) _
    rw [List.append_nil]; rfl
  | .cons a d m i r, acc, hl, hX => by
    have hl' : acc.length + ((encF r).length + 1) ≤ LINE := hl
    have hi := hX i (by show Ft.dep i < max (Ft.dep i + 1) (Ft.dep r); omega) (by show Ft.trm i < 1 + Ft.trm i + Ft.trm r; omega)
    have ih := te_loop X v r (acc ++ [.int (1 + (Ft.trm i : Int))]) (by rw [List.length_append, List.length_singleton]; omega) (fun i' a1 a2 => hX i' (by show Ft.dep i' < max (Ft.dep i + 1) (Ft.dep r); omega) (by show Ft.trm i' < 1 + Ft.trm i + Ft.trm r; omega))
    show lcL _ _ _ _ (.tuple [.int a, .int d, .int m, fD i] :: encF r) acc _ = _
    rw [lcL_y (sl1 := [v, .val (.int a), .val (.int d), .val (.int m), .val (fD i)]) (sl3 := [v, .val (.int a), .val (.int d), .val (.int m), .val (fD i)]) (y := .int (1 + (Ft.trm i : Int))) (by simp) (by simp [hi]) (by simp) (by simp) (by omega), ih, List.append_assoc]
    rfl
theorem sum_iL (l : List Int) : gSum (.list (iL l)) = some (.val (.int l.sum)) := by
  have h := sum_map (fun x : Int => x) l
  rw [List.map_id'] at h
  exact h
theorem v_R_terms : ∀ (n : Nat) (f : Fo), Ft.dep f < n → Ft.trm f ≤ LINE → gv (R__law_terms n) [fD f] = .ok (.val (.int (Ft.trm f))) ∧ gv (R__law_terms n) [.list (encF f)] = .ok (.val (.int (Ft.trm f)))
  | 0, f, h, _ => by omega
  | n + 1, f, h, ht => by
    have hl := enc_len f
    have q := te_loop (R__law_terms n) (.val (fD f)) f [] (by simpa using (by omega : (encF f).length ≤ LINE)) (fun i a1 a2 => (v_R_terms n i (by omega) (by omega)).1)
    have q' := te_loop (R__law_terms n) (.val (.list (encF f))) f [] (by simpa using (by omega : (encF f).length ≤ LINE)) (fun i a1 a2 => (v_R_terms n i (by omega) (by omega)).1)
    have q2 := sum_iL (teL f)
    rw [te_sum] at q2
    rw [List.nil_append] at q q'
    unfold fD at q ⊢
    constructor
    · show gv (S__law_terms (R__law_terms n)) _ = _
      rw [S__law_terms, gv1_5]
      simp only [e_retS, e_cb1, e_pk, e_lcE, e_seqI, e_vl, e_var, List.getElem?_cons_zero, List.getElem?_cons_succ, e_bind, e_frzV, e_okC, e_okN, e_plN, Bool.and_true, if_true, e_wiC, e_wiN, List.set_cons_succ, List.set_cons_zero, q, e_reC, e_reN, List.getD_cons_succ, List.getD_cons_zero, e_peekO, e_rsvV, Option.bind_some, q2, e_ofO, e_doS, e_ouV]
    · show gv (S__law_terms (R__law_terms n)) _ = _
      rw [S__law_terms, gv1_5]
      simp only [e_retS, e_cb1, e_pk, e_lcE, e_seqI, e_vl, e_var, List.getElem?_cons_zero, List.getElem?_cons_succ, e_bind, e_frzV, e_okC, e_okN, e_plN, Bool.and_true, if_true, e_wiC, e_wiN, List.set_cons_succ, List.set_cons_zero, q', e_reC, e_reN, List.getD_cons_succ, List.getD_cons_zero, e_peekO, e_rsvV, Option.bind_some, q2, e_ofO, e_doS, e_ouV]
theorem v_terms_l (f : Fo) (h : Ft.dep f ≤ 7) (ht : Ft.trm f ≤ LINE) : gv F__law_terms [.list (encF f)] = .ok (.val (.int (Ft.trm f))) := (v_R_terms 8 f (by omega) ht).2
/-! forests drawn -/
theorem fl_loop (c0 c1 c2 c3 : Cell) : ∀ (r : Fo) (acc : List D), acc.length + (encF r).length ≤ LINE →
    lcL (tgT [(tgN 4), (tgN 5), (tgN 6), (tgN 7)]) yesB (tupE [(var 4), (var 5), (var 6), (tupE [])]) [4, 5, 6, 7] (encF r) acc [c0, c1, c2, c3, .no, .no, .no, .no] = .ok (acc ++ encF (flF r)) [c0, c1, c2, c3, .no, .no, .no, .no]
  | .nil, acc, hl => by
    show lcL _ _ _ _ [] acc _ = .ok (acc ++ []) _
    rw [List.append_nil]; rfl
  | .cons a d m i r, acc, hl => by
    have hl' : acc.length + ((encF r).length + 1) ≤ LINE := hl
    have ih := fl_loop c0 c1 c2 c3 r (acc ++ [.tuple [.int a, .int d, .int m, .tuple []]]) (by rw [List.length_append, List.length_singleton]; omega)
    show lcL _ _ _ _ (.tuple [.int a, .int d, .int m, fD i] :: encF r) acc _ = _
    rw [lcL_y (sl1 := [c0, c1, c2, c3, .val (.int a), .val (.int d), .val (.int m), .val (fD i)]) (sl3 := [c0, c1, c2, c3, .val (.int a), .val (.int d), .val (.int m), .val (fD i)]) (y := .tuple [.int a, .int d, .int m, .tuple []]) (by simp) (by simp) (by simp) (by simp) (by omega), ih, List.append_assoc]
    rfl
def foB (X : FF) : SS := seqS (asgS 4 (callE F__law_draw [] [.b (var 0), .v (ixE (lstE [(cst (.int 2)), (cst (.int 4)), (cst (.int 9))]) (callE F__law_draw [] [.b (var 0), .v (cst (.int 3))]))])) (seqS (asgS 5 (ixE (lstE [(cst (.int 0)), (cst (.int 0)), (cst (.int 0)), (cst (.int 1)), (cst (.int 2)), (cst (.int 3))]) (callE F__law_draw [] [.b (var 0), .v (cst (.int 6))]))) (seqS (asgS 6 (ixE (lstE [(cst (.int 1)), (cst (.int 1)), (cst (.int 2)), (cst (.int 3)), (cst (.int 9)), (op1 gNeg (cst (.int 1)))]) (callE F__law_draw [] [.b (var 0), .v (cst (.int 6))]))) (seqS (asgS 7 (ifE (andB (asB (op2 gGt (var 1) (cst (.int 1)))) (asB (op2 gEq (callE F__law_draw [] [.b (var 0), .v (cst (.int 2))]) (cst (.int 0))))) (callE X [] [.b (var 0), .v (op2 gSub (var 1) (cst (.int 1)))]) (tupE []))) (drpS (appE (var 2) (tupE [(var 4), (var 5), (var 6), (var 7)]))))))
def FoS (X : FF) (n : Nat) (P : Fo → Prop) : Prop := ∀ s : St, ∃ f s', X [.io (stD s), .val (.int (n : Nat))] = .ok (.val (fD f)) [.io (stD s'), .val (.int (n : Nat))] ∧ P f
theorem io_plain {y : Cell} (h : plainC (some y) = true) : isIo (some y) = false := by cases y <;> first | rfl | cases h
theorem fo_body (X : FF) (n K H T : Nat) (hX : 0 < n → FoS X n (FB K H T)) (s : St) (f : Fo) (T0 : Nat) (hf : FB (K + 1) (H + 10) T0 f) (hT : T0 < LINE) (x3 x4 x5 x6 x7 : Cell) (h4 : isIo (some x4) = false) (h5 : isIo (some x5) = false) (h6 : isIo (some x6) = false) (h7 : isIo (some x7) = false) :
    ∃ s' f' y4 y5 y6 y7, plainC (some y4) = true ∧ plainC (some y5) = true ∧ plainC (some y6) = true ∧ plainC (some y7) = true ∧ FB (K + 1) (H + 10) (T0 + 1 + T) f' ∧ foB X [.io (stD s), .val (.int ((n : Int) + 1)), .own (.list (encF f)), x3, x4, x5, x6, x7] = .nx [.io (stD s'), .val (.int ((n : Int) + 1)), .own (.list (encF f')), x3, y4, y5, y6, y7] := by
  have hl := enc_len f
  have hlt : (encF f).length < LINE := by have := hf.2.2.2; omega
  have b1 := pb1 s
  have ba := drN_lt (drS s 3) (pkN [2, 4, 9] (drN s 3) : Nat) b1.1
  have b2 := pb2 (drS (drS s 3) (pkN [2, 4, 9] (drN s 3) : Nat))
  have b3 := pb3 (drS (drS (drS s 3) (pkN [2, 4, 9] (drN s 3) : Nat)) 6)
  have q0 := draw0 s 3 [.val (.int ((n : Int) + 1)), .own (.list (encF f)), x3, x4, x5, x6, x7] (by decide) (by decide)
  have q1 := draw0 (drS s 3) (pkN [2, 4, 9] (drN s 3) : Nat) [.val (.int ((n : Int) + 1)), .own (.list (encF f)), x3, x4, x5, x6, x7] b1.1 (by omega)
  have p1 := pa1 s
  have p2 := pa2 (drS (drS s 3) (pkN [2, 4, 9] (drN s 3) : Nat))
  have p3 := pa3 (drS (drS (drS s 3) (pkN [2, 4, 9] (drN s 3) : Nat)) 6)
  have ba' : drN (drS s 3) (pkN [2, 4, 9] (drN s 3) : Nat) ≤ 8 := by omega
  generalize pkN [2, 4, 9] (drN s 3) = pa at *
  generalize drS (drS s 3) (pa : Int) = s2 at *
  generalize drN (drS s 3) (pa : Int) = a at *
  have q2 := draw0 s2 6 [.val (.int ((n : Int) + 1)), .own (.list (encF f)), x3, .val (.int a), x5, x6, x7] (by decide) (by decide)
  generalize drS s2 6 = s3 at *
  generalize pkN [0, 0, 0, 1, 2, 3] (drN s2 6) = d at *
  have q3 := draw0 s3 6 [.val (.int ((n : Int) + 1)), .own (.list (encF f)), x3, .val (.int a), .val (.int d), x6, x7] (by decide) (by decide)
  generalize drS s3 6 = s4 at *
  generalize pkI [1, 1, 2, 3, 9, -1] (drN s3 6) = m at *
  have q4 := draw0 s4 2 [.val (.int ((n : Int) + 1)), .own (.list (encF f)), x3, .val (.int a), .val (.int d), .val (.int m), x7] (by decide) (by decide)
  by_cases z : 0 < n ∧ drN s4 2 = 0
  · obtain ⟨i, s', e, hi⟩ := hX z.1 (drS s4 2)
    refine ⟨s', snF f a d m i, .val (.int a), .val (.int d), .val (.int m), .val (fD i), rfl, rfl, rfl, rfl, sn_fb f _ _ _ _ hf hi (by omega) (by omega) b2 b3, ?_⟩
    have e2 := cb0_2 (sl := [.val (.int ((n : Int) + 1)), .own (.list (encF f)), x3, .val (.int a), .val (.int d), .val (.int m), x7]) e
    rw [sn_enc]
    unfold foB
    simp [q0, q1, q2, q3, q4, p1, p2, p3, h4, h5, h6, h7, (show (1 : Int) < (n : Int) + 1 by omega), z.2, e2, hlt]
  · by_cases z1 : 0 < n
    · have z2 : ¬ drN s4 2 = 0 := fun q => z ⟨z1, q⟩
      refine ⟨drS s4 2, snF f a d m .nil, .val (.int a), .val (.int d), .val (.int m), .val (fD .nil), rfl, rfl, rfl, rfl, sn_fb f _ _ _ _ hf (K' := 0) (H' := 0) (T' := T) ⟨trivial, Nat.le_refl _, Nat.le_refl _, Nat.zero_le _⟩ (by omega) (by omega) b2 b3, ?_⟩
      rw [sn_enc]
      unfold foB
      have fn : fD .nil = .tuple [] := rfl
      simp [q0, q1, q2, q3, q4, p1, p2, p3, h4, h5, h6, h7, (show (1 : Int) < (n : Int) + 1 by omega), z2, hlt, fn]
    · refine ⟨s4, snF f a d m .nil, .val (.int a), .val (.int d), .val (.int m), .val (fD .nil), rfl, rfl, rfl, rfl, sn_fb f _ _ _ _ hf (K' := 0) (H' := 0) (T' := T) ⟨trivial, Nat.le_refl _, Nat.le_refl _, Nat.zero_le _⟩ (by omega) (by omega) b2 b3, ?_⟩
      rw [sn_enc]
      unfold foB
      have fn : fD .nil = .tuple [] := rfl
      simp [q0, q1, q2, q3, q4, p1, p2, p3, h4, h5, h6, h7, (show ¬ (1 : Int) < (n : Int) + 1 by omega), hlt, fn]
theorem fo_loop (X : FF) (n K H T : Nat) (hX : 0 < n → FoS X n (FB K H T)) : ∀ (ds : List D) (s : St) (f : Fo) (T0 : Nat) (x3 x4 x5 x6 x7 : Cell), FB (K + 1) (H + 10) T0 f → T0 + ds.length * (1 + T) < LINE → isIo (some x3) = false → plainC (some x4) = true → plainC (some x5) = true → plainC (some x6) = true → plainC (some x7) = true →
    ∃ s' f' y3 y4 y5 y6 y7, plainC (some y4) = true ∧ plainC (some y5) = true ∧ plainC (some y6) = true ∧ plainC (some y7) = true ∧ FB (K + 1) (H + 10) (T0 + ds.length * (1 + T)) f' ∧ forL (tgN 3) (foB X) ds [.io (stD s), .val (.int ((n : Int) + 1)), .own (.list (encF f)), x3, x4, x5, x6, x7] = .nx [.io (stD s'), .val (.int ((n : Int) + 1)), .own (.list (encF f')), y3, y4, y5, y6, y7]
  | [], s, f, T0, x3, x4, x5, x6, x7, hf, hT, h3, h4, h5, h6, h7 => ⟨s, f, x3, x4, x5, x6, x7, h4, h5, h6, h7, hf.mono (Nat.le_refl _) (Nat.le_refl _) (Nat.le_add_right _ _), rfl⟩
  | d :: ds, s, f, T0, x3, x4, x5, x6, x7, hf, hT, h3, h4, h5, h6, h7 => by
    have e0 : T0 + (d :: ds).length * (1 + T) = T0 + 1 + T + ds.length * (1 + T) := by rw [List.length_cons, Nat.succ_mul]; omega
    rw [e0] at hT ⊢
    have hp := Nat.zero_le (ds.length * (1 + T))
    obtain ⟨s1, f1, y4, y5, y6, y7, g4, g5, g6, g7, hf1, e1⟩ := fo_body X n K H T hX s f T0 hf (by omega) (.val d) x4 x5 x6 x7 (io_plain h4) (io_plain h5) (io_plain h6) (io_plain h7)
    obtain ⟨s2, f2, w3, w4, w5, w6, w7, k4, k5, k6, k7, hf2, e2⟩ := fo_loop X n K H T hX ds s1 f1 (T0 + 1 + T) (.val d) y4 y5 y6 y7 hf1 hT rfl g4 g5 g6 g7
    refine ⟨s2, f2, w3, w4, w5, w6, w7, k4, k5, k6, k7, hf2, ?_⟩
    have ht : tgN 3 d [.io (stD s), .val (.int ((n : Int) + 1)), .own (.list (encF f)), x3, x4, x5, x6, x7] = some [.io (stD s), .val (.int ((n : Int) + 1)), .own (.list (encF f)), .val d, x4, x5, x6, x7] := by simp [h3]
    unfold forL
    rw [ht]
    dsimp only
    rw [e1]
    exact e2
theorem fo_eq (X : FF) : S__law_forest F__law_terms F__law_draw X = fnOf 2 8 (seqS (asgS 2 (lstE [])) (seqS (forS (rngI1 (op2 gAddA (cst (.int 1)) (callE F__law_draw [] [.b (var 0), .v (cst (.int 3))]))) (tgN 3) (foB X)) (retS (ifE (asB (op2 gLe (callE F__law_terms [] [.v (var 2)]) (cst (.int 12)))) (cb1 gTuple (var 2)) (cb1 gTuple (lcE (seqI (var 2)) [4, 5, 6, 7] (tgT [(tgN 4), (tgN 5), (tgN 6), (tgN 7)]) yesB (tupE [(var 4), (var 5), (var 6), (tupE [])]))))))) := rfl
theorem rng_len (lo : Int) (k : Nat) : (rng lo k).length = k := by unfold rng; rw [List.length_map, List.length_range]
theorem fo_main (X : FF) (n K H T : Nat) (hK : K + 1 ≤ 7) (hT : 3 * (1 + T) ≤ 1000) (hX : 0 < n → FoS X n (FB K H T)) : FoS (S__law_forest F__law_terms F__law_draw X) (n + 1) (FB (K + 1) (H + 10) (3 * (1 + T))) := fun s => by
  have hk := dr3 s
  have hL : 1000 < LINE := by unfold LINE; omega
  have hm : (rng 0 (1 + (drN s 3 : Int)).toNat).length * (1 + T) ≤ 3 * (1 + T) := by
    rw [rng_len]
    exact Nat.mul_le_mul_right _ (by omega)
  obtain ⟨s', f, y3, y4, y5, y6, y7, h4, h5, h6, h7, hf, e⟩ := fo_loop X n K H T hX (rng 0 (1 + (drN s 3 : Int)).toNat) (drS s 3) .nil 0 .no .no .no .no .no ⟨trivial, Nat.zero_le _, Nat.zero_le _, Nat.zero_le _⟩ (by omega) rfl rfl rfl rfl rfl
  have hf' := hf.mono (K' := K + 1) (H' := H + 10) (T' := 3 * (1 + T)) (Nat.le_refl _) (Nat.le_refl _) (by omega)
  have ht := hf'.2.2.2
  have q1 := v_terms_l f (by have := hf'.2.1; omega) (by omega)
  have hb : -4611686018427387904 ≤ 1 + (drN s 3 : Int) ∧ 1 + (drN s 3 : Int) < 4611686018427387904 := by omega
  have hl := enc_len f
  have e0 : encF .nil = [] := rfl
  rw [e0] at e
  have en : ((n + 1 : Nat) : Int) = (n : Int) + 1 := rfl
  rw [fo_eq, en]
  by_cases z : (Ft.trm f : Int) ≤ 12
  · refine ⟨f, s', ?_, hf'⟩
    rw [e_fnOf]
    simp [e, hb, q1, z, fD]
  · refine ⟨flF f, s', ?_, fl_fb f hf'⟩
    have q2 := fl_loop (.io (stD s')) (.val (.int ((n : Int) + 1))) (.val (.list (encF f))) y3 f [] (by simpa using (by omega : (encF f).length ≤ LINE))
    rw [e_fnOf]
    simp [e, hb, q1, z, fD, h4, h5, h6, h7, q2]
theorem forest3 : FoS F__law_forest 3 (FB 3 30 39) := by
  have h1 := fo_main (R__law_forest 5) 0 0 0 0 (by decide) (by decide) (fun h => by omega)
  have h2 := fo_main (R__law_forest 6) 1 1 10 3 (by decide) (by decide) (fun _ => h1)
  exact fo_main (R__law_forest 7) 2 2 20 12 (by decide) (by decide) (fun _ => h2)
/-! deep ones -/
def deB : SS := seqS (parV [4, 5, 6] [(callE F__law_draw [] [.b (var 0), .v (cst (.int 4))]), (ixE (lstE [(cst (.int 0)), (cst (.int 1)), (cst (.int 1)), (cst (.int 2))]) (callE F__law_draw [] [.b (var 0), .v (cst (.int 4))])), (ixE (lstE [(cst (.int 1)), (cst (.int 1)), (op1 gNeg (cst (.int 1)))]) (callE F__law_draw [] [.b (var 0), .v (cst (.int 3))]))]) (seqS (asgS 3 (ifE (asB (op2 gEq (callE F__law_draw [] [.b (var 0), .v (cst (.int 3))]) (cst (.int 0)))) (tupE [(tupE [(callE F__law_draw [] [.b (var 0), .v (cst (.int 3))]), (callE F__law_draw [] [.b (var 0), .v (cst (.int 2))]), (cst (.int 1)), (tupE [])])]) (tupE []))) (asgS 1 (op2 gAddA (tupE [(tupE [(var 4), (var 5), (var 6), (var 1)])]) (var 3))))
theorem de_body (s : St) (f : Fo) (K H T : Nat) (hf : FB K H T f) (x2 x3 x4 x5 x6 : Cell) (h3 : isIo (some x3) = false) (h4 : isIo (some x4) = false) (h5 : isIo (some x5) = false) (h6 : isIo (some x6) = false) :
    ∃ s' f' y3 y4 y5 y6, isIo (some y3) = false ∧ isIo (some y4) = false ∧ isIo (some y5) = false ∧ isIo (some y6) = false ∧ FB (K + 1) (H + 4) (T + 2) f' ∧ deB [.io (stD s), .val (fD f), x2, x3, x4, x5, x6] = .nx [.io (stD s'), .val (fD f'), x2, y3, y4, y5, y6] := by
  have ba := dr4 s
  have b2 := pb4 (drS s 4)
  have b3 := pb5 (drS (drS s 4) 4)
  have p2 := pa4 (drS s 4)
  have p3 := pa5 (drS (drS s 4) 4)
  have q1 := draw0 s 4 [.val (fD f), x2, x3, x4, x5, x6] (by decide) (by decide)
  have q2 := draw0 (drS s 4) 4 [.val (fD f), x2, x3, x4, x5, x6] (by decide) (by decide)
  have q3 := draw0 (drS (drS s 4) 4) 3 [.val (fD f), x2, x3, x4, x5, x6] (by decide) (by decide)
  generalize drN s 4 = a at *
  generalize drS s 4 = s2 at *
  generalize pkN [0, 1, 1, 2] (drN s2 4) = d at *
  generalize drS s2 4 = s3 at *
  generalize pkI [1, 1, -1] (drN s3 3) = m at *
  have q4 := draw0 (drS s3 3) 3 [.val (fD f), x2, x3, .val (.int a), .val (.int d), .val (.int m)] (by decide) (by decide)
  have q5 := draw0 (drS (drS s3 3) 3) 3 [.val (fD f), x2, x3, .val (.int a), .val (.int d), .val (.int m)] (by decide) (by decide)
  have q6 := draw0 (drS (drS (drS s3 3) 3) 3) 2 [.val (fD f), x2, x3, .val (.int a), .val (.int d), .val (.int m)] (by decide) (by decide)
  obtain ⟨f1, f2, f3, f4⟩ := hf
  have hL : 2 ≤ LINE := by unfold LINE; omega
  have hL1 : 1 ≤ LINE := by unfold LINE; omega
  have bx := dr3 (drS (drS s3 3) 3)
  have by' := drN_lt (drS (drS (drS s3 3) 3) 3) 2 (by decide)
  by_cases z : drN (drS s3 3) 3 = 0
  · refine ⟨drS (drS (drS (drS s3 3) 3) 3) 2, .cons a d m f (.cons (drN (drS (drS s3 3) 3) 3) (drN (drS (drS (drS s3 3) 3) 3) 2) 1 .nil .nil), .val (.tuple [.tuple [.int (drN (drS (drS s3 3) 3) 3), .int (drN (drS (drS (drS s3 3) 3) 3) 2), .int 1, .tuple []]]), .val (.int a), .val (.int d), .val (.int m), rfl, rfl, rfl, rfl, ⟨⟨b2, b3, f1, ?_, .inr ⟨by decide, by decide⟩, trivial, trivial⟩, ?_, ?_, ?_⟩, ?_⟩
    · have : drN (drS (drS (drS s3 3) 3) 3) 2 = 0 ∨ drN (drS (drS (drS s3 3) 3) 3) 2 = 1 := by omega
      rcases this with h | h
      · exact .inl h
      · right; rw [h]; decide
    · show max (Ft.dep f + 1) (max (0 + 1) 0) ≤ _; omega
    · show max (Ft.hgt f + a + 1) (max (0 + drN (drS (drS s3 3) 3) 3 + 1) 0) ≤ _; omega
    · show 1 + Ft.trm f + (1 + 0 + 0) ≤ _; omega
    · unfold deB
      simp [q1, q2, q3, q4, q5, q6, p2, p3, h3, h4, h5, h6, z, hL]
      rfl
  · refine ⟨drS (drS s3 3) 3, .cons a d m f .nil, .val (.tuple []), .val (.int a), .val (.int d), .val (.int m), rfl, rfl, rfl, rfl, ⟨⟨b2, b3, f1, trivial⟩, ?_, ?_, ?_⟩, ?_⟩
    · show max (Ft.dep f + 1) 0 ≤ _; omega
    · show max (Ft.hgt f + a + 1) 0 ≤ _; omega
    · show 1 + Ft.trm f + 0 ≤ _; omega
    · unfold deB
      simp [q1, q2, q3, q4, p2, p3, h3, h4, h5, h6, z, hL1]
      rfl
theorem de_loop : ∀ (ds : List D) (s : St) (f : Fo) (K H T : Nat) (x2 x3 x4 x5 x6 : Cell), FB K H T f → isIo (some x2) = false → isIo (some x3) = false → isIo (some x4) = false → isIo (some x5) = false → isIo (some x6) = false →
    ∃ s' f' y2 y3 y4 y5 y6, FB (K + ds.length) (H + 4 * ds.length) (T + 2 * ds.length) f' ∧ forL (tgN 2) deB ds [.io (stD s), .val (fD f), x2, x3, x4, x5, x6] = .nx [.io (stD s'), .val (fD f'), y2, y3, y4, y5, y6]
  | [], s, f, K, H, T, x2, x3, x4, x5, x6, hf, h2, h3, h4, h5, h6 => ⟨s, f, x2, x3, x4, x5, x6, hf, rfl⟩
  | d :: ds, s, f, K, H, T, x2, x3, x4, x5, x6, hf, h2, h3, h4, h5, h6 => by
    obtain ⟨s1, f1, y3, y4, y5, y6, g3, g4, g5, g6, hf1, e1⟩ := de_body s f K H T hf (.val d) x3 x4 x5 x6 h3 h4 h5 h6
    obtain ⟨s2, f2, w2, w3, w4, w5, w6, hf2, e2⟩ := de_loop ds s1 f1 (K + 1) (H + 4) (T + 2) (.val d) y3 y4 y5 y6 hf1 rfl g3 g4 g5 g6
    refine ⟨s2, f2, w2, w3, w4, w5, w6, hf2.mono (by rw [List.length_cons]; omega) (by rw [List.length_cons]; omega) (by rw [List.length_cons]; omega), ?_⟩
    have ht : tgN 2 d [.io (stD s), .val (fD f), x2, x3, x4, x5, x6] = some [.io (stD s), .val (fD f), .val d, x3, x4, x5, x6] := by simp [h2]
    unfold forL
    rw [ht]
    dsimp only
    rw [e1]
    exact e2
theorem de_eq : F__law_deep = fnOf 1 7 (seqS (asgS 1 (tupE [])) (seqS (forS (rngI1 (cst (.int 4))) (tgN 2) deB) (retS (var 1)))) := rfl
theorem deep_ff (s : St) : ∃ f s', FB 4 16 8 f ∧ F__law_deep [.io (stD s)] = .ok (.val (fD f)) [.io (stD s')] := by
  obtain ⟨s', f, y2, y3, y4, y5, y6, hf, e⟩ := de_loop (rng 0 (4 : Int).toNat) s .nil 0 0 0 .no .no .no .no .no ⟨trivial, Nat.le_refl _, Nat.le_refl _, Nat.le_refl _⟩ rfl rfl rfl rfl rfl
  refine ⟨f, s', hf, ?_⟩
  have e0 : fD .nil = .tuple [] := rfl
  rw [e0] at e
  have hc : -4611686018427387904 ≤ (4 : Int) ∧ (4 : Int) < 4611686018427387904 := by decide
  rw [de_eq, e_fnOf]
  simp only [List.replicate, List.cons_append, List.nil_append, e_seqS, e_asgS, e_tupE, e_vsN, e_bind, e_frzBV, e_doS, e_setT, List.getElem?_cons_zero, List.getElem?_cons_succ, e_ioNo, Bool.false_eq_true, if_false, List.set_cons_succ, List.set_cons_zero, e_ceT, e_toNx, e_forS, e_rng1, e_vl, e_cst, e_frzV, if_pos hc, e, e_retS, e_var]
  rfl
/-! the top again, the cut -/
theorem law_top_eq : ∀ n : Nat, R__law_top n = R_top_in n
  | 0 => rfl
  | n + 1 => by
    show S__law_top (R__law_top n) = S_top_in (R_top_in n)
    rw [law_top_eq n]
    rfl
theorem v_law_top (f : Fo) (h : Ft.dep f ≤ 7) : gv F__law_top [fD f] = .ok (.val (hN (topF f))) := by
  show gv (R__law_top 8) _ = _
  rw [law_top_eq]
  exact v_top f h
theorem cut_ff (s : St) (f : Fo) (h : Ft.dep f ≤ 7) : ∃ (cut : He) (s' : St), cut.1 ≤ (topF f).1 ∧ F__law_cut [.io (stD s), .val (fD f)] = .ok (.val (hN cut)) [.io (stD s'), .val (fD f)] := by
  have q := v_law_top f h
  have hb := (Ft.top_bd f).1
  unfold hN at q
  generalize topF f = t at *
  have hc := drN_lt s ((t.1 : Int) + 1) (by omega)
  have q1 := draw0 s ((t.1 : Int) + 1) [.val (fD f), .no, .val (.int t.1), .val (.int t.2)] (by omega) (by omega)
  generalize drS s ((t.1 : Int) + 1) = s1 at *
  generalize drN s ((t.1 : Int) + 1) = b at *
  have b6 := pb6 s1
  have q2 := draw0 s1 4 [.val (fD f), .val (.int b), .val (.int t.1), .val (.int t.2)] (by decide) (by decide)
  have p6 := pa6 s1
  have q3 := draw0 (drS s1 4) (pkN [2, 6, 16, 401] (drN s1 4) : Nat) [.val (fD f), .val (.int b), .val (.int t.1), .val (.int t.2)] b6.1 (by omega)
  generalize pkN [2, 6, 16, 401] (drN s1 4) = w at *
  refine ⟨(b, drN (drS s1 4) (w : Int)), drS (drS s1 4) (w : Int), by show b ≤ t.1; omega, ?_⟩
  rw [F__law_cut, S__law_cut, e_fnOf]
  simp [q, q1, q2, q3, p6, hN]
end Wk
set_option Elab.async false
set_option linter.all false
set_option maxRecDepth 100000
set_option maxHeartbeats 4000000
namespace Wk
open PySem PySem.Spec Eng Rd
open Ft (Fo He topF maxH over Sd upF rs leH strands tabS nod FOk)
theorem begin_v (ns : List Int) (h : ns.length ≤ 63) : ∃ s, gv F__law_begin [.list (ns.map .int)] = .ok (.own (stD s)) := by
  have hc : cutD (iL ns) none (some 63) = iL ns := by
    have := cut_to (iL ns) 63
    rw [List.take_of_length_le (by rw [iL_len]; exact h)] at this
    exact this
  have q : lcL (tgN 2) yesB (ifE (asB (op2 gGe (var 2) (cst (.int 0)))) (op2 gMul (cb1 gInt (var 2)) (cst (.int 2))) (op2 gSub (op2 gMul (op1 gNeg (cb1 gInt (var 2))) (cst (.int 2))) (cst (.int 1)))) [2] (iL ns) [] [.val (.list (iL ns)), .no, .no] = .ok (iL (ns.map fun x => if 0 ≤ x then x * 2 else -x * 2 - 1)) [.val (.list (iL ns)), .no, .no] := by
    have e : iL (ns.map fun x => if 0 ≤ x then x * 2 else -x * 2 - 1) = ns.map fun x => PyData.int (if 0 ≤ x then x * 2 else -x * 2 - 1) := by
      unfold iL; rw [List.map_map]; rfl
    rw [e]
    refine lcL_mapT PyData.int _ (fun _ => True) (fun x _ => ?_) ns (fun _ _ => trivial) (by unfold LINE; omega)
    have m1 := mulR x 2 (by decide)
    have m2 := mulR (-x) 2 (by decide)
    refine ⟨[.val (.list (iL ns)), .no, .val (.int x)], [.val (.list (iL ns)), .no, .val (.int x)], by simp, ?_, by simp, by simp⟩
    by_cases z : 0 ≤ x
    · simp [z, m1]
    · simp [z, m2]
  generalize (ns.map fun x => if 0 ≤ x then x * 2 else -x * 2 - 1) = cs at q
  refine ⟨⟨cs, 0, 0, 0, cs.sum % 1000003⟩, ?_⟩
  have qs := sum_iL cs
  have em : mergeD [] [(.inr "cells", .list (iL cs)), (.inr "at", .int 0), (.inr "left", .int 0), (.inr "count", .int 0), (.inr "sum", .int (cs.sum % 1000003))] = stK cs 0 0 0 (cs.sum % 1000003) := by
    unfold mergeD stK
    simp [dput, sn_cells_at, sn_cells_left, sn_cells_count, sn_cells_sum, sn_at_left, sn_at_count, sn_at_sum, sn_left_count, sn_left_sum, sn_count_sum]
    rfl
  show gv F__law_begin [.list (iL ns)] = _
  rw [F__law_begin, S__law_begin, gv1_3]
  simp [hc, q, qs, stD, em]
/-! what the law looks at -/
theorem tab_okF {f : Fo} (h : FOk f) : TabOk (tabS (strands f)) := ⟨Ft.tab_can _ (Ft.strands_ok h), by have := Ft.tab_len _ (Ft.strands_ok h); omega, Ft.tab_fit _ (Ft.strands_ok h)⟩
theorem tab_upF {f : Fo} (h : FOk f) (c : He) (hp : FOk (upF c f)) : tabS (strands (upF c f)) = tailT (tabS (strands f)) c.1 c.2 := by
  have hU := Ft.strands_ok hp
  rw [Ft.strands_up] at hU ⊢
  exact Ft.tab_up _ (Ft.strands_ok h) c hU
theorem num_upF {f : Fo} (h : FOk f) (c : He) (hp : FOk (upF c f)) (o : He) : numT (tabS (strands (upF c f))) o.1 o.2 = numT (tabS (strands f)) (Ft.sumH c o).1 (Ft.sumH c o).2 := by
  have hU := Ft.strands_ok hp
  rw [Ft.tab_num _ (Ft.strands_ok h), Ft.tab_num _ hU, Ft.strands_up, Ft.cnt_up]
theorem v_number_hN (t : Tab) (h : TabOk t) (o : He) : gv F_number_at [tD t, hN o] = .ok (.val (.int (numT t o.1 o.2))) := v_number_at t h o.1 o.2
noncomputable def riB : SS := seqS (asgS 5 (tupE [(callE F__law_draw [] [.b (var 0), .v (cst (.int 3))]), (callE F__law_draw [] [.b (var 0), .v (cst (.int 16))])])) (seqS (ifS (asB (op2 gNe (callE F_nodes_at [] [.v (var 3), .v (var 5)]) (callE F_nodes_at [] [.v (var 1), .v (callE F_sum_of [] [.v (var 2), .v (var 5)])]))) (retS (cst (.bool false))) nxS) (ifS (asB (op2 gNe (callE F_number_at [] [.v (callE F_table_of [] [.v (var 3)]), .v (var 5)]) (callE F_number_at [] [.v (callE F_table_of [] [.v (var 1)]), .v (callE F_sum_of [] [.v (var 2), .v (var 5)])]))) (retS (cst (.bool false))) nxS))
theorem ri_body (s : St) (f : Fo) (c : He) (h : FOk f) (hp : FOk (upF c f)) (x4 x5 : Cell) (h5 : isIo (some x5) = false) :
    ∃ s' y5, isIo (some y5) = false ∧ riB [.io (stD s), .val (fD f), .val (hN c), .val (fD (upF c f)), x4, x5] = .nx [.io (stD s'), .val (fD f), .val (hN c), .val (fD (upF c f)), x4, y5] := by
  generalize ho : ((drN s 3, drN (drS s 3) 16) : He) = o
  have eo : hN o = .tuple [.int (drN s 3), .int (drN (drS s 3) 16)] := by rw [← ho]; rfl
  have q1 := v_nodes_at (upF c f) o hp
  have q2 := v_nodes_at f (Ft.sumH c o) h
  have q3 := v_sum_hN c o
  have q4 := v_table_of f h
  have q5 := v_table_of (upF c f) hp
  have q6 := v_number_hN _ (tab_okF hp) o
  have q7 := v_number_hN _ (tab_okF h) (Ft.sumH c o)
  rw [Ft.nod_up] at q1
  rw [num_upF h c hp] at q6
  rw [eo] at q1 q3 q6
  refine ⟨drS (drS s 3) 16, .val (hN o), rfl, ?_⟩
  rw [eo]
  have d1 := draw0 s 3 [.val (fD f), .val (hN c), .val (fD (upF c f)), x4, x5] (by decide) (by decide)
  have d2 := draw0 (drS s 3) 16 [.val (fD f), .val (hN c), .val (fD (upF c f)), x4, x5] (by decide) (by decide)
  generalize upF c f = p at *
  unfold riB
  simp [d1, d2, q1, q2, q3, q4, q5, q6, q7, h5]
theorem ri_loop (f : Fo) (c : He) (h : FOk f) (hp : FOk (upF c f)) : ∀ (ds : List D) (s : St) (x4 x5 : Cell), isIo (some x4) = false → isIo (some x5) = false →
    ∃ s' y4 y5, forL (tgN 4) riB ds [.io (stD s), .val (fD f), .val (hN c), .val (fD (upF c f)), x4, x5] = .nx [.io (stD s'), .val (fD f), .val (hN c), .val (fD (upF c f)), y4, y5]
  | [], s, x4, x5, h4, h5 => ⟨s, x4, x5, rfl⟩
  | d :: ds, s, x4, x5, h4, h5 => by
    obtain ⟨s1, y5, g5, e1⟩ := ri_body s f c h hp (.val d) x5 h5
    obtain ⟨s2, w4, w5, e2⟩ := ri_loop f c h hp ds s1 (.val d) y5 rfl g5
    refine ⟨s2, w4, w5, ?_⟩
    have ht : tgN 4 d [.io (stD s), .val (fD f), .val (hN c), .val (fD (upF c f)), x4, x5] = some [.io (stD s), .val (fD f), .val (hN c), .val (fD (upF c f)), .val d, x5] := by simp [h4]
    unfold forL
    rw [ht]
    dsimp only
    rw [e1]
    exact e2
theorem ri_eq : F__law_right = fnOf 4 6 (seqS (forS (rngI1 (cst (.int 3))) (tgN 4) riB) (retS (cst (.bool true)))) := rfl
theorem right_ff (s : St) (f : Fo) (c : He) (h : FOk f) (hp : FOk (upF c f)) : ∃ s' : St, F__law_right [.io (stD s), .val (fD f), .val (hN c), .val (fD (upF c f))] = .ok (.val (.bool true)) [.io (stD s'), .val (fD f), .val (hN c), .val (fD (upF c f))] := by
  obtain ⟨s', y4, y5, e⟩ := ri_loop f c h hp (rng 0 (3 : Int).toNat) s .no .no rfl rfl
  refine ⟨s', ?_⟩
  have hc : -4611686018427387904 ≤ (3 : Int) ∧ (3 : Int) < 4611686018427387904 := by decide
  rw [ri_eq, e_fnOf]
  simp only [List.replicate, List.cons_append, List.nil_append, e_seqS, e_forS, e_rng1, e_vl, e_cst, e_bind, e_frzV, if_pos hc, e_doS, e, e_retS]
  rfl
/-! sizes -/
theorem sum_to (g : Nat → Int) : ∀ k : Nat, ((List.range k).map g).sum = Ft.sumTo k g
  | 0 => rfl
  | k + 1 => by
    rw [List.range_succ, List.map_append, List.sum_append, sum_to g k]
    show Ft.sumTo k g + (g k + 0) = Ft.sumTo k g + g k
    rw [Int.add_zero]
theorem pos_shp : ∀ f : Fo, Ft.shp f → Ft.pos f = true
  | .nil, _ => rfl
  | .cons a d m i r, ⟨s1, s2, s3, s4⟩ => by
    show ((decide (m = -1) || decide (1 ≤ m)) && (Ft.pos i && Ft.pos r)) = true
    rw [pos_shp i s3, pos_shp r s4]
    rcases s2 with z | z
    · simp [z]
    · simp [z.1]
theorem size_cut (f : Fo) (c : He) (hs : Ft.shp f) (hf : Ft.fin f = true) (hh : Ft.hgt f ≤ 99) (hc : c.1 ≤ (topF f).1) :
    Ft.szF (upF c f) = Ft.szF f - Ft.sumTo (min c.2 99) (fun n => nod (0, n) f 0) := by
  have hp := pos_shp f hs
  have e0 := Ft.fin_top f hf
  obtain ⟨c1, c2⟩ := c
  have e1 : c1 = 0 := by dsimp only at hc; omega
  subst e1
  have q := Ft.size_sum (c := c2) f hf hp
  have hb := (Ft.top_bd f).2
  have e2 : (fun n => nod (0, n) f 0) = Ft.nz f := by
    funext n
    rw [Ft.nod_fin f 0 hf hp (Int.le_refl _), Int.zero_add]
  rw [e2]
  have e3 : Ft.sumTo (min c2 99) (Ft.nz f) = Ft.sumTo c2 (Ft.nz f) := by
    by_cases z : c2 ≤ 99
    · rw [Nat.min_eq_left z]
    · rw [Nat.min_eq_right (by omega)]
      exact (Ft.sumTo_more (b := 99) (fun n hn => Ft.nz_top f hf (by omega)) c2 (by omega)).symm
  dsimp only
  rw [e3]
  omega
theorem be_lc (f : Fo) (h : FOk f) (c0 c1 c2 c4 c5 c6 c7 : Cell) (k : Nat) (hk : k ≤ 99) :
    lcL (tgN 8) yesB (callE F_nodes_at [] [.v (var 3), .v (tupE [(cst (.int 0)), (var 8)])]) [8] (rng 0 k) [] [c0, c1, c2, .val (fD f), c4, c5, c6, c7, .no] = .ok ((List.range k).map fun n => PyData.int (nod (0, n) f 0)) [c0, c1, c2, .val (fD f), c4, c5, c6, c7, .no] := by
  have hr : rng 0 k = (List.range k).map fun i => PyData.int ((i : Nat) : Int) := by
    unfold rng
    refine List.map_congr_left fun i _ => ?_
    rw [Int.zero_add]
  rw [hr]
  refine lcL_mapT (fun i : Nat => PyData.int (i : Int)) (fun n => PyData.int (nod (0, n) f 0)) (fun _ => True) (fun n _ => ?_) _ (fun _ _ => trivial) (by rw [List.length_range]; unfold LINE; omega)
  have q := v_nodes_at f (0, n) h
  have e : hN (0, n) = .tuple [.int 0, .int n] := rfl
  rw [e] at q
  exact ⟨[c0, c1, c2, .val (fD f), c4, c5, c6, c7, .val (.int n)], [c0, c1, c2, .val (fD f), c4, c5, c6, c7, .val (.int n)], by simp, by simp [q], by simp, by simp⟩
end Wk
set_option Elab.async false
set_option linter.all false
set_option maxRecDepth 100000
set_option maxHeartbeats 0
namespace Wk
open PySem PySem.Spec PyProof.Rows L2 Eng
section
variable {P : Program} {w : World} {K : PySem.W.Frag} {mg : Str → Option Value} {base : Heap} {h : Heap}
theorem T_is_integer (X : K.In h) (G : h.Ns mainGlobals mg) (c : He.SaysD fa fn K) : DefT K mg "is_integer" ["value"] (defArgs (top 7)) (defBody (top 7)) (defScope (top 7)) [] [] := by
  obtain ⟨fd, F⟩ := c.def_ 0 (d := d_is_integer) rfl
  exact ⟨fd, [], [], F, He.glo_ok X G (c.fact 0 (f := .glo "is_integer") rfl), FunD.bindsN F fun _ _ _ _ _ _ us hl => match us, hl with | [_], _ => rfl, .nil, fun _ => .nil⟩
theorem T_is_natural (X : K.In h) (G : h.Ns mainGlobals mg) (c : He.SaysD fa fn K) : DefT K mg "is_natural" ["value", "least"] (defArgs (top 8)) (defBody (top 8)) (defScope (top 8)) [.int 0] [] := by
  obtain ⟨fd, F⟩ := c.def_ 1 (d := d_is_natural) rfl
  obtain ⟨ds, hv, hb⟩ := FunD.binds1 (ps := ["value", "least"]) F 2 1 (by intro z; cases z) rfl fun T kV doc pm an cdv ct us its hl hi => match us, its, hl, hi with | [_, _], [_], _, _ => ⟨_, rfl, rfl⟩
  exact ⟨fd, _, ds, F, He.glo_ok X G (c.fact 1 (f := .glo "is_natural") rfl), hb, hv, fun _ => .nil⟩
theorem T_is_natural_d1 (X : K.In h) (G : h.Ns mainGlobals mg) (c : He.SaysD fa fn K) : DefT K mg "is_natural" ["value", "least"] (defArgs (top 8)) (defBody (top 8)) (defScope (top 8)) [.int 0] [.int 0] := by
  obtain ⟨fd, F⟩ := c.def_ 1 (d := d_is_natural) rfl
  obtain ⟨ds, hv, hb⟩ := FunD.binds1 (ps := ["value", "least"]) F 1 0 (by intro z; cases z) rfl fun T kV doc pm an cdv ct us its hl hi => match us, its, hl, hi with | [_], [_], _, _ => ⟨_, rfl, rfl⟩
  exact ⟨fd, _, ds, F, He.glo_ok X G (c.fact 1 (f := .glo "is_natural") rfl), hb, hv, fun _ => .cons (den_int _) (.nil)⟩
theorem T_is_height (X : K.In h) (G : h.Ns mainGlobals mg) (c : He.SaysD fa fn K) : DefT K mg "is_height" ["value"] (defArgs (top 10)) (defBody (top 10)) (defScope (top 10)) [] [] := by
  obtain ⟨fd, F⟩ := c.def_ 2 (d := d_is_height) rfl
  exact ⟨fd, [], [], F, He.glo_ok X G (c.fact 2 (f := .glo "is_height") rfl), FunD.bindsN F fun _ _ _ _ _ _ us hl => match us, hl with | [_], _ => rfl, .nil, fun _ => .nil⟩
theorem T_check_height (X : K.In h) (G : h.Ns mainGlobals mg) (c : He.SaysD fa fn K) : DefT K mg "check_height" ["value"] (defArgs (top 11)) (defBody (top 11)) (defScope (top 11)) [] [] := by
  obtain ⟨fd, F⟩ := c.def_ 3 (d := d_check_height) rfl
  exact ⟨fd, [], [], F, He.glo_ok X G (c.fact 3 (f := .glo "check_height") rfl), FunD.bindsN F fun _ _ _ _ _ _ us hl => match us, hl with | [_], _ => rfl, .nil, fun _ => .nil⟩
theorem T_sum_in (X : K.In h) (G : h.Ns mainGlobals mg) (c : He.SaysD fa fn K) : DefT K mg "sum_in" ["height", "other"] (defArgs (top 12)) (defBody (top 12)) (defScope (top 12)) [] [] := by
  obtain ⟨fd, F⟩ := c.def_ 4 (d := d_sum_in) rfl
  exact ⟨fd, [], [], F, He.glo_ok X G (c.fact 4 (f := .glo "sum_in") rfl), FunD.bindsN F fun _ _ _ _ _ _ us hl => match us, hl with | [_, _], _ => rfl, .nil, fun _ => .nil⟩
theorem T_sum_of (X : K.In h) (G : h.Ns mainGlobals mg) (c : He.SaysD fa fn K) : DefT K mg "sum_of" ["height", "other"] (defArgs (top 13)) (defBody (top 13)) (defScope (top 13)) [] [] := by
  obtain ⟨fd, F⟩ := c.def_ 5 (d := d_sum_of) rfl
  exact ⟨fd, [], [], F, He.glo_ok X G (c.fact 5 (f := .glo "sum_of") rfl), FunD.bindsN F fun _ _ _ _ _ _ us hl => match us, hl with | [_, _], _ => rfl, .nil, fun _ => .nil⟩
theorem T_are_numbers (X : K.In h) (G : h.Ns mainGlobals mg) (c : He.SaysD fa fn K) : DefT K mg "are_numbers" ["value"] (defArgs (top 16)) (defBody (top 16)) (defScope (top 16)) [] [] := by
  obtain ⟨fd, F⟩ := c.def_ 6 (d := d_are_numbers) rfl
  exact ⟨fd, [], [], F, He.glo_ok X G (c.fact 6 (f := .glo "are_numbers") rfl), FunD.bindsN F fun _ _ _ _ _ _ us hl => match us, hl with | [_], _ => rfl, .nil, fun _ => .nil⟩
theorem T_is_block (X : K.In h) (G : h.Ns mainGlobals mg) (c : He.SaysD fa fn K) : DefT K mg "is_block" ["value"] (defArgs (top 17)) (defBody (top 17)) (defScope (top 17)) [] [] := by
  obtain ⟨fd, F⟩ := c.def_ 7 (d := d_is_block) rfl
  exact ⟨fd, [], [], F, He.glo_ok X G (c.fact 7 (f := .glo "is_block") rfl), FunD.bindsN F fun _ _ _ _ _ _ us hl => match us, hl with | [_], _ => rfl, .nil, fun _ => .nil⟩
theorem T_are_blocks (X : K.In h) (G : h.Ns mainGlobals mg) (c : He.SaysD fa fn K) : DefT K mg "are_blocks" ["value"] (defArgs (top 18)) (defBody (top 18)) (defScope (top 18)) [] [] := by
  obtain ⟨fd, F⟩ := c.def_ 8 (d := d_are_blocks) rfl
  exact ⟨fd, [], [], F, He.glo_ok X G (c.fact 8 (f := .glo "are_blocks") rfl), FunD.bindsN F fun _ _ _ _ _ _ us hl => match us, hl with | [_], _ => rfl, .nil, fun _ => .nil⟩
theorem T_shortest_round (X : K.In h) (G : h.Ns mainGlobals mg) (c : He.SaysD fa fn K) : DefT K mg "shortest_round" ["numbers"] (defArgs (top 19)) (defBody (top 19)) (defScope (top 19)) [] [] := by
  obtain ⟨fd, F⟩ := c.def_ 9 (d := d_shortest_round) rfl
  exact ⟨fd, [], [], F, He.glo_ok X G (c.fact 9 (f := .glo "shortest_round") rfl), FunD.bindsN F fun _ _ _ _ _ _ us hl => match us, hl with | [_], _ => rfl, .nil, fun _ => .nil⟩
theorem T_block_in (X : K.In h) (G : h.Ns mainGlobals mg) (c : He.SaysD fa fn K) : DefT K mg "block_in" ["first", "numbers"] (defArgs (top 20)) (defBody (top 20)) (defScope (top 20)) [] [] := by
  obtain ⟨fd, F⟩ := c.def_ 10 (d := d_block_in) rfl
  exact ⟨fd, [], [], F, He.glo_ok X G (c.fact 10 (f := .glo "block_in") rfl), FunD.bindsN F fun _ _ _ _ _ _ us hl => match us, hl with | [_, _], _ => rfl, .nil, fun _ => .nil⟩
theorem T_table_in (X : K.In h) (G : h.Ns mainGlobals mg) (c : He.SaysD fa fn K) : DefT K mg "table_in" ["blocks"] (defArgs (top 21)) (defBody (top 21)) (defScope (top 21)) [] [] := by
  obtain ⟨fd, F⟩ := c.def_ 11 (d := d_table_in) rfl
  exact ⟨fd, [], [], F, He.glo_ok X G (c.fact 11 (f := .glo "table_in") rfl), FunD.bindsN F fun _ _ _ _ _ _ us hl => match us, hl with | [_], _ => rfl, .nil, fun _ => .nil⟩
theorem T_is_table (X : K.In h) (G : h.Ns mainGlobals mg) (c : He.SaysD fa fn K) : DefT K mg "is_table" ["value"] (defArgs (top 22)) (defBody (top 22)) (defScope (top 22)) [] [] := by
  obtain ⟨fd, F⟩ := c.def_ 12 (d := d_is_table) rfl
  exact ⟨fd, [], [], F, He.glo_ok X G (c.fact 12 (f := .glo "is_table") rfl), FunD.bindsN F fun _ _ _ _ _ _ us hl => match us, hl with | [_], _ => rfl, .nil, fun _ => .nil⟩
theorem T_check_table (X : K.In h) (G : h.Ns mainGlobals mg) (c : He.SaysD fa fn K) : DefT K mg "check_table" ["value"] (defArgs (top 23)) (defBody (top 23)) (defScope (top 23)) [] [] := by
  obtain ⟨fd, F⟩ := c.def_ 13 (d := d_check_table) rfl
  exact ⟨fd, [], [], F, He.glo_ok X G (c.fact 13 (f := .glo "check_table") rfl), FunD.bindsN F fun _ _ _ _ _ _ us hl => match us, hl with | [_], _ => rfl, .nil, fun _ => .nil⟩
theorem T_block_number (X : K.In h) (G : h.Ns mainGlobals mg) (c : He.SaysD fa fn K) : DefT K mg "block_number" ["block", "n"] (defArgs (top 24)) (defBody (top 24)) (defScope (top 24)) [] [] := by
  obtain ⟨fd, F⟩ := c.def_ 14 (d := d_block_number) rfl
  exact ⟨fd, [], [], F, He.glo_ok X G (c.fact 14 (f := .glo "block_number") rfl), FunD.bindsN F fun _ _ _ _ _ _ us hl => match us, hl with | [_, _], _ => rfl, .nil, fun _ => .nil⟩
theorem T_block_at (X : K.In h) (G : h.Ns mainGlobals mg) (c : He.SaysD fa fn K) : DefT K mg "block_at" ["table", "k"] (defArgs (top 25)) (defBody (top 25)) (defScope (top 25)) [] [] := by
  obtain ⟨fd, F⟩ := c.def_ 15 (d := d_block_at) rfl
  exact ⟨fd, [], [], F, He.glo_ok X G (c.fact 15 (f := .glo "block_at") rfl), FunD.bindsN F fun _ _ _ _ _ _ us hl => match us, hl with | [_, _], _ => rfl, .nil, fun _ => .nil⟩
theorem T_number_in (X : K.In h) (G : h.Ns mainGlobals mg) (c : He.SaysD fa fn K) : DefT K mg "number_in" ["table", "height"] (defArgs (top 26)) (defBody (top 26)) (defScope (top 26)) [] [] := by
  obtain ⟨fd, F⟩ := c.def_ 16 (d := d_number_in) rfl
  exact ⟨fd, [], [], F, He.glo_ok X G (c.fact 16 (f := .glo "number_in") rfl), FunD.bindsN F fun _ _ _ _ _ _ us hl => match us, hl with | [_, _], _ => rfl, .nil, fun _ => .nil⟩
theorem T_number_at (X : K.In h) (G : h.Ns mainGlobals mg) (c : He.SaysD fa fn K) : DefT K mg "number_at" ["table", "height"] (defArgs (top 27)) (defBody (top 27)) (defScope (top 27)) [] [] := by
  obtain ⟨fd, F⟩ := c.def_ 17 (d := d_number_at) rfl
  exact ⟨fd, [], [], F, He.glo_ok X G (c.fact 17 (f := .glo "number_at") rfl), FunD.bindsN F fun _ _ _ _ _ _ us hl => match us, hl with | [_, _], _ => rfl, .nil, fun _ => .nil⟩
theorem T_plus_number (X : K.In h) (G : h.Ns mainGlobals mg) (c : He.SaysD fa fn K) : DefT K mg "plus_number" ["one", "other"] (defArgs (top 28)) (defBody (top 28)) (defScope (top 28)) [] [] := by
  obtain ⟨fd, F⟩ := c.def_ 18 (d := d_plus_number) rfl
  exact ⟨fd, [], [], F, He.glo_ok X G (c.fact 18 (f := .glo "plus_number") rfl), FunD.bindsN F fun _ _ _ _ _ _ us hl => match us, hl with | [_, _], _ => rfl, .nil, fun _ => .nil⟩
theorem T_spans_of (X : K.In h) (G : h.Ns mainGlobals mg) (c : He.SaysD fa fn K) : DefT K mg "spans_of" ["one", "other"] (defArgs (top 29)) (defBody (top 29)) (defScope (top 29)) [] [] := by
  obtain ⟨fd, F⟩ := c.def_ 19 (d := d_spans_of) rfl
  exact ⟨fd, [], [], F, He.glo_ok X G (c.fact 19 (f := .glo "spans_of") rfl), FunD.bindsN F fun _ _ _ _ _ _ us hl => match us, hl with | [_, _], _ => rfl, .nil, fun _ => .nil⟩
theorem T_unlike_in (X : K.In h) (G : h.Ns mainGlobals mg) (c : He.SaysD fa fn K) : DefT K mg "unlike_in" ["table", "other"] (defArgs (top 30)) (defBody (top 30)) (defScope (top 30)) [] [] := by
  obtain ⟨fd, F⟩ := c.def_ 20 (d := d_unlike_in) rfl
  exact ⟨fd, [], [], F, He.glo_ok X G (c.fact 20 (f := .glo "unlike_in") rfl), FunD.bindsN F fun _ _ _ _ _ _ us hl => match us, hl with | [_, _], _ => rfl, .nil, fun _ => .nil⟩
theorem T_unlike_at (X : K.In h) (G : h.Ns mainGlobals mg) (c : He.SaysD fa fn K) : DefT K mg "unlike_at" ["table", "other"] (defArgs (top 31)) (defBody (top 31)) (defScope (top 31)) [] [] := by
  obtain ⟨fd, F⟩ := c.def_ 21 (d := d_unlike_at) rfl
  exact ⟨fd, [], [], F, He.glo_ok X G (c.fact 21 (f := .glo "unlike_at") rfl), FunD.bindsN F fun _ _ _ _ _ _ us hl => match us, hl with | [_, _], _ => rfl, .nil, fun _ => .nil⟩
theorem T_shifted (X : K.In h) (G : h.Ns mainGlobals mg) (c : He.SaysD fa fn K) : DefT K mg "shifted" ["block", "n"] (defArgs (top 32)) (defBody (top 32)) (defScope (top 32)) [] [] := by
  obtain ⟨fd, F⟩ := c.def_ 22 (d := d_shifted) rfl
  exact ⟨fd, [], [], F, He.glo_ok X G (c.fact 22 (f := .glo "shifted") rfl), FunD.bindsN F fun _ _ _ _ _ _ us hl => match us, hl with | [_, _], _ => rfl, .nil, fun _ => .nil⟩
theorem T_tail_in (X : K.In h) (G : h.Ns mainGlobals mg) (c : He.SaysD fa fn K) : DefT K mg "tail_in" ["table", "height"] (defArgs (top 33)) (defBody (top 33)) (defScope (top 33)) [] [] := by
  obtain ⟨fd, F⟩ := c.def_ 23 (d := d_tail_in) rfl
  exact ⟨fd, [], [], F, He.glo_ok X G (c.fact 23 (f := .glo "tail_in") rfl), FunD.bindsN F fun _ _ _ _ _ _ us hl => match us, hl with | [_, _], _ => rfl, .nil, fun _ => .nil⟩
theorem T_tail_of (X : K.In h) (G : h.Ns mainGlobals mg) (c : He.SaysD fa fn K) : DefT K mg "tail_of" ["table", "height"] (defArgs (top 34)) (defBody (top 34)) (defScope (top 34)) [] [] := by
  obtain ⟨fd, F⟩ := c.def_ 24 (d := d_tail_of) rfl
  exact ⟨fd, [], [], F, He.glo_ok X G (c.fact 24 (f := .glo "tail_of") rfl), FunD.bindsN F fun _ _ _ _ _ _ us hl => match us, hl with | [_, _], _ => rfl, .nil, fun _ => .nil⟩
theorem T_is_term (X : K.In h) (G : h.Ns mainGlobals mg) (c : He.SaysD fa fn K) : DefT K mg "is_term" ["value"] (defArgs (top 36)) (defBody (top 36)) (defScope (top 36)) [] [] := by
  obtain ⟨fd, F⟩ := c.def_ 25 (d := d_is_term) rfl
  exact ⟨fd, [], [], F, He.glo_ok X G (c.fact 25 (f := .glo "is_term") rfl), FunD.bindsN F fun _ _ _ _ _ _ us hl => match us, hl with | [_], _ => rfl, .nil, fun _ => .nil⟩
theorem T_is_forest (X : K.In h) (G : h.Ns mainGlobals mg) (c : He.SaysD fa fn K) : DefT K mg "is_forest" ["value"] (defArgs (top 37)) (defBody (top 37)) (defScope (top 37)) [] [] := by
  obtain ⟨fd, F⟩ := c.def_ 26 (d := d_is_forest) rfl
  exact ⟨fd, [], [], F, He.glo_ok X G (c.fact 26 (f := .glo "is_forest") rfl), FunD.bindsN F fun _ _ _ _ _ _ us hl => match us, hl with | [_], _ => rfl, .nil, fun _ => .nil⟩
theorem T_check_forest (X : K.In h) (G : h.Ns mainGlobals mg) (c : He.SaysD fa fn K) : DefT K mg "check_forest" ["value"] (defArgs (top 38)) (defBody (top 38)) (defScope (top 38)) [] [] := by
  obtain ⟨fd, F⟩ := c.def_ 27 (d := d_check_forest) rfl
  exact ⟨fd, [], [], F, He.glo_ok X G (c.fact 27 (f := .glo "check_forest") rfl), FunD.bindsN F fun _ _ _ _ _ _ us hl => match us, hl with | [_], _ => rfl, .nil, fun _ => .nil⟩
theorem T_top_in (X : K.In h) (G : h.Ns mainGlobals mg) (c : He.SaysD fa fn K) : DefT K mg "top_in" ["forest"] (defArgs (top 39)) (defBody (top 39)) (defScope (top 39)) [] [] := by
  obtain ⟨fd, F⟩ := c.def_ 28 (d := d_top_in) rfl
  exact ⟨fd, [], [], F, He.glo_ok X G (c.fact 28 (f := .glo "top_in") rfl), FunD.bindsN F fun _ _ _ _ _ _ us hl => match us, hl with | [_], _ => rfl, .nil, fun _ => .nil⟩
theorem T_top_height (X : K.In h) (G : h.Ns mainGlobals mg) (c : He.SaysD fa fn K) : DefT K mg "top_height" ["forest"] (defArgs (top 40)) (defBody (top 40)) (defScope (top 40)) [] [] := by
  obtain ⟨fd, F⟩ := c.def_ 29 (d := d_top_height) rfl
  exact ⟨fd, [], [], F, He.glo_ok X G (c.fact 29 (f := .glo "top_height") rfl), FunD.bindsN F fun _ _ _ _ _ _ us hl => match us, hl with | [_], _ => rfl, .nil, fun _ => .nil⟩
theorem T_times_number (X : K.In h) (G : h.Ns mainGlobals mg) (c : He.SaysD fa fn K) : DefT K mg "times_number" ["many", "number"] (defArgs (top 41)) (defBody (top 41)) (defScope (top 41)) [] [] := by
  obtain ⟨fd, F⟩ := c.def_ 30 (d := d_times_number) rfl
  exact ⟨fd, [], [], F, He.glo_ok X G (c.fact 30 (f := .glo "times_number") rfl), FunD.bindsN F fun _ _ _ _ _ _ us hl => match us, hl with | [_, _], _ => rfl, .nil, fun _ => .nil⟩
theorem T_size_in (X : K.In h) (G : h.Ns mainGlobals mg) (c : He.SaysD fa fn K) : DefT K mg "size_in" ["forest"] (defArgs (top 42)) (defBody (top 42)) (defScope (top 42)) [] [] := by
  obtain ⟨fd, F⟩ := c.def_ 31 (d := d_size_in) rfl
  exact ⟨fd, [], [], F, He.glo_ok X G (c.fact 31 (f := .glo "size_in") rfl), FunD.bindsN F fun _ _ _ _ _ _ us hl => match us, hl with | [_], _ => rfl, .nil, fun _ => .nil⟩
theorem T_size_of (X : K.In h) (G : h.Ns mainGlobals mg) (c : He.SaysD fa fn K) : DefT K mg "size_of" ["forest"] (defArgs (top 43)) (defBody (top 43)) (defScope (top 43)) [] [] := by
  obtain ⟨fd, F⟩ := c.def_ 32 (d := d_size_of) rfl
  exact ⟨fd, [], [], F, He.glo_ok X G (c.fact 32 (f := .glo "size_of") rfl), FunD.bindsN F fun _ _ _ _ _ _ us hl => match us, hl with | [_], _ => rfl, .nil, fun _ => .nil⟩
theorem T_first_strands (X : K.In h) (G : h.Ns mainGlobals mg) (c : He.SaysD fa fn K) : DefT K mg "first_strands" ["forest"] (defArgs (top 44)) (defBody (top 44)) (defScope (top 44)) [] [] := by
  obtain ⟨fd, F⟩ := c.def_ 33 (d := d_first_strands) rfl
  exact ⟨fd, [], [], F, He.glo_ok X G (c.fact 33 (f := .glo "first_strands") rfl), FunD.bindsN F fun _ _ _ _ _ _ us hl => match us, hl with | [_], _ => rfl, .nil, fun _ => .nil⟩
theorem T_without_one (X : K.In h) (G : h.Ns mainGlobals mg) (c : He.SaysD fa fn K) : DefT K mg "without_one" ["strands", "height"] (defArgs (top 45)) (defBody (top 45)) (defScope (top 45)) [] [] := by
  obtain ⟨fd, F⟩ := c.def_ 34 (d := d_without_one) rfl
  exact ⟨fd, [], [], F, He.glo_ok X G (c.fact 34 (f := .glo "without_one") rfl), FunD.bindsN F fun _ _ _ _ _ _ us hl => match us, hl with | [_, _], _ => rfl, .nil, fun _ => .nil⟩
theorem T_kid_strands (X : K.In h) (G : h.Ns mainGlobals mg) (c : He.SaysD fa fn K) : DefT K mg "kid_strands" ["forest"] (defArgs (top 46)) (defBody (top 46)) (defScope (top 46)) [] [] := by
  obtain ⟨fd, F⟩ := c.def_ 35 (d := d_kid_strands) rfl
  exact ⟨fd, [], [], F, He.glo_ok X G (c.fact 35 (f := .glo "kid_strands") rfl), FunD.bindsN F fun _ _ _ _ _ _ us hl => match us, hl with | [_], _ => rfl, .nil, fun _ => .nil⟩
theorem T_upper_strands (X : K.In h) (G : h.Ns mainGlobals mg) (c : He.SaysD fa fn K) : DefT K mg "upper_strands" ["forest"] (defArgs (top 47)) (defBody (top 47)) (defScope (top 47)) [] [] := by
  obtain ⟨fd, F⟩ := c.def_ 36 (d := d_upper_strands) rfl
  exact ⟨fd, [], [], F, He.glo_ok X G (c.fact 36 (f := .glo "upper_strands") rfl), FunD.bindsN F fun _ _ _ _ _ _ us hl => match us, hl with | [_], _ => rfl, .nil, fun _ => .nil⟩
theorem T_strand_number (X : K.In h) (G : h.Ns mainGlobals mg) (c : He.SaysD fa fn K) : DefT K mg "strand_number" ["strand", "n"] (defArgs (top 48)) (defBody (top 48)) (defScope (top 48)) [] [] := by
  obtain ⟨fd, F⟩ := c.def_ 37 (d := d_strand_number) rfl
  exact ⟨fd, [], [], F, He.glo_ok X G (c.fact 37 (f := .glo "strand_number") rfl), FunD.bindsN F fun _ _ _ _ _ _ us hl => match us, hl with | [_, _], _ => rfl, .nil, fun _ => .nil⟩
theorem T_strands_block (X : K.In h) (G : h.Ns mainGlobals mg) (c : He.SaysD fa fn K) : DefT K mg "strands_block" ["strands"] (defArgs (top 49)) (defBody (top 49)) (defScope (top 49)) [] [] := by
  obtain ⟨fd, F⟩ := c.def_ 38 (d := d_strands_block) rfl
  exact ⟨fd, [], [], F, He.glo_ok X G (c.fact 38 (f := .glo "strands_block") rfl), FunD.bindsN F fun _ _ _ _ _ _ us hl => match us, hl with | [_], _ => rfl, .nil, fun _ => .nil⟩
theorem T_table_of_in (X : K.In h) (G : h.Ns mainGlobals mg) (c : He.SaysD fa fn K) : DefT K mg "table_of_in" ["forest"] (defArgs (top 50)) (defBody (top 50)) (defScope (top 50)) [] [] := by
  obtain ⟨fd, F⟩ := c.def_ 39 (d := d_table_of_in) rfl
  exact ⟨fd, [], [], F, He.glo_ok X G (c.fact 39 (f := .glo "table_of_in") rfl), FunD.bindsN F fun _ _ _ _ _ _ us hl => match us, hl with | [_], _ => rfl, .nil, fun _ => .nil⟩
theorem T_table_of (X : K.In h) (G : h.Ns mainGlobals mg) (c : He.SaysD fa fn K) : DefT K mg "table_of" ["forest"] (defArgs (top 51)) (defBody (top 51)) (defScope (top 51)) [] [] := by
  obtain ⟨fd, F⟩ := c.def_ 40 (d := d_table_of) rfl
  exact ⟨fd, [], [], F, He.glo_ok X G (c.fact 40 (f := .glo "table_of") rfl), FunD.bindsN F fun _ _ _ _ _ _ us hl => match us, hl with | [_], _ => rfl, .nil, fun _ => .nil⟩
theorem T_line_nodes (X : K.In h) (G : h.Ns mainGlobals mg) (c : He.SaysD fa fn K) : DefT K mg "line_nodes" ["term", "height"] (defArgs (top 52)) (defBody (top 52)) (defScope (top 52)) [] [] := by
  obtain ⟨fd, F⟩ := c.def_ 41 (d := d_line_nodes) rfl
  exact ⟨fd, [], [], F, He.glo_ok X G (c.fact 41 (f := .glo "line_nodes") rfl), FunD.bindsN F fun _ _ _ _ _ _ us hl => match us, hl with | [_, _], _ => rfl, .nil, fun _ => .nil⟩
theorem T_nodes_at_in (X : K.In h) (G : h.Ns mainGlobals mg) (c : He.SaysD fa fn K) : DefT K mg "nodes_at_in" ["forest", "height"] (defArgs (top 53)) (defBody (top 53)) (defScope (top 53)) [] [] := by
  obtain ⟨fd, F⟩ := c.def_ 42 (d := d_nodes_at_in) rfl
  exact ⟨fd, [], [], F, He.glo_ok X G (c.fact 42 (f := .glo "nodes_at_in") rfl), FunD.bindsN F fun _ _ _ _ _ _ us hl => match us, hl with | [_, _], _ => rfl, .nil, fun _ => .nil⟩
theorem T_nodes_at (X : K.In h) (G : h.Ns mainGlobals mg) (c : He.SaysD fa fn K) : DefT K mg "nodes_at" ["forest", "height"] (defArgs (top 54)) (defBody (top 54)) (defScope (top 54)) [] [] := by
  obtain ⟨fd, F⟩ := c.def_ 43 (d := d_nodes_at) rfl
  exact ⟨fd, [], [], F, He.glo_ok X G (c.fact 43 (f := .glo "nodes_at") rfl), FunD.bindsN F fun _ _ _ _ _ _ us hl => match us, hl with | [_, _], _ => rfl, .nil, fun _ => .nil⟩
theorem T_upper_term (X : K.In h) (G : h.Ns mainGlobals mg) (c : He.SaysD fa fn K) : DefT K mg "upper_term" ["term", "height"] (defArgs (top 56)) (defBody (top 56)) (defScope (top 56)) [] [] := by
  obtain ⟨fd, F⟩ := c.def_ 44 (d := d_upper_term) rfl
  exact ⟨fd, [], [], F, He.glo_ok X G (c.fact 44 (f := .glo "upper_term") rfl), FunD.bindsN F fun _ _ _ _ _ _ us hl => match us, hl with | [_, _], _ => rfl, .nil, fun _ => .nil⟩
theorem T_upper_terms (X : K.In h) (G : h.Ns mainGlobals mg) (c : He.SaysD fa fn K) : DefT K mg "upper_terms" ["forest", "height"] (defArgs (top 57)) (defBody (top 57)) (defScope (top 57)) [] [] := by
  obtain ⟨fd, F⟩ := c.def_ 45 (d := d_upper_terms) rfl
  exact ⟨fd, [], [], F, He.glo_ok X G (c.fact 45 (f := .glo "upper_terms") rfl), FunD.bindsN F fun _ _ _ _ _ _ us hl => match us, hl with | [_, _], _ => rfl, .nil, fun _ => .nil⟩
theorem T_upper_in (X : K.In h) (G : h.Ns mainGlobals mg) (c : He.SaysD fa fn K) : DefT K mg "upper_in" ["forest", "height"] (defArgs (top 58)) (defBody (top 58)) (defScope (top 58)) [] [] := by
  obtain ⟨fd, F⟩ := c.def_ 46 (d := d_upper_in) rfl
  exact ⟨fd, [], [], F, He.glo_ok X G (c.fact 46 (f := .glo "upper_in") rfl), FunD.bindsN F fun _ _ _ _ _ _ us hl => match us, hl with | [_, _], _ => rfl, .nil, fun _ => .nil⟩
theorem T_upper (X : K.In h) (G : h.Ns mainGlobals mg) (c : He.SaysD fa fn K) : DefT K mg "upper" ["forest", "height"] (defArgs (top 59)) (defBody (top 59)) (defScope (top 59)) [] [] := by
  obtain ⟨fd, F⟩ := c.def_ 47 (d := d_upper) rfl
  exact ⟨fd, [], [], F, He.glo_ok X G (c.fact 47 (f := .glo "upper") rfl), FunD.bindsN F fun _ _ _ _ _ _ us hl => match us, hl with | [_, _], _ => rfl, .nil, fun _ => .nil⟩
theorem T__law_begin (X : K.In h) (G : h.Ns mainGlobals mg) (c : He.SaysD fa fn K) : DefT K mg "_law_begin" ["script"] (defArgs (top 61)) (defBody (top 61)) (defScope (top 61)) [] [] := by
  obtain ⟨fd, F⟩ := c.def_ 48 (d := d__law_begin) rfl
  exact ⟨fd, [], [], F, He.glo_ok X G (c.fact 48 (f := .glo "_law_begin") rfl), FunD.bindsN F fun _ _ _ _ _ _ us hl => match us, hl with | [_], _ => rfl, .nil, fun _ => .nil⟩
theorem T__law_draw (X : K.In h) (G : h.Ns mainGlobals mg) (c : He.SaysD fa fn K) : DefT K mg "_law_draw" ["state", "many"] (defArgs (top 62)) (defBody (top 62)) (defScope (top 62)) [] [] := by
  obtain ⟨fd, F⟩ := c.def_ 49 (d := d__law_draw) rfl
  exact ⟨fd, [], [], F, He.glo_ok X G (c.fact 49 (f := .glo "_law_draw") rfl), FunD.bindsN F fun _ _ _ _ _ _ us hl => match us, hl with | [_, _], _ => rfl, .nil, fun _ => .nil⟩
theorem T__law_terms (X : K.In h) (G : h.Ns mainGlobals mg) (c : He.SaysD fa fn K) : DefT K mg "_law_terms" ["forest"] (defArgs (top 63)) (defBody (top 63)) (defScope (top 63)) [] [] := by
  obtain ⟨fd, F⟩ := c.def_ 50 (d := d__law_terms) rfl
  exact ⟨fd, [], [], F, He.glo_ok X G (c.fact 50 (f := .glo "_law_terms") rfl), FunD.bindsN F fun _ _ _ _ _ _ us hl => match us, hl with | [_], _ => rfl, .nil, fun _ => .nil⟩
theorem T__law_forest (X : K.In h) (G : h.Ns mainGlobals mg) (c : He.SaysD fa fn K) : DefT K mg "_law_forest" ["state", "deep"] (defArgs (top 64)) (defBody (top 64)) (defScope (top 64)) [] [] := by
  obtain ⟨fd, F⟩ := c.def_ 51 (d := d__law_forest) rfl
  exact ⟨fd, [], [], F, He.glo_ok X G (c.fact 51 (f := .glo "_law_forest") rfl), FunD.bindsN F fun _ _ _ _ _ _ us hl => match us, hl with | [_, _], _ => rfl, .nil, fun _ => .nil⟩
theorem T__law_deep (X : K.In h) (G : h.Ns mainGlobals mg) (c : He.SaysD fa fn K) : DefT K mg "_law_deep" ["state"] (defArgs (top 65)) (defBody (top 65)) (defScope (top 65)) [] [] := by
  obtain ⟨fd, F⟩ := c.def_ 52 (d := d__law_deep) rfl
  exact ⟨fd, [], [], F, He.glo_ok X G (c.fact 52 (f := .glo "_law_deep") rfl), FunD.bindsN F fun _ _ _ _ _ _ us hl => match us, hl with | [_], _ => rfl, .nil, fun _ => .nil⟩
theorem T__law_top (X : K.In h) (G : h.Ns mainGlobals mg) (c : He.SaysD fa fn K) : DefT K mg "_law_top" ["forest"] (defArgs (top 66)) (defBody (top 66)) (defScope (top 66)) [] [] := by
  obtain ⟨fd, F⟩ := c.def_ 53 (d := d__law_top) rfl
  exact ⟨fd, [], [], F, He.glo_ok X G (c.fact 53 (f := .glo "_law_top") rfl), FunD.bindsN F fun _ _ _ _ _ _ us hl => match us, hl with | [_], _ => rfl, .nil, fun _ => .nil⟩
theorem T__law_cut (X : K.In h) (G : h.Ns mainGlobals mg) (c : He.SaysD fa fn K) : DefT K mg "_law_cut" ["state", "forest"] (defArgs (top 67)) (defBody (top 67)) (defScope (top 67)) [] [] := by
  obtain ⟨fd, F⟩ := c.def_ 54 (d := d__law_cut) rfl
  exact ⟨fd, [], [], F, He.glo_ok X G (c.fact 54 (f := .glo "_law_cut") rfl), FunD.bindsN F fun _ _ _ _ _ _ us hl => match us, hl with | [_, _], _ => rfl, .nil, fun _ => .nil⟩
theorem T__law_right (X : K.In h) (G : h.Ns mainGlobals mg) (c : He.SaysD fa fn K) : DefT K mg "_law_right" ["state", "forest", "cut", "part"] (defArgs (top 68)) (defBody (top 68)) (defScope (top 68)) [] [] := by
  obtain ⟨fd, F⟩ := c.def_ 55 (d := d__law_right) rfl
  exact ⟨fd, [], [], F, He.glo_ok X G (c.fact 55 (f := .glo "_law_right") rfl), FunD.bindsN F fun _ _ _ _ _ _ us hl => match us, hl with | [_, _, _, _], _ => rfl, .nil, fun _ => .nil⟩
theorem T_law (X : K.In h) (G : h.Ns mainGlobals mg) (c : He.SaysD fa fn K) : DefT K mg "law" ["script"] (defArgs (top 69)) (defBody (top 69)) (defScope (top 69)) [] [] := by
  obtain ⟨fd, F⟩ := c.def_ 56 (d := d_law) rfl
  exact ⟨fd, [], [], F, He.glo_ok X G (c.fact 56 (f := .glo "law") rfl), FunD.bindsN F fun _ _ _ _ _ _ us hl => match us, hl with | [_], _ => rfl, .nil, fun _ => .nil⟩
theorem im_lcm (X : K.In h) (G : h.Ns mainGlobals mg) (c : He.SaysD fa fn K) (e : ex K = true) : mg "lcm" = some (.builtin "math.lcm") := by
  have e := e
  unfold ex at e
  simp only [Bool.and_eq_true] at e
  exact (PySem.W.mg_of X G (of_decide_eq_true (e.1)))
theorem cg_NOTHING (X : K.In h) (G : h.Ns mainGlobals mg) (c : He.SaysD fa fn K) (e : ex K = true) : CstG K mg "NOTHING" (.tuple [.tuple [], .tuple [.int 0]]) := by
  have e := e
  unfold ex at e
  simp only [Bool.and_eq_true] at e
  exact (cstG_of (He.glo_ok X G (c.fact 61 (f := .glo "NOTHING") rfl)) (e.2.1))
theorem A_is_integer (X : K.In h) (G : h.Ns mainGlobals mg) (c : He.SaysD fa fn K) (e : ex K = true) : OkF P w K mg base "is_integer" (1) ["value"] [] (F_is_integer) := ok_is_integer (T_is_integer X G c) (He.free_ok X G (c.fact 64 (f := .free "bool") rfl)) (He.free_ok X G (c.fact 66 (f := .free "int") rfl)) (He.free_ok X G (c.fact 67 (f := .free "isinstance") rfl)) 
theorem A_is_natural (X : K.In h) (G : h.Ns mainGlobals mg) (c : He.SaysD fa fn K) (e : ex K = true) : OkF P w K mg base "is_natural" (2) ["value", "least"] [] (F_is_natural) := ok_is_natural (T_is_natural X G c)  ((A_is_integer X G c e).mono (by decide))
theorem A_is_natural_d1 (X : K.In h) (G : h.Ns mainGlobals mg) (c : He.SaysD fa fn K) (e : ex K = true) : OkF P w K mg base "is_natural" (2) ["value", "least"] [.int 0] (F_is_natural) := ok_is_natural (T_is_natural_d1 X G c)  ((A_is_integer X G c e).mono (by decide))
theorem A_is_height (X : K.In h) (G : h.Ns mainGlobals mg) (c : He.SaysD fa fn K) (e : ex K = true) : OkF P w K mg base "is_height" (3) ["value"] [] (F_is_height) := ok_is_height (T_is_height X G c) (He.free_ok X G (c.fact 67 (f := .free "isinstance") rfl)) (He.free_ok X G (c.fact 68 (f := .free "len") rfl)) (He.free_ok X G (c.fact 74 (f := .free "tuple") rfl)) ((A_is_natural_d1 X G c e).mono (by decide))
theorem A_check_height (X : K.In h) (G : h.Ns mainGlobals mg) (c : He.SaysD fa fn K) (e : ex K = true) : OkF P w K mg base "check_height" (4) ["value"] [] (F_check_height) := ok_check_height (T_check_height X G c)  ((A_is_height X G c e).mono (by decide))
theorem A_sum_in (X : K.In h) (G : h.Ns mainGlobals mg) (c : He.SaysD fa fn K) (e : ex K = true) : OkF P w K mg base "sum_in" (1) ["height", "other"] [] (F_sum_in) := ok_sum_in (T_sum_in X G c)  
theorem A_sum_of (X : K.In h) (G : h.Ns mainGlobals mg) (c : He.SaysD fa fn K) (e : ex K = true) : OkF P w K mg base "sum_of" (5) ["height", "other"] [] (F_sum_of) := ok_sum_of (T_sum_of X G c)  ((A_sum_in X G c e).mono (by decide)) ((A_check_height X G c e).mono (by decide))
theorem A_are_numbers (X : K.In h) (G : h.Ns mainGlobals mg) (c : He.SaysD fa fn K) (e : ex K = true) : OkF P w K mg base "are_numbers" (2) ["value"] [] (F_are_numbers) := ok_are_numbers (T_are_numbers X G c) (He.free_ok X G (c.fact 63 (f := .free "all") rfl)) (He.free_ok X G (c.fact 67 (f := .free "isinstance") rfl)) (He.free_ok X G (c.fact 74 (f := .free "tuple") rfl)) ((A_is_integer X G c e).mono (by decide))
theorem A_is_block (X : K.In h) (G : h.Ns mainGlobals mg) (c : He.SaysD fa fn K) (e : ex K = true) : OkF P w K mg base "is_block" (3) ["value"] [] (F_is_block) := ok_is_block (T_is_block X G c) (He.free_ok X G (c.fact 67 (f := .free "isinstance") rfl)) (He.free_ok X G (c.fact 68 (f := .free "len") rfl)) (He.free_ok X G (c.fact 74 (f := .free "tuple") rfl)) ((A_are_numbers X G c e).mono (by decide))
theorem A_are_blocks (X : K.In h) (G : h.Ns mainGlobals mg) (c : He.SaysD fa fn K) (e : ex K = true) : OkF P w K mg base "are_blocks" (4) ["value"] [] (F_are_blocks) := ok_are_blocks (T_are_blocks X G c) (He.free_ok X G (c.fact 63 (f := .free "all") rfl)) (He.free_ok X G (c.fact 67 (f := .free "isinstance") rfl)) (He.free_ok X G (c.fact 74 (f := .free "tuple") rfl)) ((A_is_block X G c e).mono (by decide))
theorem A_shortest_round (X : K.In h) (G : h.Ns mainGlobals mg) (c : He.SaysD fa fn K) (e : ex K = true) : OkF P w K mg base "shortest_round" (1) ["numbers"] [] (F_shortest_round) := ok_shortest_round (T_shortest_round X G c) (He.free_ok X G (c.fact 68 (f := .free "len") rfl)) (He.free_ok X G (c.fact 71 (f := .free "range") rfl)) 
theorem A_block_in (X : K.In h) (G : h.Ns mainGlobals mg) (c : He.SaysD fa fn K) (e : ex K = true) : OkF P w K mg base "block_in" (2) ["first", "numbers"] [] (F_block_in) := ok_block_in (T_block_in X G c)  ((A_shortest_round X G c e).mono (by decide))
theorem A_table_in (X : K.In h) (G : h.Ns mainGlobals mg) (c : He.SaysD fa fn K) (e : ex K = true) : OkF P w K mg base "table_in" (3) ["blocks"] [] (F_table_in) := ok_table_in (T_table_in X G c) (cg_NOTHING X G c e) (He.free_ok X G (c.fact 74 (f := .free "tuple") rfl)) ((A_block_in X G c e).mono (by decide))
theorem A_is_table (X : K.In h) (G : h.Ns mainGlobals mg) (c : He.SaysD fa fn K) (e : ex K = true) : OkF P w K mg base "is_table" (5) ["value"] [] (F_is_table) := ok_is_table (T_is_table X G c)  ((A_table_in X G c e).mono (by decide)) ((A_are_blocks X G c e).mono (by decide))
theorem A_check_table (X : K.In h) (G : h.Ns mainGlobals mg) (c : He.SaysD fa fn K) (e : ex K = true) : OkF P w K mg base "check_table" (6) ["value"] [] (F_check_table) := ok_check_table (T_check_table X G c)  ((A_is_table X G c e).mono (by decide))
theorem A_block_number (X : K.In h) (G : h.Ns mainGlobals mg) (c : He.SaysD fa fn K) (e : ex K = true) : OkF P w K mg base "block_number" (1) ["block", "n"] [] (F_block_number) := ok_block_number (T_block_number X G c) (He.free_ok X G (c.fact 68 (f := .free "len") rfl)) 
theorem A_block_at (X : K.In h) (G : h.Ns mainGlobals mg) (c : He.SaysD fa fn K) (e : ex K = true) : OkF P w K mg base "block_at" (1) ["table", "k"] [] (F_block_at) := ok_block_at (T_block_at X G c) (cg_NOTHING X G c e) (He.free_ok X G (c.fact 68 (f := .free "len") rfl)) 
theorem A_number_in (X : K.In h) (G : h.Ns mainGlobals mg) (c : He.SaysD fa fn K) (e : ex K = true) : OkF P w K mg base "number_in" (2) ["table", "height"] [] (F_number_in) := ok_number_in (T_number_in X G c)  ((A_block_number X G c e).mono (by decide)) ((A_block_at X G c e).mono (by decide))
theorem A_number_at (X : K.In h) (G : h.Ns mainGlobals mg) (c : He.SaysD fa fn K) (e : ex K = true) : OkF P w K mg base "number_at" (7) ["table", "height"] [] (F_number_at) := ok_number_at (T_number_at X G c)  ((A_number_in X G c e).mono (by decide)) ((A_check_height X G c e).mono (by decide)) ((A_check_table X G c e).mono (by decide))
theorem A_plus_number (X : K.In h) (G : h.Ns mainGlobals mg) (c : He.SaysD fa fn K) (e : ex K = true) : OkF P w K mg base "plus_number" (1) ["one", "other"] [] (F_plus_number) := ok_plus_number (T_plus_number X G c)  
theorem A_spans_of (X : K.In h) (G : h.Ns mainGlobals mg) (c : He.SaysD fa fn K) (e : ex K = true) : OkF P w K mg base "spans_of" (1) ["one", "other"] [] (F_spans_of) := ok_spans_of (T_spans_of X G c) (He.free_ok X G (c.fact 68 (f := .free "len") rfl)) (He.free_ok X G (c.fact 69 (f := .free "max") rfl)) (im_lcm X G c e) 
theorem A_unlike_in (X : K.In h) (G : h.Ns mainGlobals mg) (c : He.SaysD fa fn K) (e : ex K = true) : OkF P w K mg base "unlike_in" (2) ["table", "other"] [] (F_unlike_in) := ok_unlike_in (T_unlike_in X G c) (He.free_ok X G (c.fact 68 (f := .free "len") rfl)) (He.free_ok X G (c.fact 69 (f := .free "max") rfl)) (He.free_ok X G (c.fact 71 (f := .free "range") rfl)) (He.free_ok X G (c.fact 72 (f := .free "sum") rfl)) ((A_spans_of X G c e).mono (by decide)) ((A_block_number X G c e).mono (by decide)) ((A_block_at X G c e).mono (by decide))
theorem A_unlike_at (X : K.In h) (G : h.Ns mainGlobals mg) (c : He.SaysD fa fn K) (e : ex K = true) : OkF P w K mg base "unlike_at" (7) ["table", "other"] [] (F_unlike_at) := ok_unlike_at (T_unlike_at X G c)  ((A_unlike_in X G c e).mono (by decide)) ((A_check_table X G c e).mono (by decide))
theorem A_shifted (X : K.In h) (G : h.Ns mainGlobals mg) (c : He.SaysD fa fn K) (e : ex K = true) : OkF P w K mg base "shifted" (3) ["block", "n"] [] (F_shifted) := ok_shifted (T_shifted X G c) (He.free_ok X G (c.fact 68 (f := .free "len") rfl)) ((A_block_in X G c e).mono (by decide))
theorem A_tail_in (X : K.In h) (G : h.Ns mainGlobals mg) (c : He.SaysD fa fn K) (e : ex K = true) : OkF P w K mg base "tail_in" (4) ["table", "height"] [] (F_tail_in) := ok_tail_in (T_tail_in X G c)  ((A_table_in X G c e).mono (by decide)) ((A_shifted X G c e).mono (by decide)) ((A_block_at X G c e).mono (by decide))
theorem A_tail_of (X : K.In h) (G : h.Ns mainGlobals mg) (c : He.SaysD fa fn K) (e : ex K = true) : OkF P w K mg base "tail_of" (7) ["table", "height"] [] (F_tail_of) := ok_tail_of (T_tail_of X G c)  ((A_tail_in X G c e).mono (by decide)) ((A_check_height X G c e).mono (by decide)) ((A_check_table X G c e).mono (by decide))
theorem A_is_term (X : K.In h) (G : h.Ns mainGlobals mg) (c : He.SaysD fa fn K) (e : ex K = true) : OkF P w K mg base "is_term" (3) ["value"] [] (F_is_term) := ok_is_term (T_is_term X G c) (He.free_ok X G (c.fact 67 (f := .free "isinstance") rfl)) (He.free_ok X G (c.fact 68 (f := .free "len") rfl)) (He.free_ok X G (c.fact 74 (f := .free "tuple") rfl)) ((A_is_integer X G c e).mono (by decide)) ((A_is_natural_d1 X G c e).mono (by decide))
theorem A_is_forest (X : K.In h) (G : h.Ns mainGlobals mg) (c : He.SaysD fa fn K) (e : ex K = true) : OkF P w K mg base "is_forest" (4) ["value"] [] (F_is_forest) := ok_is_forest (T_is_forest X G c) (He.free_ok X G (c.fact 63 (f := .free "all") rfl)) (He.free_ok X G (c.fact 67 (f := .free "isinstance") rfl)) (He.free_ok X G (c.fact 74 (f := .free "tuple") rfl)) ((A_is_term X G c e).mono (by decide))
theorem A_check_forest (X : K.In h) (G : h.Ns mainGlobals mg) (c : He.SaysD fa fn K) (e : ex K = true) : OkF P w K mg base "check_forest" (5) ["value"] [] (F_check_forest) := ok_check_forest (T_check_forest X G c)  ((A_is_forest X G c e).mono (by decide))
theorem B_top_in (X : K.In h) (G : h.Ns mainGlobals mg) (c : He.SaysD fa fn K) (e : ex K = true) {j : Nat} {X0 : FF} (hj : 0 ≤ j) (hc : OkF P w K mg base "top_in" (j) ["forest"] [] (X0)) : OkF P w K mg base "top_in" (j + 1) ["forest"] [] (Y_top_in X0) := ok_top_in (T_top_in X G c) (He.free_ok X G (c.fact 69 (f := .free "max") rfl)) (hc.mono (by omega))
theorem C_top_in (X : K.In h) (G : h.Ns mainGlobals mg) (c : He.SaysD fa fn K) (e : ex K = true) : ∀ n : Nat, OkF P w K mg base "top_in" (0 + 1 * n) ["forest"] [] (R_top_in n)
  | 0 => (T_top_in X G c).stuck
  | n + 1 => by
    have ih := C_top_in X G c e n
    have e1 : 0 + 1 * (n + 1) = 0 + 1 * n + 1 := by omega
    rw [e1]
    exact B_top_in X G c e (by omega) ih
theorem A_top_in (X : K.In h) (G : h.Ns mainGlobals mg) (c : He.SaysD fa fn K) (e : ex K = true) : OkF P w K mg base "top_in" (8) ["forest"] [] (F_top_in) := C_top_in X G c e 8
theorem A_top_height (X : K.In h) (G : h.Ns mainGlobals mg) (c : He.SaysD fa fn K) (e : ex K = true) : OkF P w K mg base "top_height" (9) ["forest"] [] (F_top_height) := ok_top_height (T_top_height X G c)  ((A_top_in X G c e).mono (by decide)) ((A_check_forest X G c e).mono (by decide))
theorem A_times_number (X : K.In h) (G : h.Ns mainGlobals mg) (c : He.SaysD fa fn K) (e : ex K = true) : OkF P w K mg base "times_number" (1) ["many", "number"] [] (F_times_number) := ok_times_number (T_times_number X G c)  
theorem B_size_in (X : K.In h) (G : h.Ns mainGlobals mg) (c : He.SaysD fa fn K) (e : ex K = true) {j : Nat} {X0 : FF} (hj : 0 ≤ j) (hc : OkF P w K mg base "size_in" (j) ["forest"] [] (X0)) : OkF P w K mg base "size_in" (j + 1) ["forest"] [] (Y_size_in X0) := ok_size_in (T_size_in X G c)  (hc.mono (by omega))
theorem C_size_in (X : K.In h) (G : h.Ns mainGlobals mg) (c : He.SaysD fa fn K) (e : ex K = true) : ∀ n : Nat, OkF P w K mg base "size_in" (0 + 1 * n) ["forest"] [] (R_size_in n)
  | 0 => (T_size_in X G c).stuck
  | n + 1 => by
    have ih := C_size_in X G c e n
    have e1 : 0 + 1 * (n + 1) = 0 + 1 * n + 1 := by omega
    rw [e1]
    exact B_size_in X G c e (by omega) ih
theorem A_size_in (X : K.In h) (G : h.Ns mainGlobals mg) (c : He.SaysD fa fn K) (e : ex K = true) : OkF P w K mg base "size_in" (8) ["forest"] [] (F_size_in) := C_size_in X G c e 8
theorem A_size_of (X : K.In h) (G : h.Ns mainGlobals mg) (c : He.SaysD fa fn K) (e : ex K = true) : OkF P w K mg base "size_of" (9) ["forest"] [] (F_size_of) := ok_size_of (T_size_of X G c)  ((A_size_in X G c e).mono (by decide)) ((A_check_forest X G c e).mono (by decide))
theorem A_first_strands (X : K.In h) (G : h.Ns mainGlobals mg) (c : He.SaysD fa fn K) (e : ex K = true) : OkF P w K mg base "first_strands" (9) ["forest"] [] (F_first_strands) := ok_first_strands (T_first_strands X G c)  ((A_top_in X G c e).mono (by decide))
theorem A_without_one (X : K.In h) (G : h.Ns mainGlobals mg) (c : He.SaysD fa fn K) (e : ex K = true) : OkF P w K mg base "without_one" (1) ["strands", "height"] [] (F_without_one) := ok_without_one (T_without_one X G c)  
theorem A_kid_strands (X : K.In h) (G : h.Ns mainGlobals mg) (c : He.SaysD fa fn K) (e : ex K = true) : OkF P w K mg base "kid_strands" (10) ["forest"] [] (F_kid_strands) := ok_kid_strands (T_kid_strands X G c)  ((A_without_one X G c e).mono (by decide)) ((A_first_strands X G c e).mono (by decide)) ((A_top_in X G c e).mono (by decide))
theorem B_upper_strands (X : K.In h) (G : h.Ns mainGlobals mg) (c : He.SaysD fa fn K) (e : ex K = true) {j : Nat} {X0 : FF} (hj : 10 ≤ j) (hc : OkF P w K mg base "upper_strands" (j) ["forest"] [] (X0)) : OkF P w K mg base "upper_strands" (j + 1) ["forest"] [] (Y_upper_strands X0) := ok_upper_strands (T_upper_strands X G c)  ((A_kid_strands X G c e).mono (by omega)) (hc.mono (by omega)) ((A_times_number X G c e).mono (by omega))
theorem C_upper_strands (X : K.In h) (G : h.Ns mainGlobals mg) (c : He.SaysD fa fn K) (e : ex K = true) : ∀ n : Nat, OkF P w K mg base "upper_strands" (10 + 1 * n) ["forest"] [] (R_upper_strands n)
  | 0 => (T_upper_strands X G c).stuck
  | n + 1 => by
    have ih := C_upper_strands X G c e n
    have e1 : 10 + 1 * (n + 1) = 10 + 1 * n + 1 := by omega
    rw [e1]
    exact B_upper_strands X G c e (by omega) ih
theorem A_upper_strands (X : K.In h) (G : h.Ns mainGlobals mg) (c : He.SaysD fa fn K) (e : ex K = true) : OkF P w K mg base "upper_strands" (18) ["forest"] [] (F_upper_strands) := C_upper_strands X G c e 8
theorem A_strand_number (X : K.In h) (G : h.Ns mainGlobals mg) (c : He.SaysD fa fn K) (e : ex K = true) : OkF P w K mg base "strand_number" (1) ["strand", "n"] [] (F_strand_number) := ok_strand_number (T_strand_number X G c)  
theorem A_strands_block (X : K.In h) (G : h.Ns mainGlobals mg) (c : He.SaysD fa fn K) (e : ex K = true) : OkF P w K mg base "strands_block" (2) ["strands"] [] (F_strands_block) := ok_strands_block (T_strands_block X G c) (He.free_ok X G (c.fact 69 (f := .free "max") rfl)) (He.free_ok X G (c.fact 71 (f := .free "range") rfl)) (He.free_ok X G (c.fact 74 (f := .free "tuple") rfl)) (im_lcm X G c e) ((A_plus_number X G c e).mono (by decide)) ((A_strand_number X G c e).mono (by decide))
theorem A_table_of_in (X : K.In h) (G : h.Ns mainGlobals mg) (c : He.SaysD fa fn K) (e : ex K = true) : OkF P w K mg base "table_of_in" (19) ["forest"] [] (F_table_of_in) := ok_table_of_in (T_table_of_in X G c) (He.free_ok X G (c.fact 69 (f := .free "max") rfl)) (He.free_ok X G (c.fact 71 (f := .free "range") rfl)) ((A_table_in X G c e).mono (by decide)) ((A_strands_block X G c e).mono (by decide)) ((A_first_strands X G c e).mono (by decide)) ((A_upper_strands X G c e).mono (by decide))
theorem A_table_of (X : K.In h) (G : h.Ns mainGlobals mg) (c : He.SaysD fa fn K) (e : ex K = true) : OkF P w K mg base "table_of" (20) ["forest"] [] (F_table_of) := ok_table_of (T_table_of X G c)  ((A_table_of_in X G c e).mono (by decide)) ((A_check_forest X G c e).mono (by decide))
theorem A_line_nodes (X : K.In h) (G : h.Ns mainGlobals mg) (c : He.SaysD fa fn K) (e : ex K = true) : OkF P w K mg base "line_nodes" (9) ["term", "height"] [] (F_line_nodes) := ok_line_nodes (T_line_nodes X G c)  ((A_top_in X G c e).mono (by decide))
theorem B_nodes_at_in (X : K.In h) (G : h.Ns mainGlobals mg) (c : He.SaysD fa fn K) (e : ex K = true) {j : Nat} {X0 : FF} (hj : 9 ≤ j) (hc : OkF P w K mg base "nodes_at_in" (j) ["forest", "height"] [] (X0)) : OkF P w K mg base "nodes_at_in" (j + 1) ["forest", "height"] [] (Y_nodes_at_in X0) := ok_nodes_at_in (T_nodes_at_in X G c)  ((A_plus_number X G c e).mono (by omega)) ((A_times_number X G c e).mono (by omega)) ((A_line_nodes X G c e).mono (by omega)) (hc.mono (by omega))
theorem C_nodes_at_in (X : K.In h) (G : h.Ns mainGlobals mg) (c : He.SaysD fa fn K) (e : ex K = true) : ∀ n : Nat, OkF P w K mg base "nodes_at_in" (9 + 1 * n) ["forest", "height"] [] (R_nodes_at_in n)
  | 0 => (T_nodes_at_in X G c).stuck
  | n + 1 => by
    have ih := C_nodes_at_in X G c e n
    have e1 : 9 + 1 * (n + 1) = 9 + 1 * n + 1 := by omega
    rw [e1]
    exact B_nodes_at_in X G c e (by omega) ih
theorem A_nodes_at_in (X : K.In h) (G : h.Ns mainGlobals mg) (c : He.SaysD fa fn K) (e : ex K = true) : OkF P w K mg base "nodes_at_in" (17) ["forest", "height"] [] (F_nodes_at_in) := C_nodes_at_in X G c e 8
theorem A_nodes_at (X : K.In h) (G : h.Ns mainGlobals mg) (c : He.SaysD fa fn K) (e : ex K = true) : OkF P w K mg base "nodes_at" (18) ["forest", "height"] [] (F_nodes_at) := ok_nodes_at (T_nodes_at X G c)  ((A_nodes_at_in X G c e).mono (by decide)) ((A_check_height X G c e).mono (by decide)) ((A_check_forest X G c e).mono (by decide))
theorem B_upper_term (X : K.In h) (G : h.Ns mainGlobals mg) (c : He.SaysD fa fn K) (e : ex K = true) {j : Nat} {X0 : FF} (hj : 8 ≤ j) (hc : OkF P w K mg base "upper_in" (j) ["forest", "height"] [] (X0)) : OkF P w K mg base "upper_term" (j + 1) ["term", "height"] [] (Y_upper_term X0) := ok_upper_term (T_upper_term X G c)  (hc.mono (by omega)) ((A_top_in X G c e).mono (by omega))
theorem B_upper_terms (X : K.In h) (G : h.Ns mainGlobals mg) (c : He.SaysD fa fn K) (e : ex K = true) {j : Nat} {X0 : FF} (hj : 8 ≤ j) (hc : OkF P w K mg base "upper_in" (j) ["forest", "height"] [] (X0)) : OkF P w K mg base "upper_terms" (j + 2) ["forest", "height"] [] (Y_upper_terms X0) := ok_upper_terms (T_upper_terms X G c) (He.free_ok X G (c.fact 65 (f := .free "enumerate") rfl)) ((B_upper_term X G c e hj hc).mono (by omega))
theorem B_upper_in (X : K.In h) (G : h.Ns mainGlobals mg) (c : He.SaysD fa fn K) (e : ex K = true) {j : Nat} {X0 : FF} (hj : 8 ≤ j) (hc : OkF P w K mg base "upper_in" (j) ["forest", "height"] [] (X0)) : OkF P w K mg base "upper_in" (j + 3) ["forest", "height"] [] (Y_upper_in X0) := ok_upper_in (T_upper_in X G c) (He.free_ok X G (c.fact 74 (f := .free "tuple") rfl)) ((B_upper_terms X G c e hj hc).mono (by omega))
theorem C_upper_in (X : K.In h) (G : h.Ns mainGlobals mg) (c : He.SaysD fa fn K) (e : ex K = true) : ∀ n : Nat, OkF P w K mg base "upper_in" (8 + 3 * n) ["forest", "height"] [] (R_upper_in n)
  | 0 => (T_upper_in X G c).stuck
  | n + 1 => by
    have ih := C_upper_in X G c e n
    have e1 : 8 + 3 * (n + 1) = 8 + 3 * n + 3 := by omega
    rw [e1]
    exact B_upper_in X G c e (by omega) ih
theorem A_upper_in (X : K.In h) (G : h.Ns mainGlobals mg) (c : He.SaysD fa fn K) (e : ex K = true) : OkF P w K mg base "upper_in" (32) ["forest", "height"] [] (F_upper_in) := C_upper_in X G c e 8
theorem A_upper_term (X : K.In h) (G : h.Ns mainGlobals mg) (c : He.SaysD fa fn K) (e : ex K = true) : OkF P w K mg base "upper_term" (33) ["term", "height"] [] (F_upper_term) := B_upper_term X G c e (by decide) (A_upper_in X G c e)
theorem A_upper_terms (X : K.In h) (G : h.Ns mainGlobals mg) (c : He.SaysD fa fn K) (e : ex K = true) : OkF P w K mg base "upper_terms" (34) ["forest", "height"] [] (F_upper_terms) := B_upper_terms X G c e (by decide) (A_upper_in X G c e)
theorem A_upper (X : K.In h) (G : h.Ns mainGlobals mg) (c : He.SaysD fa fn K) (e : ex K = true) : OkF P w K mg base "upper" (33) ["forest", "height"] [] (F_upper) := ok_upper (T_upper X G c)  ((A_upper_in X G c e).mono (by decide)) ((A_check_height X G c e).mono (by decide)) ((A_check_forest X G c e).mono (by decide))
theorem A__law_begin (X : K.In h) (G : h.Ns mainGlobals mg) (c : He.SaysD fa fn K) (e : ex K = true) : OkF P w K mg base "_law_begin" (1) ["script"] [] (F__law_begin) := ok__law_begin (T__law_begin X G c) (He.free_ok X G (c.fact 66 (f := .free "int") rfl)) (He.free_ok X G (c.fact 72 (f := .free "sum") rfl)) 
theorem A__law_draw (X : K.In h) (G : h.Ns mainGlobals mg) (c : He.SaysD fa fn K) (e : ex K = true) : OkF P w K mg base "_law_draw" (1) ["state", "many"] [] (F__law_draw) := ok__law_draw (T__law_draw X G c) (He.free_ok X G (c.fact 66 (f := .free "int") rfl)) (He.free_ok X G (c.fact 68 (f := .free "len") rfl)) 
theorem B__law_terms (X : K.In h) (G : h.Ns mainGlobals mg) (c : He.SaysD fa fn K) (e : ex K = true) {j : Nat} {X0 : FF} (hj : 0 ≤ j) (hc : OkF P w K mg base "_law_terms" (j) ["forest"] [] (X0)) : OkF P w K mg base "_law_terms" (j + 1) ["forest"] [] (Y__law_terms X0) := ok__law_terms (T__law_terms X G c) (He.free_ok X G (c.fact 72 (f := .free "sum") rfl)) (hc.mono (by omega))
theorem C__law_terms (X : K.In h) (G : h.Ns mainGlobals mg) (c : He.SaysD fa fn K) (e : ex K = true) : ∀ n : Nat, OkF P w K mg base "_law_terms" (0 + 1 * n) ["forest"] [] (R__law_terms n)
  | 0 => (T__law_terms X G c).stuck
  | n + 1 => by
    have ih := C__law_terms X G c e n
    have e1 : 0 + 1 * (n + 1) = 0 + 1 * n + 1 := by omega
    rw [e1]
    exact B__law_terms X G c e (by omega) ih
theorem A__law_terms (X : K.In h) (G : h.Ns mainGlobals mg) (c : He.SaysD fa fn K) (e : ex K = true) : OkF P w K mg base "_law_terms" (8) ["forest"] [] (F__law_terms) := C__law_terms X G c e 8
theorem B__law_forest (X : K.In h) (G : h.Ns mainGlobals mg) (c : He.SaysD fa fn K) (e : ex K = true) {j : Nat} {X0 : FF} (hj : 8 ≤ j) (hc : OkF P w K mg base "_law_forest" (j) ["state", "deep"] [] (X0)) : OkF P w K mg base "_law_forest" (j + 1) ["state", "deep"] [] (Y__law_forest X0) := ok__law_forest (T__law_forest X G c) (He.free_ok X G (c.fact 71 (f := .free "range") rfl)) (He.free_ok X G (c.fact 74 (f := .free "tuple") rfl)) ((A__law_terms X G c e).mono (by omega)) ((A__law_draw X G c e).mono (by omega)) (hc.mono (by omega))
theorem C__law_forest (X : K.In h) (G : h.Ns mainGlobals mg) (c : He.SaysD fa fn K) (e : ex K = true) : ∀ n : Nat, OkF P w K mg base "_law_forest" (8 + 1 * n) ["state", "deep"] [] (R__law_forest n)
  | 0 => (T__law_forest X G c).stuck
  | n + 1 => by
    have ih := C__law_forest X G c e n
    have e1 : 8 + 1 * (n + 1) = 8 + 1 * n + 1 := by omega
    rw [e1]
    exact B__law_forest X G c e (by omega) ih
theorem A__law_forest (X : K.In h) (G : h.Ns mainGlobals mg) (c : He.SaysD fa fn K) (e : ex K = true) : OkF P w K mg base "_law_forest" (16) ["state", "deep"] [] (F__law_forest) := C__law_forest X G c e 8
theorem A__law_deep (X : K.In h) (G : h.Ns mainGlobals mg) (c : He.SaysD fa fn K) (e : ex K = true) : OkF P w K mg base "_law_deep" (2) ["state"] [] (F__law_deep) := ok__law_deep (T__law_deep X G c) (He.free_ok X G (c.fact 71 (f := .free "range") rfl)) ((A__law_draw X G c e).mono (by decide))
theorem B__law_top (X : K.In h) (G : h.Ns mainGlobals mg) (c : He.SaysD fa fn K) (e : ex K = true) {j : Nat} {X0 : FF} (hj : 0 ≤ j) (hc : OkF P w K mg base "_law_top" (j) ["forest"] [] (X0)) : OkF P w K mg base "_law_top" (j + 1) ["forest"] [] (Y__law_top X0) := ok__law_top (T__law_top X G c) (He.free_ok X G (c.fact 69 (f := .free "max") rfl)) (hc.mono (by omega))
theorem C__law_top (X : K.In h) (G : h.Ns mainGlobals mg) (c : He.SaysD fa fn K) (e : ex K = true) : ∀ n : Nat, OkF P w K mg base "_law_top" (0 + 1 * n) ["forest"] [] (R__law_top n)
  | 0 => (T__law_top X G c).stuck
  | n + 1 => by
    have ih := C__law_top X G c e n
    have e1 : 0 + 1 * (n + 1) = 0 + 1 * n + 1 := by omega
    rw [e1]
    exact B__law_top X G c e (by omega) ih
theorem A__law_top (X : K.In h) (G : h.Ns mainGlobals mg) (c : He.SaysD fa fn K) (e : ex K = true) : OkF P w K mg base "_law_top" (8) ["forest"] [] (F__law_top) := C__law_top X G c e 8
theorem A__law_cut (X : K.In h) (G : h.Ns mainGlobals mg) (c : He.SaysD fa fn K) (e : ex K = true) : OkF P w K mg base "_law_cut" (9) ["state", "forest"] [] (F__law_cut) := ok__law_cut (T__law_cut X G c)  ((A__law_draw X G c e).mono (by decide)) ((A__law_top X G c e).mono (by decide))
theorem A__law_right (X : K.In h) (G : h.Ns mainGlobals mg) (c : He.SaysD fa fn K) (e : ex K = true) : OkF P w K mg base "_law_right" (21) ["state", "forest", "cut", "part"] [] (F__law_right) := ok__law_right (T__law_right X G c) (He.free_ok X G (c.fact 71 (f := .free "range") rfl)) ((A_number_at X G c e).mono (by decide)) ((A_table_of X G c e).mono (by decide)) ((A_sum_of X G c e).mono (by decide)) ((A_nodes_at X G c e).mono (by decide)) ((A__law_draw X G c e).mono (by decide))
theorem A_law (X : K.In h) (G : h.Ns mainGlobals mg) (c : He.SaysD fa fn K) (e : ex K = true) : OkF P w K mg base "law" (34) ["script"] [] (F_law) := ok_law (T_law X G c) (He.free_ok X G (c.fact 70 (f := .free "min") rfl)) (He.free_ok X G (c.fact 71 (f := .free "range") rfl)) (He.free_ok X G (c.fact 72 (f := .free "sum") rfl)) ((A_size_of X G c e).mono (by decide)) ((A_nodes_at X G c e).mono (by decide)) ((A_upper X G c e).mono (by decide)) ((A_top_height X G c e).mono (by decide)) ((A__law_right X G c e).mono (by decide)) ((A_sum_of X G c e).mono (by decide)) ((A_unlike_at X G c e).mono (by decide)) ((A_tail_of X G c e).mono (by decide)) ((A_table_of X G c e).mono (by decide)) ((A__law_cut X G c e).mono (by decide)) ((A__law_draw X G c e).mono (by decide)) ((A__law_forest X G c e).mono (by decide)) ((A__law_deep X G c e).mono (by decide)) ((A__law_begin X G c e).mono (by decide))
end
theorem hCXP {P : Program} {w : World} : ∀ (H : Hp) (s : Shared) (e : Value) (s' : Shared), L2.CX P w [] H s (fun _ _ _ => False) e s' → False := fun H s e s' x => by
  obtain ⟨_, _, _, _, _, _, _, _, _, _, _, _, _, _, _, _, z⟩ := x
def PLAIN : Prop := ∀ ns : List Int, ns.length ≤ 63 → ∃ cs, F_law [.val (.list (ns.map .int))] = .ok (.val (.bool true)) cs
theorem finish {P : Program} {w : World} {K : PySem.W.Frag} {mg : Str → Option Value} {h : Heap} (X : K.In h) (G : h.Ns mainGlobals mg) (c : He.SaysD fa fn K) (e : ex K = true) (pl : PLAIN) :
    ∃ (fd : FuncData) (sp : Sp), (∀ (s : Shared) (u : Value), BindsTo s fd ⟨[u], []⟩ [("script", u)]) ∧
        (∀ (H : Hp) (a : Addr) (ns : List Int), ns.length ≤ 63 → Only H → SqL K H a (ns.map V.int) → sp [.ref a] H (fun v _ => v = .bl true) fun _ _ _ => False) ∧
        ∀ base : Heap, K.In base → base.Ns mainGlobals mg → FnOk P w K mg base (L2.CX P w) 34 (He.ga K "law") fd ["script"] sp := by
  obtain ⟨fd, F⟩ := c.def_ 56 (d := d_law) rfl
  obtain ⟨oc, od, osl, lk⟩ := FunD.look F
  refine ⟨fd, spF K 1 F_law, fun s v => FunD.bindsA (ps := ["script"]) F (fun _ _ _ _ _ _ us hl => match us, hl with | [_], _ => rfl) s [v] rfl, fun H a ns hn hO hS => ?_, fun base hb hG => ?_⟩
  · obtain ⟨cs, q⟩ := pl ns hn
    refine ⟨rfl, H, [.val (.list (ns.map .int))], Same.refl H, .val (den_lst hS (dp_ints ns)) .nil, List.nodup_nil, ?_⟩
    rw [q]
    exact fun v F' H' _ r => Den.bool r
  · obtain ⟨fd', dvs, ds, h1, _, _, _, _, _, oc', od', osl', lk'⟩ := A_law (P := P) (w := w) (base := base) X G c e
    have ef := OkF.one lk lk'
    subst ef
    exact h1
end Wk
set_option Elab.async false
set_option linter.all false
set_option maxRecDepth 100000
set_option maxHeartbeats 4000000
namespace Wk
open PySem PySem.Spec Eng Rd
open Ft (Fo He topF maxH over Sd upF rs leH strands tabS nod FOk)
/-! the law's body -/
noncomputable def laA : SS := asgS 3 (ifE (asB (op2 gGt (callE F__law_draw [] [.b (var 1), .v (cst (.int 4))]) (cst (.int 0)))) (callE F__law_forest [] [.b (var 1), .v (cst (.int 3))]) (callE F__law_deep [] [.b (var 1)]))
noncomputable def laC : SS := parV [5, 6] [(callE F__law_cut [] [.b (var 1), .v (var 3)]), (tupE [(callE F__law_draw [] [.b (var 1), .v (cst (.int 3))]), (callE F__law_draw [] [.b (var 1), .v (cst (.int 9))])])]
noncomputable def laU : SS := asgS 4 (callE F_upper [] [.v (var 3), .v (var 5)])
noncomputable def laT : SS := ifS (orB (asB (op2 gNe (callE F_table_of [] [.v (var 4)]) (callE F_tail_of [] [.v (callE F_table_of [] [.v (var 3)]), .v (var 5)]))) (asB (op2 gNotN (callE F_unlike_at [] [.v (callE F_table_of [] [.v (var 4)]), .v (callE F_tail_of [] [.v (callE F_table_of [] [.v (var 3)]), .v (var 5)])]) (cst .none)))) (retS (cst (.bool false))) nxS
noncomputable def laR : SS := ifS (orB (asB (op2 gNe (callE F_upper [] [.v (var 4), .v (var 6)]) (callE F_upper [] [.v (var 3), .v (callE F_sum_of [] [.v (var 5), .v (var 6)])]))) (notB (truB (callE F__law_right [] [.b (var 1), .v (var 3), .v (var 5), .v (var 4)])))) (retS (cst (.bool false))) nxS
noncomputable def laZ : SS := ifS (orB (asB (op2 gNe (callE F_upper [] [.v (var 3), .v (tupE [(cst (.int 0)), (cst (.int 0))])]) (var 3))) (asB (op2 gNe (callE F_upper [] [.v (var 3), .v (callE F_top_height [] [.v (var 3)])]) (tupE [])))) (retS (cst (.bool false))) nxS
noncomputable def laS : SS := ifS (asB (op2 gNotN (callE F_size_of [] [.v (var 3)]) (cst .none))) (seqS (asgS 7 (cb1 gSum (lcE (rngI1 (op2 gMin2 (ixE (var 5) (cst (.int 1))) (cst (.int 99)))) [8] (tgN 8) yesB (callE F_nodes_at [] [.v (var 3), .v (tupE [(cst (.int 0)), (var 8)])])))) (ifS (asB (op2 gNe (callE F_size_of [] [.v (var 4)]) (op2 gSub (callE F_size_of [] [.v (var 3)]) (var 7)))) (retS (cst (.bool false))) nxS)) nxS
noncomputable def laB : SS := seqS laA (seqS laC (seqS laU (seqS laT (seqS laR (seqS laZ laS)))))
theorem la_eq : F_law = fnOf 1 9 (seqS (asgS 1 (callE F__law_begin [] [.v (var 0)])) (seqS (forS (rngI1 (cst (.int 5))) (tgN 2) laB) (retS (cst (.bool true))))) := rfl
def LF (f : Fo) : Prop := FB 4 30 39 f
theorem LF.ok {f : Fo} (h : LF f) : FOk f := ⟨h.1, by have := h.2.1; omega, by have := h.2.2.1; omega, by have := h.2.2.2; omega⟩
theorem LF.up {f : Fo} (h : LF f) (c : He) : FOk (upF c f) := ⟨Ft.shp_up f h.1, by have := h.2.1; have := Ft.dep_up (h := c) f; omega, by have := h.2.2.1; have := Ft.hgt_up (h := c) f h.1; omega, by have := h.2.2.2; have := Ft.trm_up (h := c) f; omega⟩
theorem la_A (s : St) (c0 x2 x3 x4 x5 x6 x7 x8 : Cell) (h3 : isIo (some x3) = false) : ∃ s' f, LF f ∧ laA [c0, .own (stD s), x2, x3, x4, x5, x6, x7, x8] = .nx [c0, .own (stD s'), x2, .val (fD f), x4, x5, x6, x7, x8] := by
  have d1 := draw1 s 4 c0 [x2, x3, x4, x5, x6, x7, x8] (by decide) (by decide)
  by_cases z : 0 < drN s 4
  · obtain ⟨f, s', e, hf⟩ := forest3 (drS s 4)
    have e1 := cb1_2 (c0 := c0) (sl := [x2, x3, x4, x5, x6, x7, x8]) e
    refine ⟨s', f, hf.mono (by decide) (by decide) (by decide), ?_⟩
    have e2 : ((3 : Nat) : Int) = 3 := rfl
    rw [e2] at e1
    unfold laA
    simp [d1, z, e1, h3]
  · obtain ⟨f, s', hf, e⟩ := deep_ff (drS s 4)
    have e1 := cb1_1 (c0 := c0) (sl := [x2, x3, x4, x5, x6, x7, x8]) e
    refine ⟨s', f, hf.mono (by decide) (by decide) (by decide), ?_⟩
    unfold laA
    simp [d1, z, e1, h3]
theorem la_C (s : St) (f : Fo) (hf : LF f) (c0 x2 x4 x5 x6 x7 x8 : Cell) (h5 : isIo (some x5) = false) (h6 : isIo (some x6) = false) : ∃ (s' : St) (c o : He), c.1 ≤ (topF f).1 ∧ laC [c0, .own (stD s), x2, .val (fD f), x4, x5, x6, x7, x8] = .nx [c0, .own (stD s'), x2, .val (fD f), x4, .val (hN c), .val (hN o), x7, x8] := by
  obtain ⟨c, s', hc, e⟩ := cut_ff s f (by have := hf.2.1; omega)
  have e1 := cb1_2 (c0 := c0) (sl := [x2, .val (fD f), x4, x5, x6, x7, x8]) e
  have d1 := draw1 s' 3 c0 [x2, .val (fD f), x4, x5, x6, x7, x8] (by decide) (by decide)
  have d2 := draw1 (drS s' 3) 9 c0 [x2, .val (fD f), x4, x5, x6, x7, x8] (by decide) (by decide)
  refine ⟨drS (drS s' 3) 9, c, (drN s' 3, drN (drS s' 3) 9), hc, ?_⟩
  unfold laC
  simp [e1, d1, d2, h5, h6]
  rfl
theorem ne_fD (f : Fo) (h : FOk f) : gNe (fD f) (fD f) = some (.val (.bool false)) := (eq_fD f f (by have := h.2.1; omega) (by have := h.2.1; omega)).2.mpr rfl
theorem la_rest (s : St) (f : Fo) (hf : LF f) (c o : He) (hc : c.1 ≤ (topF f).1) (c0 x2 x4 x7 : Cell) (h4 : isIo (some x4) = false) (h7 : isIo (some x7) = false) : ∃ s' y7, isIo (some y7) = false ∧
    seqS laU (seqS laT (seqS laR (seqS laZ laS))) [c0, .own (stD s), x2, .val (fD f), x4, .val (hN c), .val (hN o), x7, .no] = .nx [c0, .own (stD s'), x2, .val (fD f), .val (fD (upF c f)), .val (hN c), .val (hN o), y7, .no] := by
  have hk := hf.ok
  have hp := hf.up c
  have hp2 : FOk (upF o (upF c f)) := by rw [Ft.upF_upF]; exact hf.up _
  have q1 := v_upper f c hk
  have hU : laU [c0, .own (stD s), x2, .val (fD f), x4, .val (hN c), .val (hN o), x7, .no] = .nx [c0, .own (stD s), x2, .val (fD f), .val (fD (upF c f)), .val (hN c), .val (hN o), x7, .no] := by
    unfold laU
    simp [q1, h4]
  have t1 := v_table_of f hk
  have t2 := v_table_of (upF c f) hp
  rw [tab_upF hk c hp] at t2
  have t3 := v_tail_of (tabS (strands f)) c.1 c.2 (tab_okF hk)
  have t3' : gv F_tail_of [tD (tabS (strands f)), hN c] = .ok (.val (tD (tailT (tabS (strands f)) c.1 c.2))) := t3
  have t4 := v_unlike_at _ (tail_ok (tab_okF hk) c.1 c.2)
  have t5 := ne_tD (tailT (tabS (strands f)) c.1 c.2) (tailT (tabS (strands f)) c.1 c.2)
  rw [decide_eq_true rfl] at t5
  have hT : laT [c0, .own (stD s), x2, .val (fD f), .val (fD (upF c f)), .val (hN c), .val (hN o), x7, .no] = .nx [c0, .own (stD s), x2, .val (fD f), .val (fD (upF c f)), .val (hN c), .val (hN o), x7, .no] := by
    unfold laT
    simp [t1, t2, t3', t4, t5]
  obtain ⟨s', e⟩ := right_ff s f c hk hp
  have e1 := cb1_4 (c0 := c0) (sl := [x2, .val (fD f), .val (fD (upF c f)), .val (hN c), .val (hN o), x7, .no]) e
  have r1 := v_upper (upF c f) o hp
  have r2 := v_upper f (Ft.sumH c o) hk
  have r3 := v_sum_hN c o
  rw [Ft.upF_upF] at r1
  have r4 := ne_fD _ (hf.up (Ft.sumH c o))
  have hR : laR [c0, .own (stD s), x2, .val (fD f), .val (fD (upF c f)), .val (hN c), .val (hN o), x7, .no] = .nx [c0, .own (stD s'), x2, .val (fD f), .val (fD (upF c f)), .val (hN c), .val (hN o), x7, .no] := by
    unfold laR
    simp [r1, r2, r3, r4, e1]
  have z1 := v_upper f (0, 0) hk
  rw [Ft.upF_zero] at z1
  have z2 := v_upper f (topF f) hk
  rw [Ft.upF_self] at z2
  have z3 := v_top_height f hk
  have z4 := ne_fD f hk
  have z5 := ne_fD .nil ⟨trivial, Nat.zero_le _, Nat.zero_le _, Nat.zero_le _⟩
  have fn : fD .nil = .tuple [] := rfl
  rw [fn] at z2 z5
  have hz : hN (0, 0) = .tuple [.int 0, .int 0] := rfl
  rw [hz] at z1
  have hZ : laZ [c0, .own (stD s'), x2, .val (fD f), .val (fD (upF c f)), .val (hN c), .val (hN o), x7, .no] = .nx [c0, .own (stD s'), x2, .val (fD f), .val (fD (upF c f)), .val (hN c), .val (hN o), x7, .no] := by
    unfold laZ
    simp [z1, z2, z3, z4, z5]
  have s1 := v_size_of f hk
  have s2 := v_size_of (upF c f) hp
  have hS : ∃ y7, isIo (some y7) = false ∧ laS [c0, .own (stD s'), x2, .val (fD f), .val (fD (upF c f)), .val (hN c), .val (hN o), x7, .no] = .nx [c0, .own (stD s'), x2, .val (fD f), .val (fD (upF c f)), .val (hN c), .val (hN o), y7, .no] := by
    by_cases z : Ft.fin f = true
    · have z' := Ft.fin_up (h := c) f z
      unfold szD at s1 s2
      rw [if_pos z] at s1
      rw [if_pos z', size_cut f c hf.1 z (by have := hf.2.2.1; omega) hc] at s2
      have b := be_lc f hk c0 (.own (stD s')) x2 (.val (fD (upF c f))) (.val (hN c)) (.val (hN o)) x7 (min c.2 99) (Nat.min_le_right _ _)
      have b2 := sum_map (fun n => nod (0, n) f 0) (List.range (min c.2 99))
      rw [sum_to] at b2
      have b3 : -4611686018427387904 ≤ min (c.2 : Int) 99 ∧ min (c.2 : Int) 99 < 4611686018427387904 := by omega
      have b4 : (min (c.2 : Int) 99).toNat = min c.2 99 := by omega
      refine ⟨.val (.int (Ft.sumTo (min c.2 99) (fun n => nod (0, n) f 0))), rfl, ?_⟩
      unfold hN at b ⊢
      generalize upF c f = p at *
      generalize Ft.sumTo (min c.2 99) (fun n => nod (0, n) f 0) = S at *
      unfold laS
      simp [s1, s2, b, b2, b3, b4, h7]
    · unfold szD at s1
      rw [if_neg z] at s1
      refine ⟨x7, h7, ?_⟩
      unfold laS
      simp [s1]
  obtain ⟨y7, g7, hS⟩ := hS
  refine ⟨s', y7, g7, ?_⟩
  show (match laU _ with | .nx sl1 => _ | r => r) = _
  rw [hU]
  show (match laT _ with | .nx sl1 => _ | r => r) = _
  rw [hT]
  show (match laR _ with | .nx sl1 => _ | r => r) = _
  rw [hR]
  show (match laZ _ with | .nx sl1 => _ | r => r) = _
  rw [hZ]
  exact hS
theorem la_loop (c0 : Cell) : ∀ (ds : List D) (s : St) (x2 x3 x4 x5 x6 x7 : Cell), isIo (some x2) = false → isIo (some x3) = false → isIo (some x4) = false → isIo (some x5) = false → isIo (some x6) = false → isIo (some x7) = false →
    ∃ sl, forL (tgN 2) laB ds [c0, .own (stD s), x2, x3, x4, x5, x6, x7, .no] = .nx sl
  | [], s, x2, x3, x4, x5, x6, x7, h2, h3, h4, h5, h6, h7 => ⟨_, rfl⟩
  | d :: ds, s, x2, x3, x4, x5, x6, x7, h2, h3, h4, h5, h6, h7 => by
    obtain ⟨s1, f, hf, e1⟩ := la_A s c0 (.val d) x3 x4 x5 x6 x7 .no h3
    obtain ⟨s2, c, o, hc, e2⟩ := la_C s1 f hf c0 (.val d) x4 x5 x6 x7 .no h5 h6
    obtain ⟨s3, y7, g7, e3⟩ := la_rest s2 f hf c o hc c0 (.val d) x4 x7 h4 h7
    obtain ⟨sl, e4⟩ := la_loop c0 ds s3 (.val d) (.val (fD f)) (.val (fD (upF c f))) (.val (hN c)) (.val (hN o)) y7 rfl rfl rfl rfl rfl g7
    refine ⟨sl, ?_⟩
    have ht : tgN 2 d [c0, .own (stD s), x2, x3, x4, x5, x6, x7, .no] = some [c0, .own (stD s), .val d, x3, x4, x5, x6, x7, .no] := by simp [h2]
    have hb : laB [c0, .own (stD s), .val d, x3, x4, x5, x6, x7, .no] = .nx [c0, .own (stD s3), .val d, .val (fD f), .val (fD (upF c f)), .val (hN c), .val (hN o), y7, .no] := by
      show (match laA _ with | .nx sl1 => _ | r => r) = _
      rw [e1]
      show (match laC _ with | .nx sl1 => _ | r => r) = _
      rw [e2]
      exact e3
    unfold forL
    rw [ht]
    dsimp only
    rw [hb]
    exact e4
theorem LAWPLAIN : PLAIN := fun ns hn => by
  obtain ⟨s, e⟩ := begin_v ns hn
  obtain ⟨sl, e2⟩ := la_loop (.val (.list (ns.map .int))) (rng 0 (5 : Int).toNat) s .no .no .no .no .no .no rfl rfl rfl rfl rfl rfl
  refine ⟨sl.take 1, ?_⟩
  have hc : -4611686018427387904 ≤ (5 : Int) ∧ (5 : Int) < 4611686018427387904 := by decide
  rw [la_eq, e_fnOf]
  simp only [List.replicate, List.cons_append, List.nil_append, e_seqS, e_asgS, e_callE, e_asV, e_asN, e_vl, e_var, List.getElem?_cons_zero, List.getElem?_cons_succ, e_bind, e_frzV, call_v1, e, e_outO, e_frzBO, e_doS, e_setT, e_ioNo, Bool.false_eq_true, if_false, List.set_cons_succ, List.set_cons_zero, e_ceO, e_toNx, e_forS, e_rng1, e_cst, if_pos hc, e2, e_retS]
end Wk
set_option Elab.async false
set_option linter.all false
set_option maxRecDepth 100000
set_option maxHeartbeats 0
open PySem PySem.W PySem.Calls PyProof.Rows
theorem PySem.Challenge.cw_wholeheights_k80_whole_upper_tables_are_holds : PySem.Challenge.rw_wholeheights_k80_whole_upper_tables_are.Holds := by
  w_on; o_law
  refine HandSHeadRun.head_imp (r := OpenLaw.row PySem.Challenge.rw_wholeheights_k80_whole_upper_tables_are) (q := Wk.qv) (H := Wk.hk) (ob := Wk.ob) (M := 4000) (loose := Wk.names) (d := HandSHeadRun.topDef (OpenLaw.row PySem.Challenge.rw_wholeheights_k80_whole_upper_tables_are).prog 69) (kwd := []) Wk.ob_eq
    Wk.run (by kernel_rfl) (by kernel_rfl) (by kernel_rfl) (by rfl) (by first | assumption | decide +kernel) (by decide +kernel) ⟨rfl, rfl, rfl, rfl, rfl, by decide +kernel⟩ ?hw ?hc
  case hw => w_witness2
  case hc =>
    refine Eng.walk_ofW (l := PySem.Challenge.rw_wholeheights_k80_whole_upper_tables_are) (n := 63) (k := 34) (x := "script") (CX := fun w => L2.CX PySem.Challenge.rw_wholeheights_k80_whole_upper_tables_are.prog w) rfl (by decide) (by kernel_rfl) ⟨rfl, by decide, by decide⟩ ?F (fun w => Wk.hCXP)
    intro w mg fa h Y G hmg0
    obtain ⟨K, KX, c⟩ := Y
    have hmg : mg ("law" : PySem.Str) = some (.ref fa) := by
      have e : (HandSHeadRun.topDef (OpenLaw.row PySem.Challenge.rw_wholeheights_k80_whole_upper_tables_are).prog 69).name = ("law" : PySem.Str) := by kernel_rfl
      rw [← e]
      exact hmg0
    have e := hmg.symm.trans (He.glo_ok KX G (c.t.d.fact 56 (f := .glo "law") rfl))
    cases e
    obtain ⟨fd, sp, h1, h2, h3⟩ := Wk.finish (P := PySem.Challenge.rw_wholeheights_k80_whole_upper_tables_are.prog) (w := w) KX G c.t.d c.more Wk.LAWPLAIN
    exact ⟨K, fd, sp, KX, h1, h2, h3⟩
